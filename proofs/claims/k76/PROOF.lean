import PyProof.Rows.All
import Wide.All
import OpenK.AllK
import Wide.FinOn
import HandS.ForMost
import HandS.ForExc
import HandS.ExcInit
import HandS.IsInst
import HandS.ExcIs
import PyProof.Rows.NestShow
import HandS.Wide
import HandS.Steps
import HandS.Defaults
import PyProof.ReprLen
import PyProof.FitsInt
import HandS.Property
import HandS.TupMul
import HandS.Star
import HandS.CallSlots
import HandS.Style
import PySem.Challenge.RW_heldground_k76_far_ends_alone
section
set_option Elab.async false
set_option linter.all false
set_option maxRecDepth 100000
set_option maxHeartbeats 4000000
/-! Own errors of the package: the base's `__init__` called by the class's name, an error without arguments, an error with one field. -/
namespace L2
namespace Hg
open PySem PySem.Spec PyProof.Rows

/-- the base class at G has ValueError's own `__init__` -/
structure BaseInit (K : PySem.W.Frag) (G : Addr) : Prop where
  sp : PySem.W.specialIn K (.ref G) "__getattribute__" = some (some (.builtin "type.__getattribute__"))
  rd : PySem.W.readsIn K G (.type "type") = true
  fc : PySem.W.findCls K (.ref G) (.type "type") "__init__" = some (.val (.builtin "ValueError.__init__"))

section
variable {X : Cx} {e : Expr} {es : List Expr} {ta : TA} {p p1 p2 pos : Pos} {G C fI : Addr} {g x : Str}
theorem pe_ginit {pl : Sem Bool} (hg : Gl X g) (hm : X.mg g = some (.ref G)) (B : BaseInit X.K G) (ha : PA X (e :: es) ta)
    (hdb : (g == ("__debug__" : Str)) = false := by decide)
    (hc : eval (.Call (.Attribute (.Name g p1) "__init__" p2) (e :: es) [] pos) X.env = (do
      let ov ← eval (.Name g p1) X.env
      standAt p2.atName
      let (f, first) ← holding [ov] (getMethod ov "__init__" pl)
      callWith pos f first (backTo pos (starEach (e :: es) X.env)) (backToKw pos (keywordEach [] X.env))) := by rfl)
    (he : starEach (e :: es) X.env = (false, eval e X.env) :: starEach es X.env := by rfl)
    (hpl : (backTo pos (starEach es X.env)).any (·.1) = false := by rfl) :
    PE X (.Call (.Attribute (.Name g p1) "__init__" p2) (e :: es) [] pos) (tVeI X.K ta) := by
  refine ⟨fun pins s σ H Q I h => ?_⟩
  refine PySem.W.methodCall_KW (ld_glob I hg hm ?_ hdb) hc
  refine PySem.W.method_cls I.kIn B.sp (PySem.W.cls_value I.kIn B.rd B.fc (by decide +kernel) ?_)
  show wpAny _ _ (callWith pos (Value.builtin "ValueError.__init__") [] (backTo pos (starEach (e :: es) X.env)) []) _ _ _
  refine PyProof.Rows.callWith_method1 (thn (ha.run pos pins _ σ H _ (I.tok _) h) fun us s1 hq => ?_) he hpl
  obtain ⟨vs, H1, I1, r1, a, C, ws, ev, hl, T, ea, q⟩ := hq
  subst ev
  cases r1 with
  | @cons _ u0 _ ur ra rr =>
    obtain rfl : u0 = Value.ref a := ra
    have hz : ur.length ≤ sizeLine := by
      rw [← Paired.length rr, sizeLine_eq]; omega
    exact oinit_ok T I1 ea hz fun s' J => ⟨.non, H1, J, rfl, q⟩

/-- C(), the class's own `__init__` stores nothing -/
def tMkN (C : Addr) (sp : Sp) : St → Hp → XK → Prop := fun σ H Q => ∀ a, H a = none →
  sp [.ref a] (upd H a (exo a C none)) (fun v H2 => v = .non ∧ H2 a = some (exo a C none) ∧ Q (.ref C) none (del H2 a)) (fun _ _ _ => False)

theorem upd_del {H : Hp} {a : Addr} {o : HO} (h : H a = none) : del (upd H a o) a = H := by
  funext b
  unfold del
  by_cases hb : b = a
  · subst hb; rw [if_pos rfl, h]
  · rw [if_neg hb, upd_ne hb]

theorem mk_endN {pins : List (Addr × Obj)} {σ : St} {H1 H2 : Hp} {Q : XK} {hp hp2 h2 : Heap} {g1 g2 : Array GenState} {d1 d2 : Drawn} {t1 t2 : Nat} {os1 os2 : OsState} {a : Addr}
    (T : Raises X (.ref C)) (I1 : Inv X pins σ H1 ⟨hp, g1, d1, t1, os1⟩) (ha : hp.objs.size ≤ a)
    (k : ∀ b o, hp.get? b = some o → hp2.get? b = some o)
    (un : Un (frs X.stack) [] (upd H1 a (exo a C none)) H2 hp2 h2) (hok : HOk X.prog X.w H2 h2) (ho : os2 = os1) (hb : AllBare g2)
    (ea : H2 a = some (exo a C none)) (q : Q (.ref C) none (del H2 a)) : MkP X pins σ Q (.ref a) ⟨h2, g2, d2, t2, os2⟩ := by
  obtain ⟨t0, hoe⟩ := exo_at hok ea
  have hn : H1 a = none := I1.hok.fresh ha
  obtain ⟨Gh, gA, gB⟩ := restrict h2 fun b => decide (b ≠ a)
  have gk : ∀ b, b ≠ a → Gh.get? b = h2.get? b := fun b hb => gA b (decide_eq_true hb)
  have ge : Gh.get? a = none := gB a (by simp)
  have nha : ∀ {b : Addr} {o : Obj}, hp.get? b = some o → b ≠ a := fun {b o} z =>
    Nat.ne_of_lt (Nat.lt_of_lt_of_le (Heap.lt_size z) ha)
  have up : ∀ {b : Addr}, b ≠ a → H1 b = none → upd H1 a (exo a C none) b = none := fun {b} hb n => by
    rw [upd_ne hb]; exact n
  have U : Un (frs X.stack) [] H1 (del H2 a) hp Gh :=
    { keep := fun b o z n hf hx => by
        rw [gk b (nha z)]
        exact un.keep b o (k b o z) (up (nha z) n) hf hx
      slot := fun b o z n hf hx => by
        rw [gk b (nha z)]
        exact un.slot b o (k b o z) (up (nha z) n) hf hx
      free := fun b o z n hx => by
        rw [del_ne (nha z)]
        exact un.free b o (k b o z) (up (nha z) n) hx
      there := fun b o z hx => by
        rw [gk b (nha z)]
        exact un.there b o (k b o z) hx
      tups := fun b xs z => by
        rw [del_ne (ne_of_none z hn)]
        exact un.tups b xs ((upd_ne (ne_of_none z hn)).trans z)
      frzs := fun b o v z => by
        rw [del_ne (ne_of_none z hn)]
        exact un.frzs b o v ((upd_ne (ne_of_none z hn)).trans z)
      tbls := fun b ps z => by
        rw [del_ne (ne_of_none z hn)]
        exact un.tbls b ps ((upd_ne (ne_of_none z hn)).trans z) }
  have hok3 : HOk X.prog X.w (del H2 a) Gh := fun b o z => by
    have hba : b ≠ a := fun w => by rw [w, del_same] at z; cases z
    rw [del_ne hba] at z
    have noa : ∀ {c : Addr}, H2 c = some (.own b) → c ≠ a := fun {c} hc => at_ne ea hc exo_own
    refine (hok b o z).stay (fun c v hc y => ?_) (fun c hc => ?_) (fun c xs hc => ?_)
    · have hca : c ≠ a := by
        rcases hc with hc | hc
        · rw [hc]; exact hba
        · exact noa hc
      rw [gk c hca]; exact y
    · rw [del_ne (noa hc)]; exact hc
    · rw [del_ne (at_ne ea hc exo_tup)]; exact hc
  have J : Inv X pins σ (del H2 a) ⟨Gh, g2, d2, t2, os2⟩ := I1.call' (ch := []) ho U hok3 hb fun b z => absurd z (by simp)
  refine ⟨a, _, _, ⟨Gh, g2, d2, t2, os2⟩, _, .ref C, none, rfl, J, fun b o z => ?_, ge, hoe, ⟨rfl, rfl⟩, rfl, rfl, del_same, rfl, hb, T, q⟩
  by_cases hba : b = a
  · rw [hba] at z
    have z' : Gh.get? a = some o := z
    rw [ge] at z'; cases z'
  · exact (gk b hba).symm.trans z

theorem pmk_oexN {CX : CXT} {k : Nat} {fd : FuncData} {ps : List Str} {sp : Sp} (T : OexC X.K C)
    (iC : PySem.W.findIn X.K (.ref C) "__init__" = some (some (.ref fI))) (tI : PySem.W.typeIn X.K (.ref fI) = some (.type "function"))
    (F1 : FnOk X.prog X.w X.K X.mg X.base CX k fI fd ps sp) (hr : Room (k + 1) X.A) (hb : Binds X.K fd ps [])
    (hx : Passes CX X (fun _ _ _ => False)) (hg : Gl X x) (hm : X.mg x = some (.ref C))
    (hdb : (x == ("__debug__" : Str)) = false := by decide) : PMk X (.Call (.Name x p) [] [] pos) (tMkN C sp) := by
  intro pins s σ H Q I h
  obtain ⟨nm, q, N, bs, bm, sn, sub, ab, col, dd, k0, k1, k2, k3, k5, hC, hbm⟩ := T.cls
  refine wpAny_Call_Name_kw (ld_glob I hg hm ?_ hdb)
  refine PySem.W.callWith_K0 I.kIn T.kC ?_
  show wpAny _ _ (call (.ref C) []) _ _ _
  obtain ⟨hp, gs, dr, tk, os⟩ := s
  have hsz : hp.objs.size ≤ hp.objs.size + 1 := Nat.le_succ _
  have hn : H (hp.objs.size + 1) = none := I.hok.fresh hsz
  have hq := h (hp.objs.size + 1) hn
  have kk : ∀ b o, hp.get? b = some o → ((hp.push (PySem.W.kdv_tup [])).push (PySem.HandSPX.excO C hp.objs.size)).get? b = some o :=
    fun b o z => Heap.get?_push_of_some _ (Heap.get?_push_of_some _ z)
  have hget : ((hp.push (PySem.W.kdv_tup [])).push (PySem.HandSPX.excO C hp.objs.size)).get? (hp.objs.size + 1) = some (PySem.HandSPX.excO C hp.objs.size) := by heap_get
  have I2 : Inv X pins σ (upd H (hp.objs.size + 1) (exo (hp.objs.size + 1) C none)) ⟨(hp.push (PySem.W.kdv_tup [])).push (PySem.HandSPX.excO C hp.objs.size), gs, dr, tk, os⟩ :=
    I.laid (t' := tk) (a := hp.objs.size + 1) (o := exo (hp.objs.size + 1) C none) (h' := (hp.push (PySem.W.kdv_tup [])).push (PySem.HandSPX.excO C hp.objs.size)) kk hsz (exo_ok hget)
  have r2 : Vals [V.ref (hp.objs.size + 1)] [Value.ref (hp.objs.size + 1)] := .cons rfl .nil
  have hl : ([Value.ref (hp.objs.size + 1)] ++ []).length = ps.length := by
    have z := r2.length
    rw [F1.len _ _ _ _ hq] at z
    exact z.symm
  refine wpAny_call (PySem.HandSPX.call_own F.excBase_ValueError (fun Y => PySem.HandSPX.refsVE_contains Y bm hbm) (I.kIn _ _ hC) (PySem.W.looks_findIn I.kIn iC) (fun self => PySem.W.bind_fn I.kIn self tI) (Nat.zero_le _)
    (codeAny_mono (F1.run _ X.stack _ _ ⟨[Value.ref (hp.objs.size + 1)], []⟩ [Value.ref (hp.objs.size + 1)] _ _ (fun _ _ _ => False) (hr.make C [] []) (I2.env0.make C [] []) (hb _ [Value.ref (hp.objs.size + 1)] I2.kIn hl) r2 hq) fun r s' hq' => ?_))
  cases r with
  | error er => exact hx pins σ _ _ er s' I2 hq'
  | ok fl =>
    cases fl with
    | ret u =>
      obtain ⟨v, H2, os2, bare2, un2, hok2, rv, ev, ea, q2⟩ := hq'
      subst ev
      obtain ⟨h2, g2, d2, t2, os'⟩ := s'
      exact ⟨rv, mk_endN (raises_own T.exC T.tyC) I hsz kk un2 hok2 os2 bare2 ea q2⟩
    | next => exact False.elim hq'
    | brk => exact False.elim hq'
    | cont => exact False.elim hq'
end

/-! ### promises of the errors' `__init__` -/
/-- no field -/
def spInitN (K : PySem.W.Frag) (C : Addr) : Sp := fun vs H Q _ => ∃ a, vs = [.ref a] ∧ OexC K C ∧ H a = some (exo a C none) ∧ Q .non H
/-- one field f -/
def spInitF (K : PySem.W.Frag) (C : Addr) (f : Str) : Sp := fun vs H Q _ => ∃ a x, vs = [.ref a, x] ∧ OexC K C ∧ PySem.W.findIn K (.ref C) f = some none ∧ H a = some (exo a C none) ∧
  ∀ dx, H dx = none → dx ≠ a → Q .non (upd (upd H dx (exd dx [(f, x)])) a (exo a C (some dx)))
theorem upd_three {H : Hp} {a d : Addr} {o1 o2 o3 o4 : HO} (h : H a = none) (hd : d ≠ a) : upd (del (upd (upd (upd H a o1) d o2) a o3) a) d o4 = upd H d o4 := by
  funext b
  by_cases hb : b = d
  · subst hb; rw [upd_same, upd_same]
  · rw [upd_ne hb, upd_ne hb]
    by_cases hba : b = a
    · subst hba; rw [del_same, h]
    · rw [del_ne hba, upd_ne hba, upd_ne hb, upd_ne hba]
section
variable {K : PySem.W.Frag} {C : Addr} {f : Str} {σ : St} {H : Hp} {Q : XK}
/-- C() read -/
theorem r_mkN (T : OexC K C) (k : Q (.ref C) none H) : tMkN C (spInitN K C) σ H Q := by
  intro a ha
  refine ⟨a, rfl, T, upd_same, rfl, upd_same, ?_⟩
  rw [upd_del ha]
  exact k
/-- C(x) read -/
theorem r_mkF {x : V} {ta : TA} (T : OexC K C) (hf : PySem.W.findIn K (.ref C) f = some none)
    (h : ta σ H fun vs H1 => ∃ x, vs = [x] ∧ ∀ d, H1 d = none → Q (.ref C) (some d) (upd H1 d (.xd [(f, x)])))
    (mono : ∀ {P P' : List V → Hp → Prop}, (∀ vs H, P vs H → P' vs H) → ta σ H P → ta σ H P') : tMkO C (spInitF K C f) [] ta σ H Q := by
  refine mono (fun vs H1 hq => ?_) h
  obtain ⟨x, rfl, q⟩ := hq
  refine ⟨(by show 1 ≤ 1000; decide), fun a ha => ?_⟩
  refine ⟨a, x, rfl, T, hf, upd_same, fun dx hdx ne => ⟨rfl, dx, [(f, x)], upd_same, ?_, ?_, ?_⟩⟩
  · rw [upd_ne ne, upd_same]
  · rw [upd_ne ne] at hdx; exact hdx
  · rw [upd_three ha ne]
    rw [upd_ne ne] at hdx
    exact q dx hdx
end
end Hg
end L2
end

section
set_option Elab.async false
set_option linter.all false
set_option maxRecDepth 100000
set_option maxHeartbeats 4000000
/-! Promises that hold where no repr is under way (guards empty), and repr of data. -/
namespace L2
namespace Hg
open PySem PySem.Spec PyProof.Rows

/-- a def's promise, asked where no guard is set -/
structure FnG (P : Program) (w : World) (K : PySem.W.Frag) (mg : Str → Option Value) (base : Heap) (CX : CXT) (k : Nat) (f : Addr) (fd : FuncData) (ps : List Str) (sp : Sp) : Prop where
  len : ∀ vs H Q E, sp vs H Q E → vs.length = ps.length
  run : ∀ (A : Around) (outer : List Env) (s : Shared) (H : Hp) (args : Args) (us : List Value) (vs : List V) (Q : VK) (E : XK),
    A.guards = some [] → Room k A → Env0 P w K mg base A outer s H → BindsTo s fd args (ps.zip us) → Vals vs us → sp vs H Q E →
    codeAny (model P w) A (.call (.ref f) args) (CR CX outer P w H s Q E) s

section
variable {P : Program} {w : World} {K : PySem.W.Frag} {mg : Str → Option Value} {base : Heap} {CX : CXT} {j k : Nat} {f : Addr} {fd : FuncData} {ps : List Str} {sp : Sp}
theorem _root_.L2.FnOk.g (F : FnOk P w K mg base CX k f fd ps sp) : FnG P w K mg base CX k f fd ps sp :=
  ⟨F.len, fun A outer s H args us vs Q E _ => F.run A outer s H args us vs Q E⟩

theorem fn_ofG {name qual : Str} {params : Arguments} {body : List Stmt} {scope : Scope} {dV kV doc pm cdv ct oc : Value} {an od : Option Addr}
    {osl : Array (Option Value)} {N : List Str} (lk : K.lookup f = some ⟨oc, od, .func (PySem.W.fnOf name qual params body scope dV kV doc pm an cdv ct), osl⟩)
    (hcd : PySem.W.codeIn K cdv qual = true) (S : FnScope N ps scope)
    (len : ∀ vs H Q E, sp vs H Q E → vs.length = ps.length)
    (hbody : ∀ (A : Around) (outer : List Env) (s : Shared) (H : Hp) (vs : List V) (Q : VK) (E : XK), A.guards = some [] →
      Room k (A.deeper (envOfC qual scope s.heap.objs.size f cdv)) → sp vs H Q E →
      ∃ t, PSs (cxOf CX P w K mg base N qual scope f cdv A outer s H E) body t ∧ t { nx := fun _ H' => Q .non H', rt := Q } (start N vs) H) :
    FnG P w K mg base CX (k + 1) f (PySem.W.fnOf name qual params body scope dV kV doc pm an cdv ct) ps sp := by
  constructor
  · exact len
  intro A outer s H args us vs Q E hgd hr e0 hb r hsp
  have hl := len _ _ _ _ hsp
  have old : ∀ b o, base.get? b = some o → s.heap.get? b = some o := fun b o z => (e0.bs b o z).1
  have KX : K.In s.heap := e0.mod.kin.keeps old
  have lim : s.heap.NoLimit := e0.mod.nolimit.keeps old
  have hkind : ∀ y ∈ ps.zip us, scope.names.lookup y.1 = some .local ∨
      (scope.names.lookup y.1 = some .cell ∧ ((cellsFrom (s.heap.objs.size + 1) scope.names []).lookup y.1).isSome = true) := by
    rintro ⟨n, v⟩ hy
    rcases S.par n (List.of_mem_zip hy).1 with q | q
    · exact Or.inl q
    · exact Or.inr ⟨q, PySem.W.cellsFrom_some _ _ _ (.inl q)⟩
  refine codeAny_call_function hr.depth (KX _ _ lk) rfl S.co S.gen rfl (PySem.W.codeRec_of KX hcd) (hb _ _ _ _ ?_)
  refine wpAny_newFunctionEnv_cells S.kind hkind fun env he s1 x => ?_
  subst he
  refine ⟨lim.keeps x.toInCall.keep, codeAny_func ?_⟩
  obtain ⟨t, ht, hq⟩ := hbody A outer s H vs Q E hgd (hr.deeper _) hsp
  have I : Inv (cxOf CX P w K mg base N qual scope f cdv A outer s H E) [] (start N vs) H s1 := inv_start S hr.hd e0 hl r x
  have fin : ∀ {s' : Shared} {σ' : St} {H' : Hp} {v : V} {u : Value}, Inv (cxOf CX P w K mg base N qual scope f cdv A outer s H E) [] σ' H' s' →
      RelV v u → Q v H' → CE outer P w H s Q u s' := fun J rv q => ⟨_, _, J.os, J.bare, J.base, J.hok, rv, q⟩
  refine wpAny_mono (ht.run [] s1 (start N vs) H _ I hq) (fun fl s' hs => ?_) fun e s' hs => hs
  cases fl with
  | ret u =>
    obtain ⟨v, σ', H', J, rv, q⟩ := hs
    exact fin J rv q
  | next =>
    obtain ⟨σ', H', J, q⟩ := hs
    exact fin (v := V.non) (u := Value.none) J rfl q
  | brk =>
    obtain ⟨_, _, _, q⟩ := hs
    cases q
  | cont =>
    obtain ⟨_, _, _, q⟩ := hs
    cases q

/-- a def of the text, by its body; no error leaves it -/
theorem okG {x qual : Str} {st : Stmt} {N : List Str} (F : Fun K x qual st f fd) (S : FnScope N ps (defScope st)) (len : ∀ vs H Q E, sp vs H Q E → vs.length = ps.length)
    (hbody : ∀ (cdv : Value) (A : Around) (outer : List Env) (s : Shared) (H : Hp) (vs : List V) (Q : VK) (E : XK), A.guards = some [] →
      Room k (A.deeper (envOfC qual (defScope st) s.heap.objs.size f cdv)) → sp vs H Q E →
      ∃ t, PSs (cxOf CX0 P w K mg base N qual (defScope st) f cdv A outer s H E).nox (defBody st) t ∧ t { nx := fun _ H' => Q .non H', rt := Q } (start N vs) H) :
    FnG P w K mg base CX0 (k + 1) f fd ps sp := by
  obtain ⟨oc, od, kV, doc, pm, an, cdv, ct, osl, rfl, lk, hcd⟩ := F.ex
  refine fn_ofG lk hcd S len fun A outer s H vs Q E hg hr hsp => ?_
  obtain ⟨t, h, q⟩ := hbody cdv A outer s H vs Q E hg hr hsp
  exact ⟨t, h.nox, q⟩
end

section
variable {X : Cx} {CX : CXT} {k : Nat} {f C : Addr} {fd : FuncData} {ps : List Str} {sp : Sp} {dvs : List V} {ds : List Value} {E : XK} {x m : Str} {p pos apos : Pos} {e o : Expr} {es : List Expr} {ta : TE} {t : TA}
theorem run_fnG {pins : List (Addr × Obj)} {σ : St} {H : Hp} {s : Shared} {Q : VK} {us : List Value} {vs : List V} (F : FnG X.prog X.w X.K X.mg X.base CX k f fd ps sp)
    (hg : X.A.guards = some []) (hr : Room k X.A) (hb : Binds X.K fd ps ds) (hd : Vals dvs ds) (hx : Passes CX X E)
    (I : Inv X pins σ H s) (r : Vals vs us) (h : sp (vs ++ dvs) H Q E) : wpAny (model X.prog X.w) X.A (call (.ref f) us) (EP X pins σ Q) X.xe s := by
  have r2 : Vals (vs ++ dvs) (us ++ ds) := r.append hd
  have hl : (us ++ ds).length = ps.length := by
    rw [← r2.length]
    exact F.len _ _ _ _ h
  have main := F.run X.A X.stack s H ⟨us, []⟩ (us ++ ds) (vs ++ dvs) Q E hg hr I.env0 (hb s us I.kIn hl) r2 h
  refine wpAny_call (codeAny_mono main fun r s' hq => ?_)
  cases r with
  | error er => exact hx pins σ H s er s' I hq
  | ok fl =>
    cases fl with
    | ret u => exact I.after hq
    | next => exact False.elim hq
    | brk => exact False.elim hq
    | cont => exact False.elim hq
theorem pe_callG (F : FnG X.prog X.w X.K X.mg X.base CX k f fd ps sp) (hgd : X.A.guards = some []) (hr : Room k X.A) (hg : Gl X x) (hm : X.mg x = some (.ref f)) (hk : PySem.W.keepIn X.K (.ref f) = true)
    (hb : Binds X.K fd ps ds) (hd : Vals dvs ds) (hx : Passes CX X E) (ha : PA X (e :: es) t) (hdb : (x == ("__debug__" : Str)) = false := by decide)
    (he : starEach (e :: es) X.env = (false, eval e X.env) :: starEach es X.env := by rfl) (hpl : (backTo pos (starEach es X.env)).any (·.1) = false := by rfl) :
    PE X (.Call (.Name x p) (e :: es) [] pos) (tCall sp dvs E t) := by
  refine ⟨fun pins s σ H Q I h => wpAny_Call_Name_kw (ld_glob I hg hm ?_ hdb)⟩
  exact PySem.W.callWith_K (h₀ := X.base) I.ok.mod.kin hk (thn (ha.run pos pins s σ H _ I h) fun us s1 ⟨vs, H1, I1, r, q⟩ => ⟨I1.kIn, run_fnG F hgd hr hb hd hx I1 r q⟩) he hpl
theorem pe_callG0 (F : FnG X.prog X.w X.K X.mg X.base CX k f fd ps sp) (hgd : X.A.guards = some []) (hr : Room k X.A) (hg : Gl X x) (hm : X.mg x = some (.ref f)) (hk : PySem.W.keepIn X.K (.ref f) = true)
    (hb : Binds X.K fd ps ds) (hd : Vals dvs ds) (hx : Passes CX X E) (hdb : (x == ("__debug__" : Str)) = false := by decide) : PE X (.Call (.Name x p) [] [] pos) (tCall sp dvs E tNil) := by
  refine ⟨fun pins s σ H Q I h => wpAny_Call_Name_kw (ld_glob I hg hm ?_ hdb)⟩
  exact PySem.W.callWith_K0 I.kIn hk (run_fnG (us := []) F hgd hr hb hd hx I .nil h)

/-- repr of data -/
def rRepr (K : PySem.W.Frag) : List V → Hp → VK → Prop := fun vs H Q => ∃ x d, vs = [x] ∧ Dp K H x d ∧ d.showable = true ∧ d.hasDict = false ∧ d.depth ≤ 60 ∧ d.shown.length ≤ sizeLine ∧ Q (.str d.shown) H
theorem call_repr (hgd : X.A.guards = some []) (hr : X.A.units + 64 < cLine) : CallR X (.builtin "repr") (rRepr X.K) := by
  intro pins s σ H vs us Q I r h
  obtain ⟨x, d, rfl, hd, hs, hn, hz, hl, q⟩ := h
  obtain ⟨u, rfl, rx⟩ := vals1 r
  obtain ⟨as, rd⟩ := Dp.reads I d x u hd rx
  cases d with
  | none => cases rd; exact PySem.P.repr_of_none ⟨.str _, H, I.tok _, ⟨_, rfl⟩, q⟩
  | bool b => cases rd; exact PySem.P.repr_of_bool ⟨.str _, H, I.tok _, ⟨_, rfl⟩, q⟩
  | int i => cases rd; exact PySem.P.repr_of_int (by simpa [PyData.showable] using hs) ⟨.str _, H, I.tok _, ⟨_, rfl⟩, q⟩
  | str y => cases rd; exact PySem.P.repr_of_str ⟨.str _, H, I.tok _, ⟨_, rfl⟩, q⟩ hl
  | list xs =>
    have hh := hd
    cases hh
    cases (show u = Value.ref _ from rx)
    exact repr_of_reads' rd hs (PyData.noDict_hsm hn) hgd (by omega) (fun _ _ z => z) (fun h' u tk hk => ⟨.str _, H, I.kept (t' := tk) hk, ⟨u, rfl⟩, q⟩) hl
  | tuple xs =>
    have hh := hd
    cases hh
    cases (show u = Value.ref _ from rx)
    exact repr_of_reads' rd hs (PyData.noDict_hsm hn) hgd (by omega) (fun _ _ z => z) (fun h' u tk hk => ⟨.str _, H, I.kept (t' := tk) hk, ⟨u, rfl⟩, q⟩) hl
  | dict _ => cases hn
end
end Hg
end L2
end

section
set_option Elab.async false
set_option linter.all false
set_option maxRecDepth 100000
set_option maxHeartbeats 4000000
/-! One rule an operator, for all the kinds that the package uses; readings in steps. -/
namespace L2
namespace Hg
open PySem PySem.Spec PyProof.Rows

/-! ### operators by values -/
def uAddI : R2 := rI0 fun i j => .int (i + j)
def uAddS : R2 := fun x y H Q => ∃ i j, x = .str i ∧ y = .str j ∧ i.length + j.length ≤ sizeLine ∧ Q (.str (i ++ j)) H
def uAdd (K : PySem.W.Frag) : R2 := fun x y H Q => uAddI x y H Q ∨ uAddS x y H Q ∨ rCat x y H Q ∨ rCatT K x y H Q
def uSub : R2 := rI0 fun i j => .int (i - j)
def uMul : R2 := fun x y H Q => rI CMul (fun i j => .int (i * j)) x y H Q ∨ rI CMulW (fun i j => .int (i * j)) x y H Q ∨ rRep x y H Q
def uDiv : R2 := fun x y H Q => rI CDiv (fun i j => .int (i / j)) x y H Q ∨ rI CDivW (fun i j => .int (i / j)) x y H Q
def uMod : R2 := rI (fun _ j => 0 < j) fun i j => .int (i % j)
def uPow : R2 := rI CPow fun i j => .int (i ^ j.toNat)
def uLt : R2 := rI0 fun i j => .bl (decide (i < j))
def uLe : R2 := rI0 fun i j => .bl (decide (i ≤ j))
def uGt : R2 := rI0 fun i j => .bl (decide (j < i))
def uGe : R2 := rI0 fun i j => .bl (decide (j ≤ i))
def uEq (K : PySem.W.Frag) : R2 := fun x y H Q => rEq x y H Q ∨ rEqD K x y H Q
def uNe (K : PySem.W.Frag) : R2 := fun x y H Q => rNe x y H Q ∨ rNeD K x y H Q
def uIn (K : PySem.W.Frag) : R2 := fun x y H Q => rIn K false x y H Q ∨ rInS x y H Q
def uNotIn (K : PySem.W.Frag) : R2 := fun x y H Q => rIn K true x y H Q ∨ rNotInS x y H Q
section
variable {X : Cx}
theorem o_add (K : PySem.W.Frag) (hK : X.K = K := by rfl) : OpR X (binaryOp .Add) (uAdd K) := hK ▸ OpR.or op_add (OpR.or op_add_str (OpR.or op_cat op_catT))
theorem o_sub : OpR X (binaryOp .Sub) uSub := op_sub
theorem o_mul : OpR X (binaryOp .Mult) uMul := OpR.or op_mul (OpR.or op_mulW op_rep)
theorem o_div : OpR X (binaryOp .FloorDiv) uDiv := OpR.or op_fdiv op_fdivW
theorem o_mod : OpR X (binaryOp .Mod) uMod := op_mod
theorem o_pow : OpR X (binaryOp .Pow) uPow := op_pow
theorem o_lt : OpR X (compareOp .Lt) uLt := op_lt
theorem o_le : OpR X (compareOp .LtE) uLe := op_le
theorem o_gt : OpR X (compareOp .Gt) uGt := op_gt
theorem o_ge : OpR X (compareOp .GtE) uGe := op_ge
theorem o_eq (K : PySem.W.Frag) (hu : X.A.units + 64 < cLine) (hK : X.K = K := by rfl) : OpR X (compareOp .Eq) (uEq K) := hK ▸ OpR.or op_eq (op_eqD hu)
theorem o_ne (K : PySem.W.Frag) (hu : X.A.units + 64 < cLine) (hK : X.K = K := by rfl) : OpR X (compareOp .NotEq) (uNe K) := hK ▸ OpR.or op_ne (op_neD hu)
theorem o_in (K : PySem.W.Frag) (hK : X.K = K := by rfl) : OpR X (compareOp .In) (uIn K) := hK ▸ OpR.or op_in_seq op_inS
theorem o_notIn (K : PySem.W.Frag) (hK : X.K = K := by rfl) : OpR X (compareOp .NotIn) (uNotIn K) := hK ▸ OpR.or op_notIn_seq op_notInS
theorem o_is : OpR X (compareOp .Is) rIsN := op_isN1
theorem o_isNot : OpR X (compareOp .IsNot) rNotN := op_notN1
theorem ix_u (K : PySem.W.Frag) (hK : X.K = K := by rfl) : IxR X (rIx K) := hK ▸ ix_seq
end

/-! ### calls of built-ins by values -/
def uLen (K : PySem.W.Frag) : List V → Hp → VK → Prop := fun xs H Q => (∃ x n, xs = [x] ∧ LenV K x H n ∧ Q (.int n) H) ∨ ∃ a kvs, xs = [V.ref a] ∧ H a = some (.dK kvs) ∧ Q (.int kvs.length) H
def uAbs : List V → Hp → VK → Prop := fun xs H Q => ∃ i, xs = [.int i] ∧ Q (.int (if i < 0 then -i else i)) H
def uMin2 : List V → Hp → VK → Prop := fun xs H Q => ∃ i j, xs = [.int i, .int j] ∧ Q (.int (if j < i then j else i)) H
def uMax2 : List V → Hp → VK → Prop := fun xs H Q => ∃ i j, xs = [.int i, .int j] ∧ Q (.int (if j > i then j else i)) H
def uInt : List V → Hp → VK → Prop := fun xs H Q => ((∃ i, xs = [.int i] ∧ Q (.int i) H) ∨ ∃ k, xs = [.bl k] ∧ Q (.int (if k then 1 else 0)) H) ∨ ∃ a n, xs = [.str a] ∧ PySem.intText? a = some n ∧ a.length ≤ 640 ∧ Q (.int n) H
def uList (K : PySem.W.Frag) : List V → Hp → VK → Prop := fun xs H Q => ∃ p ys, xs = [.ref p] ∧ (SqL K H p ys ∨ SqT K H p ys) ∧ ∀ l, H l = none → Q (.ref l) (upd H l (.lst ys))
def uTuple (K : PySem.W.Frag) : List V → Hp → VK → Prop := fun xs H Q => ∃ p ys, xs = [.ref p] ∧ ((SqL K H p ys ∧ ∀ l, H l = none → Q (.ref l) (upd H l (.tup ys))) ∨ (SqT K H p ys ∧ Q (.ref p) H))
section
variable {X : Cx}
theorem c_len (K : PySem.W.Frag) (hK : X.K = K := by rfl) : CallR X (.builtin "len") (uLen K) := hK ▸ CallR.or call_len call_lenD
theorem c_abs : CallR X (.builtin "abs") uAbs := call_abs
theorem c_min2 (hc : X.calm = true) : CallR X (.builtin "min") uMin2 := call_min2 hc
theorem c_max2 (hc : X.calm = true) : CallR X (.builtin "max") uMax2 := call_max2 hc
theorem c_int : CallR X (.type "int") uInt := CallR.or call_int1 call_int_str
theorem c_list (K : PySem.W.Frag) (hK : X.K = K := by rfl) : CallR X (.type "list") (uList K) := hK ▸ call_list_of
theorem c_tuple (K : PySem.W.Frag) (hK : X.K = K := by rfl) : CallR X (.type "tuple") (uTuple K) := hK ▸ call_tuple_of
theorem c_isi (K : PySem.W.Frag) (hK : X.K = K := by rfl) : CallR X (.builtin "isinstance") (rIsi K) := hK ▸ call_isi
theorem c_isiT (K : PySem.W.Frag) (hK : X.K = K := by rfl) : CallR X (.builtin "isinstance") (rIsiT K) := hK ▸ call_isiT
theorem c_repr (K : PySem.W.Frag) (hgd : X.A.guards = some []) (hr : X.A.units + 64 < cLine) (hK : X.K = K := by rfl) : CallR X (.builtin "repr") (rRepr K) := hK ▸ call_repr hgd hr
theorem c_sum (K : PySem.W.Frag) (hc : X.calm = true) (hK : X.K = K := by rfl) : CallR X (.builtin "sum") (rSum K) := hK ▸ cr_sum hc
theorem c_all (K : PySem.W.Frag) (hc : X.calm = true) (hK : X.K = K := by rfl) : CallR X (.builtin "all") (rAll K) := hK ▸ cr_all hc
theorem c_any (K : PySem.W.Frag) (hc : X.calm = true) (hK : X.K = K := by rfl) : CallR X (.builtin "any") (rAny K) := hK ▸ cr_any hc
end

/-! ### names of the module -/
section
variable {X : Cx} {x : Str} {pos : Pos}
theorem pe_gI {i : Int} (hg : Gl X x) (hm : ∃ t, X.mg x = some (.int i t)) (hd : (x == ("__debug__" : Str)) = false := by decide) : PE X (.Name x pos) (tC (.int i)) :=
  let ⟨_, h⟩ := hm
  pe_glob hg h ⟨_, rfl⟩ hd
theorem pe_gS {z : Str} (hg : Gl X x) (hm : ∃ t, X.mg x = some (.str z t)) (hd : (x == ("__debug__" : Str)) = false := by decide) : PE X (.Name x pos) (tC (.str z)) :=
  let ⟨_, h⟩ := hm
  pe_glob hg h ⟨_, rfl⟩ hd
theorem pe_gR {a : Addr} (hg : Gl X x) (hm : X.mg x = some (.ref a)) (hd : (x == ("__debug__" : Str)) = false := by decide) : PE X (.Name x pos) (tC (.ref a)) :=
  pe_glob hg hm rfl hd
theorem pe_bT {T : String} (hg : Gl X x) (hm : X.mg x = none) (hv : bootBuiltins x = some (.type T)) (hn : x ≠ "__name__" := by decide) (hd : (x == ("__debug__" : Str)) = false := by decide) : PE X (.Name x pos) (tC (.ty T)) :=
  pe_bltn hg hm hv rfl hn hd
end

/-! ### the written part by its name -/
section
variable {X : Cx} {a : Expr} {ta : TE} {K : PySem.W.Frag}
theorem pt_tr (K : PySem.W.Frag) (ha : PE X a ta) (he : ∀ whole, isTrue a X.env whole = (do let v ← whole; standAt a.pos; holding [v] (truthy v)) := by intro _; rfl) (hK : X.K = K := by rfl) :
    PT X a (fun σ H Q => ta σ H fun x H' => ∃ k, TruV K x H' k ∧ Q k H') := hK ▸ pt_truth ha he
theorem pe_fl {e : Expr} {f : Str} {pos : Pos} (K : PySem.W.Frag) (ha : PE X e ta) (hb : attributeBase e f X.env (eval e X.env) = eval e X.env := by rfl) (hK : X.K = K := by rfl) : PE X (.Attribute e f pos) (tFld K ta f) := hK ▸ pe_fld ha hb
theorem ps_fl {o value : Expr} {f : Str} {pos' pos : Pos} {tv : TE} (K : PySem.W.Frag) (ho : PE X o ta) (hv : PE X value tv) (hs : swapsWith value (some (.Attribute o f pos')) pos.line X.env = pure false := by rfl) (hK : X.K = K := by rfl) :
    PS X (.Assign [.Attribute o f pos'] value pos) (sFld K ta tv f) := hK ▸ ps_fld ho hv hs
end

section
variable {X : Cx} {tg e : Expr} {t : TE}
theorem pi_l (K : PySem.W.Frag) (ha : PE X e t) (hK : X.K = K := by rfl) : PI X tg e (iList K t) := hK ▸ pi_list ha
theorem pg_l {es : List Expr} {k n : Nat} {t : TGs} {pos : Pos} (K : PySem.W.Frag) (hc : X.calm = true) (h : PGs X es t) (hn : (assignEach es X.env).length = n := by rfl) (hst : (assignEach es X.env).findIdx? (·.1) = none := by rfl) (hK : X.K = K := by rfl) :
    PG X (.Tuple es k pos) (gLst K n t) := hK ▸ pg_lst hc h hn hst
theorem pg_t {es : List Expr} {k n : Nat} {t : TGs} {pos : Pos} (K : PySem.W.Frag) (hc : X.calm = true) (h : PGs X es t) (hn : (assignEach es X.env).length = n := by rfl) (hst : (assignEach es X.env).findIdx? (·.1) = none := by rfl) (hK : X.K = K := by rfl) :
    PG X (.Tuple es k pos) (gTup K n t) := hK ▸ pg_tup hc h hn hst
theorem pi_t (K : PySem.W.Frag) (ha : PE X e t) (hK : X.K = K := by rfl) : PI X tg e (iTup K t) := hK ▸ pi_tup ha
end
/-! ### errors that pass -/
section
variable {X : Cx}
theorem passF {P : Program} {w : World} : Passes (L2.CX P w) X E0 := by
  intro pins σ H s e s' I c
  obtain ⟨a, B, H', cls, d, _, _, _, _, _, _, _, h⟩ := c
  exact h.elim
theorem passT {E : XK} (tk : Takes X (fun cls d _ H => E cls d H)) : Passes (L2.CX X.prog X.w) X E := passes_call tk fun _ _ _ _ z => z
variable {CX : CXT} {k : Nat} {f C : Addr} {fd : FuncData} {ps : List Str} {sp : Sp} {dvs : List V} {ds : List Value} {E : St → XK} {x m : Str} {p pos apos : Pos} {e o : Expr} {es : List Expr} {ta : TE} {t : TA}
/-- C(..) where what is raised is wished at the slots -/
def tMakeS (C : Addr) (sp : Sp) (dvs : List V) (E : St → XK) (t : TA) : TE := fun σ H Q => t σ H fun vs H1 => ∀ x dx, H1 x = none → H1 dx = none → dx ≠ x →
  sp (.ref x :: (vs ++ dvs)) (upd (upd H1 dx (.own x)) x (.ins C dx [])) (fun v H2 => v = .non ∧ Q (.ref x) H2) (E σ)
theorem run_makeS {pins : List (Addr × Obj)} {σ : St} {H : Hp} {s : Shared} {Q : VK} {us : List Value} {vs : List V} (M : Mk X.K C f) (F : FnOk X.prog X.w X.K X.mg X.base CX k f fd ps sp) (hr : Room (k + 1) X.A)
    (hb : Binds X.K fd ps ds) (hd : Vals dvs ds) (hx : PassesAt CX X σ (E σ)) (I : Inv X pins σ H s) (r : Vals vs us)
    (h : ∀ x dx, H x = none → H dx = none → dx ≠ x → sp (.ref x :: (vs ++ dvs)) (upd (upd H dx (.own x)) x (.ins C dx [])) (fun v H2 => v = .non ∧ Q (.ref x) H2) (E σ)) :
    wpAny (model X.prog X.w) X.A (call (.ref C) us) (EP X pins σ Q) X.xe s := by
  have hq := h (s.heap.objs.size + 1) s.heap.objs.size (I.hok.fresh (Nat.le_succ _)) (I.hok.fresh (Nat.le_refl _)) (Nat.ne_of_lt (Nat.lt_succ_self _))
  have I2 := Inv.made (C := C) I
  have r2 : Vals (V.ref (s.heap.objs.size + 1) :: (vs ++ dvs)) (Value.ref (s.heap.objs.size + 1) :: (us ++ ds)) := .cons rfl (r.append hd)
  have hl : (Value.ref (s.heap.objs.size + 1) :: us ++ ds).length = ps.length := by
    have z := r2.length
    rw [F.len _ _ _ _ hq] at z
    exact z.symm
  have main := F.run _ X.stack _ _ ⟨Value.ref (s.heap.objs.size + 1) :: us, []⟩ (Value.ref (s.heap.objs.size + 1) :: (us ++ ds)) _ _ (E σ) (hr.make C us [])
    (I2.env0.make C us []) (hb _ (Value.ref (s.heap.objs.size + 1) :: us) I2.kIn hl) r2 hq
  refine wpAny_call (make_map (f := f) I.kIn M.makes M.init (beq_iff_eq.mp M.fn) (codeAny_mono main fun r s' hq' => ?_))
  cases r with
  | error er => exact hx pins _ _ er s' I2 hq'
  | ok fl =>
    cases fl with
    | ret u =>
      obtain ⟨v, H', I3, rv, ev, q3⟩ := I2.after hq'
      subst ev
      exact ⟨rv, ⟨V.ref (s.heap.objs.size + 1), H', I3, rfl, q3⟩⟩
    | next => exact False.elim hq'
    | brk => exact False.elim hq'
    | cont => exact False.elim hq'
theorem pe_makeS (M : Mk X.K C f) (F : FnOk X.prog X.w X.K X.mg X.base CX k f fd ps sp) (hr : Room (k + 1) X.A) (hg : Gl X x) (hm : X.mg x = some (.ref C)) (hb : Binds X.K fd ps ds) (hd : Vals dvs ds) (hx : ∀ σ, PassesAt CX X σ (E σ))
    (ha : PA X (e :: es) t) (hdb : (x == ("__debug__" : Str)) = false := by decide) (he : starEach (e :: es) X.env = (false, eval e X.env) :: starEach es X.env := by rfl) (hpl : (backTo pos (starEach es X.env)).any (·.1) = false := by rfl) :
    PE X (.Call (.Name x p) (e :: es) [] pos) (tMakeS C sp dvs E t) := by
  refine ⟨fun pins s σ H Q I h => wpAny_Call_Name_kw (ld_glob I hg hm ?_ hdb)⟩
  exact PySem.W.callWith_K (h₀ := X.base) I.ok.mod.kin M.kp (thn (ha.run pos pins s σ H _ I h) fun us s1 ⟨vs, H1, I1, r, q⟩ => ⟨I1.kIn, run_makeS M F hr hb hd (hx σ) I1 r q⟩) he hpl
end
end Hg
end L2
end

section
set_option Elab.async false
set_option linter.all false
set_option maxRecDepth 100000
set_option maxHeartbeats 4000000
/-! Readings, one step each (each is a reading's own definition, turned into a rule to be applied backwards). -/
namespace L2
namespace Hg
open PySem PySem.Spec PyProof.Rows
section
variable {K : PySem.W.Frag} {σ : St} {H : Hp} {Q : VK} {QB : Bool → Hp → Prop} {QL : List V → Hp → Prop} {QS : St → Hp → Prop} {D : Ends} {v x y : V} {i j : Nat} {ta tb tc te : TE} {t u : TT} {tl tr : TA} {ts t1 t2 : TS}
theorem sz {n : Nat} (h : n ≤ 100000) : n ≤ sizeLine := Nat.le_trans h (by decide)
theorem szl {n : Nat} (h : Nat.ble n 100000 = true) : n ≤ sizeLine := sz (Nat.le_of_ble_eq_true h)
theorem szlt {n : Nat} (h : Nat.ble n 100000 = true) : n < sizeLine := Nat.lt_of_le_of_lt (Nat.le_of_ble_eq_true h) (by decide : 100000 < sizeLine)
theorem at_upd {p q : Addr} {o u : HO} (n : q ≠ p) (h : H q = some o) : upd H p u q = some o := (upd_ne n).trans h
theorem free_upd {p q : Addr} {o : HO} (h : upd H p o q = none) : H q = none ∧ q ≠ p := by
  by_cases e : q = p
  · subst e; rw [upd_same] at h; cases h
  · exact ⟨(upd_ne e).symm.trans h, e⟩
/-! ### expressions -/
theorem r_var (h : σ[i]? = some (some v)) (k : Q v H) : tVar i σ H Q := ⟨v, h, k⟩
theorem r_c (k : Q v H) : tC v σ H Q := k
theorem r_op {r : R2} (k : ta σ H fun x H1 => tb σ H1 fun y H2 => r x y H2 Q) : tOp r ta tb σ H Q := k
theorem r_un {r : V → Hp → VK → Prop} (k : ta σ H fun x H1 => r x H1 Q) : tUn r ta σ H Q := k
theorem r_neg {a : Int} (k : Q (.int (-a)) H) : (rU fun i => .int (-i)) (.int a) H Q := ⟨a, rfl, k⟩
theorem r_cb {r : List V → Hp → VK → Prop} (k : tl σ H fun vs H1 => r vs H1 Q) : tCB r tl σ H Q := k
theorem r_nil (k : QL [] H) : tNil σ H QL := k
theorem r_cons (k : ta σ H fun x H1 => tr σ H1 fun xs H2 => QL (x :: xs) H2) : tCons ta tr σ H QL := k
theorem r_call {sp : Sp} {dvs : List V} {E : XK} (k : tl σ H fun vs H1 => sp (vs ++ dvs) H1 Q E) : tCall sp dvs E tl σ H Q := k
theorem r_callS {sp : Sp} {E : St → XK} (k : tl σ H fun vs H1 => sp vs H1 Q (E σ)) : tCallS sp E tl σ H Q := k
theorem r_tup (k : tl σ H fun xs H1 => xs.length ≤ sizeLine ∧ ∀ p, H1 p = none → Q (.ref p) (upd H1 p (.tup xs))) : tTup tl σ H Q := k
theorem r_lst (k : tl σ H fun xs H1 => xs.length ≤ sizeLine ∧ ∀ p, H1 p = none → Q (.ref p) (upd H1 p (.lst xs))) : tLst tl σ H Q := k
theorem r_if (k : t σ H fun c H1 => if c = true then ta σ H1 Q else tb σ H1 Q) : tIf t ta tb σ H Q := k
theorem r_test (k : te σ H fun x H' => ∃ c, x = .bl c ∧ QB c H') : tTest te σ H QB := k
theorem r_B (k : te σ H fun x H' => ∃ c, x = .bl c ∧ QB c H') : tB te σ H QB := k
theorem r_bl {b : Bool} {R : Bool → Prop} (k : R b) : ∃ c, V.bl b = .bl c ∧ R c := ⟨b, rfl, k⟩
theorem r_tru {b : Bool} {R : Bool → Prop} (k : R b) : ∃ c, TruV K (.bl b) H c ∧ R c := ⟨b, rfl, k⟩
theorem r_and (k : t σ H fun c H1 => if c = true then u σ H1 QB else QB false H1) : tAnd t u σ H QB := k
theorem r_or (k : t σ H fun c H1 => if c = true then QB true H1 else u σ H1 QB) : tOr t u σ H QB := k
theorem r_not (k : t σ H fun c H1 => QB (!c) H1) : tNot t σ H QB := k
theorem r_andV (k : ta σ H fun x H1 => ∃ c, x = .bl c ∧ if c = true then tb σ H1 Q else Q (.bl false) H1) : tAndV ta tb σ H Q := k
theorem r_orV (k : ta σ H fun x H1 => ∃ c, x = .bl c ∧ if c = true then Q (.bl true) H1 else tb σ H1 Q) : tOrV ta tb σ H Q := k
theorem r_notV (k : ta σ H fun x H1 => ∃ c, x = .bl c ∧ Q (.bl (!c)) H1) : tNotV ta σ H Q := k
theorem r_chain {r r' : R2} (k : ta σ H fun x H1 => tb σ H1 fun y H2 => r x y H2 fun z H3 => ∃ c, z = .bl c ∧ (if c = true then tc σ H3 fun w H4 => r' y w H4 Q else Q (.bl false) H3)) : tChain r r' ta tb tc σ H Q := k
theorem r_ite {c : Bool} {A B : Prop} (h1 : c = true → A) (h2 : c = false → B) : if c = true then A else B := by
  cases c with
  | true => exact h1 rfl
  | false => exact h2 rfl
theorem r_T {A B : Prop} (h : A) : if true = true then A else B := h
theorem r_F {A B : Prop} (h : B) : if false = true then A else B := h
theorem r_nT {A B : Prop} (h : A) : if (!false) = true then A else B := h
theorem r_nF {A B : Prop} (h : B) : if (!true) = true then A else B := h
theorem r_Td {c : Prop} [Decidable c] {A B : Prop} (hc : c) (h : A) : if decide c = true then A else B := by rw [decide_eq_true hc]; exact h
theorem r_Fd {c : Prop} [Decidable c] {A B : Prop} (hc : ¬ c) (h : B) : if decide c = true then A else B := by rw [decide_eq_false hc]; exact h
theorem r_id {c : Prop} [Decidable c] {A B : Prop} (h1 : c → A) (h2 : ¬ c → B) : if decide c = true then A else B := by
  by_cases h : c
  · exact r_Td h (h1 h)
  · exact r_Fd h (h2 h)
/-! ### operators by values -/
theorem r_I0 {g : Int → Int → V} {a b : Int} (k : Q (g a b) H) : rI0 g (.int a) (.int b) H Q := ⟨a, b, rfl, rfl, k⟩
theorem r_I {C : Int → Int → Prop} {g : Int → Int → V} {a b : Int} (c : C a b) (k : Q (g a b) H) : rI C g (.int a) (.int b) H Q := ⟨a, b, rfl, rfl, c, k⟩
theorem r_addI {a b : Int} (k : Q (.int (a + b)) H) : uAdd K (.int a) (.int b) H Q := .inl ⟨a, b, rfl, rfl, k⟩
theorem r_addS {a b : Str} (z : a.length + b.length ≤ sizeLine) (k : Q (.str (a ++ b)) H) : uAdd K (.str a) (.str b) H Q := .inr (.inl ⟨a, b, rfl, rfl, z, k⟩)
theorem r_addL {a b : Addr} {xs ys : List V} (ha : H a = some (.lst xs)) (hb : H b = some (.lst ys)) (z : xs.length + ys.length ≤ sizeLine) (k : ∀ p, H p = none → Q (.ref p) (upd H p (.lst (xs ++ ys)))) : uAdd K (.ref a) (.ref b) H Q :=
  .inr (.inr (.inl ⟨a, b, xs, ys, rfl, rfl, ha, hb, z, k⟩))
theorem r_addT {a b : Addr} {xs ys : List V} (ha : SqT K H a xs) (hb : SqT K H b ys) (ne : xs ≠ []) (z : xs.length + ys.length ≤ sizeLine) (k0 : ys = [] → Q (.ref a) H) (k : ys ≠ [] → ∀ p, H p = none → Q (.ref p) (upd H p (.tup (xs ++ ys)))) : uAdd K (.ref a) (.ref b) H Q :=
  .inr (.inr (.inr ⟨a, b, xs, ys, rfl, rfl, ha, hb, ne, z, k0, k⟩))
theorem r_sub {a b : Int} (k : Q (.int (a - b)) H) : uSub (.int a) (.int b) H Q := ⟨a, b, rfl, rfl, k⟩
theorem r_mul {a b : Int} (c : CMul a b) (k : Q (.int (a * b)) H) : uMul (.int a) (.int b) H Q := .inl ⟨a, b, rfl, rfl, c, k⟩
theorem r_mulW {a b : Int} (c : CMulW a b) (k : Q (.int (a * b)) H) : uMul (.int a) (.int b) H Q := .inr (.inl ⟨a, b, rfl, rfl, c, k⟩)
theorem r_rep {a : Addr} {n : Int} {xs : List V} (ha : H a = some (.lst xs)) (h0 : -(2 ^ 63) ≤ n) (h1 : n < 2 ^ 63) (z : xs.length * n.toNat ≤ sizeLine) (k : ∀ p, H p = none → Q (.ref p) (upd H p (.lst (List.replicate n.toNat xs).flatten))) : uMul (.ref a) (.int n) H Q :=
  .inr (.inr ⟨a, n, xs, rfl, rfl, ha, h0, h1, z, k⟩)
theorem cmulL {a b : Int} (h : -(2 ^ 64) < a ∧ a < 2 ^ 64) : CMul a b := .inl h
theorem cmulR {a b : Int} (h : -(2 ^ 64) < b ∧ b < 2 ^ 64) : CMul a b := .inr h
theorem r_div {a b : Int} (h0 : 0 < b) (h1 : b < 1073741824) (k : Q (.int (a / b)) H) : uDiv (.int a) (.int b) H Q := .inl ⟨a, b, rfl, rfl, ⟨h0, h1⟩, k⟩
theorem r_divW {a b : Int} (c : CDivW a b) (k : Q (.int (a / b)) H) : uDiv (.int a) (.int b) H Q := .inr ⟨a, b, rfl, rfl, c, k⟩
theorem r_mod {a b : Int} (h0 : 0 < b) (k : Q (.int (a % b)) H) : uMod (.int a) (.int b) H Q := ⟨a, b, rfl, rfl, h0, k⟩
theorem r_pow {a b : Int} (c : CPow a b) (k : Q (.int (a ^ b.toNat)) H) : uPow (.int a) (.int b) H Q := ⟨a, b, rfl, rfl, c, k⟩
theorem r_lt {a b : Int} (k : Q (.bl (decide (a < b))) H) : uLt (.int a) (.int b) H Q := ⟨a, b, rfl, rfl, k⟩
theorem r_le {a b : Int} (k : Q (.bl (decide (a ≤ b))) H) : uLe (.int a) (.int b) H Q := ⟨a, b, rfl, rfl, k⟩
theorem r_gt {a b : Int} (k : Q (.bl (decide (b < a))) H) : uGt (.int a) (.int b) H Q := ⟨a, b, rfl, rfl, k⟩
theorem r_ge {a b : Int} (k : Q (.bl (decide (b ≤ a))) H) : uGe (.int a) (.int b) H Q := ⟨a, b, rfl, rfl, k⟩
theorem r_eq (s : scal x y = true) (k : Q (.bl (decide (x = y))) H) : uEq K x y H Q := .inl ⟨s, k⟩
theorem r_eqD {d e : PyData} (hd : Dp K H x d) (he : Dp K H y e) (sd : SeqAt.shaped d = true) (se : SeqAt.shaped e = true) (k : Q (.bl (PyData.eqv d e)) H) : uEq K x y H Q := .inr ⟨d, e, hd, he, sd, se, k⟩
theorem r_ne (s : scal x y = true) (k : Q (.bl (!decide (x = y))) H) : uNe K x y H Q := .inl ⟨s, k⟩
theorem r_neD {d e : PyData} (hd : Dp K H x d) (he : Dp K H y e) (sd : SeqAt.shaped d = true) (se : SeqAt.shaped e = true) (k : Q (.bl (!PyData.eqv d e)) H) : uNe K x y H Q := .inr ⟨d, e, hd, he, sd, se, k⟩
theorem r_isN (k : Q (.bl (decide (x = .non))) H) : rIsN x .non H Q := ⟨rfl, k⟩
theorem r_notN (k : Q (.bl (!decide (x = .non))) H) : rNotN x .non H Q := ⟨rfl, k⟩
theorem r_inQ {p : Addr} {xs : List V} (h : SqL K H p xs ∨ SqT K H p xs) (fx : flatV x = true) (fs : xs.all flatV = true) (k : Q (.bl (inV x xs)) H) : uIn K x (.ref p) H Q := .inl ⟨p, xs, rfl, h, fx, fs, k⟩
theorem r_inS {c : Nat} {z : Str} (k : Q (.bl (decide (c ∈ z.cps.toList))) H) : uIn K (.str ⟨#[c]⟩) (.str z) H Q := .inr ⟨c, z, rfl, rfl, k⟩
theorem r_ninQ {p : Addr} {xs : List V} (h : SqL K H p xs ∨ SqT K H p xs) (fx : flatV x = true) (fs : xs.all flatV = true) (k : Q (.bl (!inV x xs)) H) : uNotIn K x (.ref p) H Q := .inl ⟨p, xs, rfl, h, fx, fs, k⟩
/-- xs[i] of a list that stands in H (ixL), of any list or tuple that may be read -/
theorem r_ixL {p : Addr} {n : Int} {xs : List V} (h : SqL K H p xs) (ha : atI xs n = some v) (k : Q v H) : rIx K (.ref p) (.int n) H Q := .inl ⟨p, xs, n, v, rfl, rfl, h, ha, k⟩
theorem r_ixT {p : Addr} {n : Int} {xs : List V} (h : SqT K H p xs) (ha : atI xs n = some v) (k : Q v H) : rIx K (.ref p) (.int n) H Q := .inr (.inl ⟨p, xs, n, v, rfl, rfl, h, ha, k⟩)
theorem r_ixS {z : Str} {n : Int} {c : Nat} (h : z.length ≤ sizeLine) (ha : atI z.cps.toList n = some c) (k : Q (.str ⟨#[c]⟩) H) : rIx K (.str z) (.int n) H Q := .inr (.inr ⟨z, n, c, rfl, rfl, h, ha, k⟩)
/-! ### built-ins by values -/
theorem r_lenL {p : Addr} {xs : List V} (h : SqL K H p xs) (k : Q (.int (xs.length : Nat)) H) : uLen K [.ref p] H Q := .inl ⟨_, _, rfl, .inl ⟨xs, h, rfl⟩, k⟩
theorem r_lenT {p : Addr} {xs : List V} (h : SqT K H p xs) (k : Q (.int (xs.length : Nat)) H) : uLen K [.ref p] H Q := .inl ⟨_, _, rfl, .inr ⟨xs, h, rfl⟩, k⟩
theorem r_lenS {z : Str} (h : z.length ≤ sizeLine) (k : Q (.int (z.length : Nat)) H) : uLen K [.str z] H Q := .inl ⟨_, _, rfl, ⟨h, rfl⟩, k⟩
theorem r_lenD {p : Addr} {kvs : List (Key × V)} (h : H p = some (.dK kvs)) (k : Q (.int (kvs.length : Nat)) H) : uLen K [.ref p] H Q := .inr ⟨p, kvs, rfl, h, k⟩
theorem r_abs {a : Int} (k : Q (.int (if a < 0 then -a else a)) H) : uAbs [.int a] H Q := ⟨a, rfl, k⟩
theorem r_min2 {a b : Int} (k : Q (.int (if b < a then b else a)) H) : uMin2 [.int a, .int b] H Q := ⟨a, b, rfl, k⟩
theorem r_max2 {a b : Int} (k : Q (.int (if b > a then b else a)) H) : uMax2 [.int a, .int b] H Q := ⟨a, b, rfl, k⟩
theorem r_intI {a : Int} (k : Q (.int a) H) : uInt [.int a] H Q := .inl (.inl ⟨a, rfl, k⟩)
theorem r_intB {b : Bool} (k : Q (.int (if b then 1 else 0)) H) : uInt [.bl b] H Q := .inl (.inr ⟨b, rfl, k⟩)
theorem r_list {p : Addr} {xs : List V} (h : SqL K H p xs ∨ SqT K H p xs) (k : ∀ l, H l = none → Q (.ref l) (upd H l (.lst xs))) : uList K [.ref p] H Q := ⟨p, xs, rfl, h, k⟩
theorem r_tupL {p : Addr} {xs : List V} (h : SqL K H p xs) (k : ∀ l, H l = none → Q (.ref l) (upd H l (.tup xs))) : uTuple K [.ref p] H Q := ⟨p, xs, rfl, .inl ⟨h, k⟩⟩
theorem r_tupT {p : Addr} {xs : List V} (h : SqT K H p xs) (k : Q (.ref p) H) : uTuple K [.ref p] H Q := ⟨p, xs, rfl, .inr ⟨h, k⟩⟩
theorem r_isi {c : V} {t u : Value} {b : Bool} (hc : ClsV c u) (ht : TyX K H x t) (hk : PySem.W.kitOne K t u = some b) (k : Q (.bl b) H) : rIsi K [x, c] H Q := ⟨x, c, t, u, b, rfl, hc, ht, hk, k⟩
theorem r_repr {d : PyData} (hd : Dp K H x d) (hs : d.showable = true) (hn : d.hasDict = false) (hz : d.depth ≤ 60) (hl : d.shown.length ≤ sizeLine) (k : Q (.str d.shown) H) : rRepr K [x] H Q := ⟨x, d, rfl, hd, hs, hn, hz, hl, k⟩
/-! ### statements -/
theorem r_seq (k : t1 { D with nx := t2 D } σ H) : tSeq t1 t2 D σ H := k
theorem r_next (k : D.nx σ H) : tNext D σ H := k
theorem r_asg {g : TG} (k : te σ H fun x H1 => g x σ H1 D.nx) : tAsg te g D σ H := k
theorem r_gName (k : QS (σ.set i (some v)) H) : gName i v σ H QS := k
theorem r_gSub {to ti : TE} {s : TSet} (k : to σ H fun o H1 => ti σ H1 fun i H2 => s o i v H2 fun H3 => QS σ H3) : gSub to ti s v σ H QS := k
theorem r_setL {p : Addr} {n : Int} {xs : List V} {m : Nat} {QH : Hp → Prop} (h : H p = some (.lst xs)) (hi : ixN xs.length n = some m) (k : QH (upd H p (.lst (xs.set m v)))) : rSetL (.ref p) (.int n) v H QH := ⟨p, xs, n, m, rfl, rfl, h, hi, k⟩
theorem r_ret (k : te σ H D.rt) : tRet te D σ H := k
theorem r_ifS (k : t σ H fun b H1 => if b = true then t1 D σ H1 else t2 D σ H1) : tIfS t t1 t2 D σ H := k
theorem r_drop (k : te σ H fun _ H1 => D.nx σ H1) : tDrop te D σ H := k
theorem r_for {wi : TI} {g : TG} (k : wi σ H fun J H1 => ∃ W : Nat → Nat → St → Hp → Prop, (∃ m, W 0 m σ H1) ∧ ∀ i m σ H, W i m σ H →
  (J.stop i H ∧ D.nx σ H) ∨ (J.go i H ∧ ∃ N : St → Hp → Prop, (∀ σ' H', N σ' H' → ∃ m', m' < m ∧ W (i + 1) m' σ' H') ∧ ∀ x H', J.yld i H x H' → g x σ H' fun σ2 H2 => ts { D with nx := N, ct := N, bk := D.nx } σ2 H2)) : tFor wi g ts D σ H := k
/-- for k in range(n) -/
theorem r_forR {tl : TA} {n : Int} {g : TG} (Pv : Nat → St → Hp → Prop) (h : tl σ H fun vs H1 => vs = [.int n] ∧ -(2 ^ 62) ≤ n ∧ n < 2 ^ 62 ∧ Pv 0 σ H1)
    (mono : ∀ {P P' : List V → Hp → Prop}, (∀ vs H, P vs H → P' vs H) → tl σ H P → tl σ H P')
    (hs : ∀ i σ H, i < n.toNat → Pv i σ H → g (.int (i : Nat)) σ H fun σ2 H2 => ts { D with nx := Pv (i + 1), ct := Pv (i + 1), bk := D.nx } σ2 H2)
    (hd : ∀ σ H, Pv n.toNat σ H → D.nx σ H) : tFor (iRng1 tl) g ts D σ H := by
  refine mono (fun vs H1 q => ?_) h
  obtain ⟨rfl, h1, h2, q⟩ := q
  refine ⟨n, rfl, h1, h2, for_range (lo := 0) (n := n.toNat) Pv q (fun i σ H hi p => ?_) hd⟩
  rw [Int.zero_add]
  exact hs i σ H hi p
end
end Hg
end L2
end

section
set_option Elab.async false
set_option linter.all false
set_option maxRecDepth 100000
set_option maxHeartbeats 4000000
/-! A def of the text as one hypothesis: where it stands (DefAt), what it keeps (DefOk, DefG); classes and errors likewise; boxes of draws. -/
namespace L2
namespace Hg
open PySem PySem.Spec PyProof.Rows

structure DefAt (K : PySem.W.Frag) (mg : Str → Option Value) (x : Str) (st : Stmt) : Prop where
  ex : ∃ f fd, mg x = some (.ref f) ∧ Fun K x x st f fd
def DefOk (P : Program) (w : World) (K : PySem.W.Frag) (mg : Str → Option Value) (base : Heap) (CX : CXT) (k : Nat) (x : Str) (ps : List Str) (sp : Sp) : Prop :=
  ∃ f fd, mg x = some (.ref f) ∧ PySem.W.keepIn K (.ref f) = true ∧ FnOk P w K mg base CX k f fd ps sp ∧ Binds K fd ps []
def DefG (P : Program) (w : World) (K : PySem.W.Frag) (mg : Str → Option Value) (base : Heap) (CX : CXT) (k : Nat) (x : Str) (ps : List Str) (sp : Sp) : Prop :=
  ∃ f fd, mg x = some (.ref f) ∧ PySem.W.keepIn K (.ref f) = true ∧ FnG P w K mg base CX k f fd ps sp ∧ Binds K fd ps []
abbrev BindsBy (st : Stmt) (x : Str) (ps : List Str) : Prop := ∀ (kV doc pm : Value) (an : Option Addr) (cdv ct : Value) (us : List Value), us.length = ps.length →
  bindArgs (PySem.W.fnOf x x (defArgs st) (defBody st) (defScope st) .none kV doc pm an cdv ct) ⟨us, []⟩ = pure (ps.zip us)
section
variable {P : Program} {w : World} {K : PySem.W.Frag} {mg : Str → Option Value} {base : Heap} {k : Nat} {x : Str} {st : Stmt} {N ps : List Str} {sp : Sp}
theorem DefAt.ok (F : DefAt K mg x st) (S : FnScope N ps (defScope st)) (hb : BindsBy st x ps) (len : ∀ vs H Q E, sp vs H Q E → vs.length = ps.length)
    (hbody : ∀ (f : Addr) (cdv : Value) (A : Around) (outer : List Env) (s : Shared) (H : Hp) (vs : List V) (Q : VK) (E : XK), Room k (A.deeper (envOfC x (defScope st) s.heap.objs.size f cdv)) → sp vs H Q E →
      ∃ t, PSs (cxOf CX0 P w K mg base N x (defScope st) f cdv A outer s H E).nox (defBody st) t ∧ t { nx := fun _ H' => Q .non H', rt := Q } (start N vs) H) : DefOk P w K mg base CX0 (k + 1) x ps sp := by
  obtain ⟨f, fd, hm, F⟩ := F.ex
  exact ⟨f, fd, hm, F.kp, F.ok S len fun cdv A outer s H vs Q E hr h => hbody f cdv A outer s H vs Q E hr h, F.binds hb⟩
theorem DefAt.okX (F : DefAt K mg x st) (S : FnScope N ps (defScope st)) (hb : BindsBy st x ps) (len : ∀ vs H Q E, sp vs H Q E → vs.length = ps.length)
    (hbody : ∀ (f : Addr) (cdv : Value) (A : Around) (outer : List Env) (s : Shared) (H : Hp) (vs : List V) (Q : VK) (E : XK), Room k (A.deeper (envOfC x (defScope st) s.heap.objs.size f cdv)) → sp vs H Q E →
      ∃ t, PSs (cxOf (L2.CX P w) P w K mg base N x (defScope st) f cdv A outer s H E) (defBody st) t ∧ t { nx := fun _ H' => Q .non H', rt := Q } (start N vs) H) : DefOk P w K mg base (L2.CX P w) (k + 1) x ps sp := by
  obtain ⟨f, fd, hm, F⟩ := F.ex
  exact ⟨f, fd, hm, F.kp, F.okX S len fun cdv A outer s H vs Q E hr h => hbody f cdv A outer s H vs Q E hr h, F.binds hb⟩
theorem DefAt.okG (F : DefAt K mg x st) (S : FnScope N ps (defScope st)) (hb : BindsBy st x ps) (len : ∀ vs H Q E, sp vs H Q E → vs.length = ps.length)
    (hbody : ∀ (f : Addr) (cdv : Value) (A : Around) (outer : List Env) (s : Shared) (H : Hp) (vs : List V) (Q : VK) (E : XK), A.guards = some [] → Room k (A.deeper (envOfC x (defScope st) s.heap.objs.size f cdv)) → sp vs H Q E →
      ∃ t, PSs (cxOf CX0 P w K mg base N x (defScope st) f cdv A outer s H E).nox (defBody st) t ∧ t { nx := fun _ H' => Q .non H', rt := Q } (start N vs) H) : DefG P w K mg base CX0 (k + 1) x ps sp := by
  obtain ⟨f, fd, hm, F⟩ := F.ex
  exact ⟨f, fd, hm, F.kp, Hg.okG F S len fun cdv A outer s H vs Q E hg hr h => hbody f cdv A outer s H vs Q E hg hr h, F.binds hb⟩
end
section
variable {X : Cx} {CX : CXT} {k : Nat} {ps : List Str} {sp : Sp} {E : XK} {x : Str} {p pos : Pos} {e : Expr} {es : List Expr} {t : TA}
theorem pe_callD (F : DefOk X.prog X.w X.K X.mg X.base CX k x ps sp) (hr : Room k X.A) (hx : Passes CX X E) (hg : Gl X x) (ha : PA X (e :: es) t) (hdb : (x == ("__debug__" : Str)) = false := by decide)
    (he : starEach (e :: es) X.env = (false, eval e X.env) :: starEach es X.env := by rfl) (hpl : (backTo pos (starEach es X.env)).any (·.1) = false := by rfl) : PE X (.Call (.Name x p) (e :: es) [] pos) (tCall sp [] E t) :=
  let ⟨_, _, hm, hk, G, hb⟩ := F
  pe_call G hr hg hm hk hb .nil hx ha hdb he hpl
theorem pe_callD0 (F : DefOk X.prog X.w X.K X.mg X.base CX k x ps sp) (hr : Room k X.A) (hx : Passes CX X E) (hg : Gl X x) (hdb : (x == ("__debug__" : Str)) = false := by decide) : PE X (.Call (.Name x p) [] [] pos) (tCall sp [] E tNil) :=
  let ⟨_, _, hm, hk, G, hb⟩ := F
  pe_call0 G hr hg hm hk hb .nil hx hdb
theorem pe_callDG (F : DefG X.prog X.w X.K X.mg X.base CX k x ps sp) (hgd : X.A.guards = some []) (hr : Room k X.A) (hx : Passes CX X E) (hg : Gl X x) (ha : PA X (e :: es) t) (hdb : (x == ("__debug__" : Str)) = false := by decide)
    (he : starEach (e :: es) X.env = (false, eval e X.env) :: starEach es X.env := by rfl) (hpl : (backTo pos (starEach es X.env)).any (·.1) = false := by rfl) : PE X (.Call (.Name x p) (e :: es) [] pos) (tCall sp [] E t) :=
  let ⟨_, _, hm, hk, G, hb⟩ := F
  pe_callG G hgd hr hg hm hk hb .nil hx ha hdb he hpl
theorem pe_callDG0 (F : DefG X.prog X.w X.K X.mg X.base CX k x ps sp) (hgd : X.A.guards = some []) (hr : Room k X.A) (hx : Passes CX X E) (hg : Gl X x) (hdb : (x == ("__debug__" : Str)) = false := by decide) : PE X (.Call (.Name x p) [] [] pos) (tCall sp [] E tNil) :=
  let ⟨_, _, hm, hk, G, hb⟩ := F
  pe_callG0 G hgd hr hg hm hk hb .nil hx hdb
end

/-! ### errors -/
/-- the error class x at C: its own `__init__` st, over the base G named g -/
structure ErrAt (K : PySem.W.Frag) (mg : Str → Option Value) (x q : Str) (st : Stmt) (C : Addr) : Prop where
  hm : mg x = some (.ref C)
  cl : OexC K C
  it : ∃ f fd, PySem.W.findIn K (.ref C) "__init__" = some (some (.ref f)) ∧ PySem.W.typeIn K (.ref f) = some (.type "function") ∧ Fun K "__init__" q st f fd
structure BaseAt (K : PySem.W.Frag) (mg : Str → Option Value) (g : Str) (G : Addr) : Prop where
  hm : mg g = some (.ref G)
  bi : BaseInit K G
/-- what making such an error keeps -/
def ErrOk (P : Program) (w : World) (K : PySem.W.Frag) (mg : Str → Option Value) (base : Heap) (k : Nat) (x : Str) (C : Addr) (ps : List Str) (sp : Sp) : Prop :=
  mg x = some (.ref C) ∧ OexC K C ∧ ∃ f fd, PySem.W.findIn K (.ref C) "__init__" = some (some (.ref f)) ∧ PySem.W.typeIn K (.ref f) = some (.type "function") ∧ FnOk P w K mg base CX0 k f fd ps sp ∧ Binds K fd ps []
abbrev BindsAs (st : Stmt) (x q : Str) (ps : List Str) : Prop := ∀ (kV doc pm : Value) (an : Option Addr) (cdv ct : Value) (us : List Value), us.length = ps.length →
  bindArgs (PySem.W.fnOf x q (defArgs st) (defBody st) (defScope st) .none kV doc pm an cdv ct) ⟨us, []⟩ = pure (ps.zip us)
section
variable {P : Program} {w : World} {K : PySem.W.Frag} {mg : Str → Option Value} {base : Heap} {k : Nat} {x q : Str} {st : Stmt} {C : Addr} {N ps : List Str} {sp : Sp}
theorem ErrAt.ok (F : ErrAt K mg x q st C) (S : FnScope N ps (defScope st)) (hb : BindsAs st "__init__" q ps) (len : ∀ vs H Q E, sp vs H Q E → vs.length = ps.length)
    (hbody : ∀ (f : Addr) (cdv : Value) (A : Around) (outer : List Env) (s : Shared) (H : Hp) (vs : List V) (Q : VK) (E : XK), Room k (A.deeper (envOfC q (defScope st) s.heap.objs.size f cdv)) → sp vs H Q E →
      ∃ t, PSs (cxOf CX0 P w K mg base N q (defScope st) f cdv A outer s H E).nox (defBody st) t ∧ t { nx := fun _ H' => Q .non H', rt := Q } (start N vs) H) : ErrOk P w K mg base (k + 1) x C ps sp := by
  obtain ⟨f, fd, hi, ht, F1⟩ := F.it
  exact ⟨F.hm, F.cl, f, fd, hi, ht, F1.ok S len fun cdv A outer s H vs Q E hr h => hbody f cdv A outer s H vs Q E hr h, F1.binds hb⟩
end
section
variable {X : Cx} {k : Nat} {ps : List Str} {sp : Sp} {x : Str} {p pos : Pos} {C : Addr} {e : Expr} {es : List Expr} {ta : TA}
theorem pmkN (F : ErrOk X.prog X.w X.K X.mg X.base k x C ps sp) (hr : Room (k + 1) X.A) (hg : Gl X x) (hdb : (x == ("__debug__" : Str)) = false := by decide) : PMk X (.Call (.Name x p) [] [] pos) (tMkN C sp) :=
  let ⟨hm, T, _, _, iC, tI, F1, hb⟩ := F
  pmk_oexN T iC tI F1 hr hb (fun _ _ _ _ _ _ _ c => c.elim) hg hm hdb
theorem pmkF (F : ErrOk X.prog X.w X.K X.mg X.base k x C ps sp) (hr : Room (k + 1) X.A) (hg : Gl X x) (ha : PA X (e :: es) ta) (hdb : (x == ("__debug__" : Str)) = false := by decide)
    (he : starEach (e :: es) X.env = (false, eval e X.env) :: starEach es X.env := by rfl) (hpl : (backTo pos (starEach es X.env)).any (·.1) = false := by rfl) : PMk X (.Call (.Name x p) (e :: es) [] pos) (tMkO C sp [] ta) :=
  let ⟨hm, T, _, _, iC, tI, F1, hb⟩ := F
  pmk_oex T iC tI F1 hr hb .nil (fun _ _ _ _ _ _ _ c => c.elim) hg hm ha hdb he hpl
end

/-! ### classes -/
/-- the class x at C -/
structure ClsAt (K : PySem.W.Frag) (mg : Str → Option Value) (x : Str) (C : Addr) : Prop where
  hm : mg x = some (.ref C)
  cl : Cls K C
  mks : PySem.W.makesIn K C = true
  kp : PySem.W.keepIn K (.ref C) = true
/-- making an instance of x -/
def MakeOk (P : Program) (w : World) (K : PySem.W.Frag) (mg : Str → Option Value) (base : Heap) (CX : CXT) (k : Nat) (x : Str) (C : Addr) (ps : List Str) (dvs : List V) (sp : Sp) : Prop :=
  mg x = some (.ref C) ∧ ∃ f fd ds, Mk K C f ∧ FnOk P w K mg base CX k f fd ps sp ∧ Binds K fd ps ds ∧ Vals dvs ds
section
variable {X : Cx} {CX : CXT} {k : Nat} {ps : List Str} {dvs : List V} {sp : Sp} {E : XK} {ES : St → XK} {x : Str} {p pos : Pos} {C : Addr} {e : Expr} {es : List Expr} {t : TA}
theorem pe_makeD (F : MakeOk X.prog X.w X.K X.mg X.base CX k x C ps dvs sp) (hr : Room (k + 1) X.A) (hx : Passes CX X E) (hg : Gl X x) (ha : PA X (e :: es) t) (hdb : (x == ("__debug__" : Str)) = false := by decide)
    (he : starEach (e :: es) X.env = (false, eval e X.env) :: starEach es X.env := by rfl) (hpl : (backTo pos (starEach es X.env)).any (·.1) = false := by rfl) : PE X (.Call (.Name x p) (e :: es) [] pos) (tMake C sp dvs E t) :=
  let ⟨hm, _, _, _, M, G, hb, hd⟩ := F
  pe_make M G hr hg hm hb hd hx ha hdb he hpl
theorem pe_makeD0 (F : MakeOk X.prog X.w X.K X.mg X.base CX k x C ps dvs sp) (hr : Room (k + 1) X.A) (hx : Passes CX X E) (hg : Gl X x) (hdb : (x == ("__debug__" : Str)) = false := by decide) : PE X (.Call (.Name x p) [] [] pos) (tMake C sp dvs E tNil) :=
  let ⟨hm, _, _, _, M, G, hb, hd⟩ := F
  pe_make0 M G hr hg hm hb hd hx hdb
theorem pe_makeDS (F : MakeOk X.prog X.w X.K X.mg X.base CX k x C ps dvs sp) (hr : Room (k + 1) X.A) (hx : ∀ σ, PassesAt CX X σ (ES σ)) (hg : Gl X x) (ha : PA X (e :: es) t) (hdb : (x == ("__debug__" : Str)) = false := by decide)
    (he : starEach (e :: es) X.env = (false, eval e X.env) :: starEach es X.env := by rfl) (hpl : (backTo pos (starEach es X.env)).any (·.1) = false := by rfl) : PE X (.Call (.Name x p) (e :: es) [] pos) (tMakeS C sp dvs ES t) :=
  let ⟨hm, _, _, _, M, G, hb, hd⟩ := F
  pe_makeS M G hr hg hm hb hd hx ha hdb he hpl
end

/-! ### boxes of draws -/
/-- at b a list of three ints -/
def BoxAt (H : Hp) (b : Addr) : Prop := ∃ x y z : Int, H b = some (.lst [.int x, .int y, .int z])
/-- what was tracked stays, but for b, which is a box -/
structure Bx (b : Addr) (H H' : Hp) : Prop where
  keep : ∀ x o, x ≠ b → H x = some o → H' x = some o
  box : BoxAt H' b
theorem Bx.refl {b : Addr} {H : Hp} (h : BoxAt H b) : Bx b H H := ⟨fun _ _ _ z => z, h⟩
theorem Bx.trans {b : Addr} {H H1 H2 : Hp} (h : Bx b H H1) (g : Bx b H1 H2) : Bx b H H2 := ⟨fun x o n z => g.keep x o n (h.keep x o n z), g.box⟩
theorem Bx.upd {b p : Addr} {H H1 : Hp} {o : HO} (h : Bx b H H1) (hp : H1 p = none) : Bx b H (upd H1 p o) := by
  refine ⟨fun x u n z => ?_, ?_⟩
  · have q := h.keep x u n z
    rw [upd_ne (ne_of_none q hp)]; exact q
  · obtain ⟨x, y, z, q⟩ := h.box
    exact ⟨x, y, z, by rw [upd_ne (ne_of_none q hp)]; exact q⟩
theorem Bx.updD {b p : Addr} {H H1 : Hp} {o : HO} (h : Bx b H H1) (hp : H p = none) (n : p ≠ b) : Bx b H (L2.upd H1 p o) := by
  refine ⟨fun x u ne z => at_upd (ne_of_none z hp) (h.keep x u ne z), ?_⟩
  obtain ⟨x, y, z, q⟩ := h.box
  exact ⟨x, y, z, at_upd (Ne.symm n) q⟩
theorem Bx.set {b : Addr} {H H1 : Hp} (h : Bx b H H1) (x y z : Int) : Bx b H (L2.upd H1 b (.lst [.int x, .int y, .int z])) := ⟨fun a o n q => (upd_ne n).trans (h.keep a o n q), x, y, z, upd_same⟩
theorem BoxAt.upd {b p : Addr} {H : Hp} {o : HO} (h : BoxAt H b) (hp : H p = none) : BoxAt (upd H p o) b := ((Bx.refl h).upd hp).box
theorem BoxAt.ne {b p : Addr} {H : Hp} {o : HO} (h : BoxAt H b) (hp : H p = some o) (d : ∀ x y z : Int, o ≠ .lst [.int x, .int y, .int z]) : p ≠ b := by
  intro e
  subst e
  obtain ⟨x, y, z, q⟩ := h
  rw [hp] at q
  exact d x y z (Option.some.inj q)
theorem BoxAt.some {b : Addr} {H : Hp} (h : BoxAt H b) : ∃ o, H b = some o := let ⟨_, _, _, q⟩ := h; ⟨_, q⟩
theorem Bx.seqL {K : PySem.W.Frag} {b l : Addr} {H H' : Hp} {xs : List V} (h : Bx b H H') (n : l ≠ b) (q : SqL K H l xs) : SqL K H' l xs := by
  rcases q with (q | ⟨o, q⟩) | q
  · exact .inl (.inl (h.keep _ _ n q))
  · exact .inl (.inr ⟨o, h.keep _ _ n q⟩)
  · exact .inr q
theorem Bx.seqT {K : PySem.W.Frag} {b l : Addr} {H H' : Hp} {xs : List V} (h : Bx b H H') (n : l ≠ b) (q : SqT K H l xs) : SqT K H' l xs := by
  rcases q with (q | ⟨o, q⟩) | q
  · exact .inl (.inl (h.keep _ _ n q))
  · exact .inl (.inr ⟨o, h.keep _ _ n q⟩)
  · exact .inr q
theorem Bx.free {b p : Addr} {H H' : Hp} (h : Bx b H H') (hp : H' p = none) : H p = none := by
  cases e : H p with
  | none => rfl
  | some o =>
    by_cases n : p = b
    · subst n
      obtain ⟨x, y, z, q⟩ := h.box
      rw [hp] at q; cases q
    · rw [h.keep p o n e] at hp; cases hp
theorem Bx.seqF {K : PySem.W.Frag} {b l : Addr} {H H' : Hp} {xs : List V} (h : Bx b H H') (n : H b = none) (q : SqL K H l xs) : SqL K H' l xs := by
  rcases q with (q | ⟨o, q⟩) | q
  · exact .inl (.inl (h.keep _ _ (ne_of_none q n) q))
  · exact .inl (.inr ⟨o, h.keep _ _ (ne_of_none q n) q⟩)
  · exact .inr q
/-- a draw -/
def spTake : Sp := fun vs H Q _ => ∃ (b : Addr) (m : Int), vs = [.ref b, .int m] ∧ BoxAt H b ∧ 1 ≤ m ∧ m < 1000000000 ∧
  ∀ (d : Int) (H' : Hp), 0 ≤ d → d < m → Bx b H H' → Q (.int d) H'
/-- a pick -/
def spPick (K : PySem.W.Frag) : Sp := fun vs H Q _ => ∃ (b l : Addr) (xs : List V), vs = [.ref b, .ref l] ∧ BoxAt H b ∧ (SqL K H l xs ∨ SqT K H l xs) ∧ l ≠ b ∧ 1 ≤ xs.length ∧ xs.length < 1000000 ∧
  ∀ (v : V) (H' : Hp), v ∈ xs → Bx b H H' → Q v H'
/-- a new box -/
def spBox (K : PySem.W.Frag) : Sp := fun vs H Q _ => ∃ (a : Addr) (ns : List Int) (k c : Int), vs = [.ref a, .int k, .int c] ∧ SqL K H a (ns.map V.int) ∧ 0 ≤ k ∧ k < 1000000 ∧ 0 ≤ c ∧ c < 1000000 ∧ ns.length ≤ 1000 ∧
  ∀ (b : Addr) (H' : Hp), H b = none → Bx b H H' → Q (.ref b) H'
end Hg
end L2
end

section
set_option Elab.async false
set_option linter.all false
set_option maxRecDepth 100000
set_option maxHeartbeats 400000
/-! Any values: None, bools, ints, texts, lists, tuples; their kinds, their data; what stays. -/
namespace L2
namespace Hg
open PySem PySem.Spec PyProof.Rows

/-- any value of a kind that isinstance can tell -/
inductive Kd (K : PySem.W.Frag) (H : Hp) : V → Prop
  | non : Kd K H .non
  | bl (b : Bool) : Kd K H (.bl b)
  | int (i : Int) : Kd K H (.int i)
  | str (x : Str) : Kd K H (.str x)
  | lst {a : Addr} {xs : List V} : SqL K H a xs → Kd K H (.ref a)
  | tup {a : Addr} {xs : List V} : SqT K H a xs → Kd K H (.ref a)
def isI : V → Bool | .int _ => true | _ => false
def isIB : V → Bool | .int _ => true | .bl _ => true | _ => false
def isB : V → Bool | .bl _ => true | _ => false
def isS : V → Bool | .str _ => true | _ => false
theorem tyx_list {K : PySem.W.Frag} {H : Hp} {a : Addr} {xs : List V} (h : SqL K H a xs) : TyX K H (.ref a) (.type "list") := by
  rcases h with (h | ⟨o, h⟩) | ⟨o, its, n, h, c, _⟩
  · exact .base (.lst h)
  · exact .base (.frz h)
  · exact .kList h c
theorem tyx_tup {K : PySem.W.Frag} {H : Hp} {a : Addr} {xs : List V} (h : SqT K H a xs) : TyX K H (.ref a) (.type "tuple") := by
  rcases h with (h | ⟨o, h⟩) | ⟨o, its, n, h, c, _⟩
  · exact .base (.tup h)
  · exact .fTuple h
  · exact .kTuple h c
section
variable {K : PySem.W.Frag} {H H' : Hp} {v : V}
theorem Kd.isi_int (h : Kd K H v) : ∃ t, TyX K H v t ∧ PySem.W.kitOne K t (.type "int") = some (isIB v) := by
  cases h with
  | non => exact ⟨_, .base .non, kit_ty (a := "NoneType") (by decide +kernel)⟩
  | bl b => exact ⟨_, .base (.bl b), kit_ty (a := "bool") (b := "int") (r := true) (by decide +kernel)⟩
  | int i => exact ⟨_, .base (.int i), kit_ty (a := "int") (b := "int") (r := true) (by decide +kernel)⟩
  | str x => exact ⟨_, .base (.str x), kit_ty (a := "str") (b := "int") (r := false) (by decide +kernel)⟩
  | lst h => exact ⟨_, tyx_list h, kit_ty (a := "list") (b := "int") (r := false) (by decide +kernel)⟩
  | tup h => exact ⟨_, tyx_tup h, kit_ty (a := "tuple") (b := "int") (r := false) (by decide +kernel)⟩
theorem Kd.isi_bool (h : Kd K H v) : ∃ t, TyX K H v t ∧ PySem.W.kitOne K t (.type "bool") = some (isB v) := by
  cases h with
  | non => exact ⟨_, .base .non, kit_ty (a := "NoneType") (by decide +kernel)⟩
  | bl b => exact ⟨_, .base (.bl b), kit_ty (a := "bool") (b := "bool") (r := true) (by decide +kernel)⟩
  | int i => exact ⟨_, .base (.int i), kit_ty (a := "int") (b := "bool") (r := false) (by decide +kernel)⟩
  | str x => exact ⟨_, .base (.str x), kit_ty (a := "str") (b := "bool") (r := false) (by decide +kernel)⟩
  | lst h => exact ⟨_, tyx_list h, kit_ty (a := "list") (b := "bool") (r := false) (by decide +kernel)⟩
  | tup h => exact ⟨_, tyx_tup h, kit_ty (a := "tuple") (b := "bool") (r := false) (by decide +kernel)⟩
theorem Kd.isi_str (h : Kd K H v) : ∃ t, TyX K H v t ∧ PySem.W.kitOne K t (.type "str") = some (isS v) := by
  cases h with
  | non => exact ⟨_, .base .non, kit_ty (a := "NoneType") (by decide +kernel)⟩
  | bl b => exact ⟨_, .base (.bl b), kit_ty (a := "bool") (b := "str") (r := false) (by decide +kernel)⟩
  | int i => exact ⟨_, .base (.int i), kit_ty (a := "int") (b := "str") (r := false) (by decide +kernel)⟩
  | str x => exact ⟨_, .base (.str x), kit_ty (a := "str") (b := "str") (r := true) (by decide +kernel)⟩
  | lst h => exact ⟨_, tyx_list h, kit_ty (a := "list") (b := "str") (r := false) (by decide +kernel)⟩
  | tup h => exact ⟨_, tyx_tup h, kit_ty (a := "tuple") (b := "str") (r := false) (by decide +kernel)⟩
theorem sameT {a : Addr} {xs : List V} (e : Same H H') (h : SqT K H a xs) : SqT K H' a xs := by
  rcases h with (h | ⟨o, h⟩) | h
  · exact .inl (.inl (e _ _ h))
  · exact .inl (.inr ⟨o, e _ _ h⟩)
  · exact .inr h
theorem Kd.mono (e : Same H H') (h : Kd K H v) : Kd K H' v := by
  cases h with
  | non => exact .non
  | bl b => exact .bl b
  | int i => exact .int i
  | str x => exact .str x
  | lst h => exact .lst (e.seq h)
  | tup h => exact .tup (sameT e h)
mutual
theorem Dp.mono (e : Same H H') : ∀ (d : PyData) (v : V), Dp K H v d → Dp K H' v d
  | .none, _, h => by cases h; exact .non
  | .bool b, _, h => by cases h; exact .bl b
  | .int i, _, h => by cases h; exact .int i
  | .str x, _, h => by cases h; exact .str x
  | .list ds, _, h => by
    cases h with
    | lst hs ha => exact .lst (e.seq hs) (DpAll.mono e ds _ ha)
  | .tuple ds, _, h => by
    cases h with
    | tup hs ha => exact .tup (sameT e hs) (DpAll.mono e ds _ ha)
  | .dict _, _, h => by cases h
theorem DpAll.mono (e : Same H H') : ∀ (ds : List PyData) (vs : List V), DpAll K H vs ds → DpAll K H' vs ds
  | [], _, h => by cases h; exact .nil
  | d :: ds, _, h => by
    cases h with
    | cons h1 h2 => exact .cons (Dp.mono e d _ h1) (DpAll.mono e ds _ h2)
end
theorem Dp.kd {d : PyData} (h : Dp K H v d) : Kd K H v := by
  cases h with
  | non => exact .non
  | bl b => exact .bl b
  | int i => exact .int i
  | str x => exact .str x
  | lst h _ => exact .lst h
  | tup h _ => exact .tup h
end
/-! ### the promises of `signs` -/
def fromV (v : V) (a b : Int) : Bool := match v with | .int i => decide (a ≤ i) && decide (i ≤ b) | _ => false
def numV (v : V) : Bool := match v with | .int i => decide (0 ≤ i) | _ => false
def spIsInt (K : PySem.W.Frag) : Sp := fun vs H Q _ => ∃ v, vs = [v] ∧ Kd K H v ∧ Q (.bl (isI v)) H
def spFrom (K : PySem.W.Frag) : Sp := fun vs H Q _ => ∃ v a b, vs = [v, .int a, .int b] ∧ Kd K H v ∧ Q (.bl (fromV v a b)) H
def spIsNum (K : PySem.W.Frag) : Sp := fun vs H Q _ => ∃ v, vs = [v] ∧ Kd K H v ∧ Q (.bl (numV v)) H
theorem isI_of (v : V) : (isIB v && !isB v) = isI v := by cases v <;> rfl
theorem isI_int {v : V} (h : isI v = true) : ∃ i, v = .int i := by
  cases v <;> first | exact ⟨_, rfl⟩ | cases h
/-! ### what stays of a heap but for a box -/
theorem same_del (H : Hp) (b : Addr) : Same (del H b) H := fun a o h => by
  unfold del at h
  split at h
  · cases h
  · exact h
theorem Bx.same {b : Addr} {H H' : Hp} (h : Bx b H H') : Same (del H b) (del H' b) := fun a o q => by
  unfold del at q ⊢
  split at q
  · cases q
  · rename_i n
    rw [if_neg n]
    exact h.keep a o n q
theorem same_new {H : Hp} {p : Addr} {o : HO} (h : H p = none) : Same H (upd H p o) := fun a u q => at_upd (ne_of_none q h) q
theorem bx_of_same {b : Addr} {H H' : Hp} (hb : BoxAt H b) (h : Same H H') : Bx b H H' :=
  ⟨fun a o _ q => h a o q, let ⟨x, y, z, q⟩ := hb; ⟨x, y, z, h _ _ q⟩⟩
theorem del_at {H : Hp} {a b : Addr} {o : HO} (n : a ≠ b) (h : H a = some o) : del H b a = some o := (del_ne n).trans h
/-! ### data that may be shown -/
/-- v is data of depth at most k, whose text has at most n signs -/
structure Sh (K : PySem.W.Frag) (H : Hp) (v : V) (d : PyData) (k n : Nat) : Prop where
  dp : Dp K H v d
  sw : d.showable = true
  nd : d.hasDict = false
  cl : d.canLay0 = true
  dpt : d.depth ≤ k
  len : d.shown.length ≤ n
section
variable {K : PySem.W.Frag} {H H' : Hp} {v : V} {d : PyData} {k k' n n' : Nat}
theorem Sh.mono (e : Same H H') (h : Sh K H v d k n) : Sh K H' v d k n := ⟨Dp.mono e _ _ h.dp, h.sw, h.nd, h.cl, h.dpt, h.len⟩
theorem Sh.up (h : Sh K H v d k n) (hk : k ≤ k') (hn : n ≤ n') : Sh K H v d k' n' := ⟨h.dp, h.sw, h.nd, h.cl, Nat.le_trans h.dpt hk, Nat.le_trans h.len hn⟩
theorem Sh.shaped (h : Sh K H v d k n) (hk : k ≤ 64) : SeqAt.shaped d = true := by
  unfold SeqAt.shaped
  rw [h.cl, decide_eq_true (Nat.le_trans h.dpt hk)] <;> rfl
theorem Sh.repr {Q : VK} (h : Sh K H v d k n) (hk : k ≤ 60) (hn : n ≤ 100000) (q : Q (.str d.shown) H) : rRepr K [v] H Q :=
  r_repr h.dp h.sw h.nd (Nat.le_trans h.dpt hk) (sz (Nat.le_trans h.len hn)) q
theorem sh_non : Sh K H .non .none 0 10 := ⟨.non, rfl, rfl, rfl, Nat.le_refl _, by decide +kernel⟩
theorem sh_bl (b : Bool) : Sh K H (.bl b) (.bool b) 0 10 := ⟨.bl b, rfl, rfl, rfl, Nat.le_refl _, by cases b <;> decide +kernel⟩
theorem sh_int {i : Int} (h : i.natAbs < 10 ^ 38) : Sh K H (.int i) (.int i) 0 40 := by
  refine ⟨.int i, ?_, rfl, rfl, Nat.le_refl _, ?_⟩
  · show decide (i.natAbs.log2 < 1920) = true
    refine decide_eq_true ?_
    by_cases h0 : i.natAbs = 0
    · rw [h0]; decide
    · refine (Nat.log2_lt h0).mpr (Nat.lt_trans h (by decide +kernel))
  · show (Str.ofString (toString i)).length ≤ 40
    have e := int_text_length_le10 (k := 38) (by decide) h
    refine Nat.le_trans ?_ (Nat.le_trans e (by decide))
    exact Nat.le_of_eq (PySem.ofString_length _)
theorem sh_str {x : Str} (ok : PyData.canLay0 (.str x) = true) (h : (reprText x).length ≤ n) : Sh K H (.str x) (.str x) 0 n := ⟨.str x, rfl, rfl, ok, Nat.le_refl _, h⟩
theorem sh_all {vs : List V} {ds : List PyData} (h : Paired (fun v d => Sh K H v d k n) vs ds) : DpAll K H vs ds ∧ PyData.showableAll ds = true ∧ PyData.hasDictAll ds = false ∧ PyData.canLayAll0 ds = true ∧ PyData.depthAll ds ≤ k ∧
    ((PyData.shownAll ds).map (·.length)).sum ≤ vs.length * n ∧ ds.length = vs.length ∧ (PyData.shownAll ds).length = vs.length := by
  induction h with
  | nil => exact ⟨.nil, rfl, rfl, rfl, Nat.zero_le _, Nat.zero_le _, rfl, rfl⟩
  | cons h _ ih =>
    obtain ⟨i1, i2, i3, i4, i5, i6, i7, i8⟩ := ih
    refine ⟨.cons h.dp i1, ?_, ?_, ?_, ?_, ?_, ?_, ?_⟩
    · simp only [PyData.showableAll, h.sw, i2, Bool.and_self]
    · simp only [PyData.hasDictAll, h.nd, i3, Bool.or_self]
    · simp only [PyData.canLayAll0, h.cl, i4, Bool.and_self]
    · simp only [PyData.depthAll]; exact Nat.max_le.mpr ⟨h.dpt, i5⟩
    · simp only [PyData.shownAll, List.map_cons, List.sum_cons, List.length_cons]
      have := h.len
      rw [Nat.succ_mul]
      omega
    · simp only [List.length_cons, i7]
    · simp only [PyData.shownAll, List.length_cons, i8]
theorem sh_tup {a : Addr} {vs : List V} {ds : List PyData} {m : Nat} (h : SqT K H a vs) (hp : Paired (fun v d => Sh K H v d k n) vs ds) (hl : vs.length * n + 2 * vs.length + 3 ≤ m) : Sh K H (.ref a) (.tuple ds) (k + 1) m := by
  obtain ⟨i1, i2, i3, i4, i5, i6, i7, i8⟩ := sh_all hp
  refine ⟨.tup h i1, ?_, ?_, ?_, ?_, ?_⟩
  · simp only [PyData.showable, i2]
  · simp only [PyData.hasDict, i3]
  · simp only [PyData.canLay0, i4]
  · simp only [PyData.depth]; omega
  · simp only [PyData.shown]
    have q := tupleText_len_le (PyData.shownAll ds)
    rw [i8] at q
    omega
theorem sh_lst {a : Addr} {vs : List V} {ds : List PyData} {m : Nat} (h : SqL K H a vs) (hp : Paired (fun v d => Sh K H v d k n) vs ds) (hl : vs.length * n + 2 * vs.length + 3 ≤ m) : Sh K H (.ref a) (.list ds) (k + 1) m := by
  obtain ⟨i1, i2, i3, i4, i5, i6, i7, i8⟩ := sh_all hp
  refine ⟨.lst h i1, ?_, ?_, ?_, ?_, ?_⟩
  · simp only [PyData.showable, i2]
  · simp only [PyData.hasDict, i3]
  · simp only [PyData.canLay0, i4]
  · simp only [PyData.depth]; omega
  · simp only [PyData.shown]
    have q := listText_len_le (PyData.shownAll ds)
    rw [i8] at q
    omega
end
/-! ### isinstance of a caught error -/
def rIsG (K : PySem.W.Frag) (a : Addr) (cls : Value) (d : Option Addr) : List V → Hp → VK → Prop := fun xs H Q => ∃ D : Addr, cls = .ref D ∧ d = none ∧ ExcC K D ∧ rIsE K D a xs H Q
theorem c_isG {X : Cx} {a : Addr} {cls : Value} {d : Option Addr} {oe : Obj} {pn : List (Addr × Obj)} (K : PySem.W.Frag) (hz : Zc cls d oe) (hf : ∃ vs, oe.data = .fields vs) (hK : X.K = K := by rfl) :
    CallR (X.suite a ((a, oe) :: pn)) (.builtin "isinstance") (rIsG K a cls d) := by
  subst hK
  intro pins s σ H xs us Q I r h
  obtain ⟨D, rfl, rfl, C, h⟩ := h
  exact call_isE C hz hf pins s σ H xs us Q I r h
theorem r_isG {K : PySem.W.Frag} {a D G : Addr} {b : Bool} {H : Hp} {Q : VK} (C : ExcC K D) (e : PySem.W.kitOne K (.ref D) (.ref G) = some b) (k : Q (.bl b) H) : rIsG K a (.ref D) none [.ref a, .ref G] H Q :=
  ⟨D, rfl, rfl, C, .ref G, .ref G, b, rfl, fun u h => h, e, k⟩
/-! ### fields -/
section
variable {K : PySem.W.Frag} {H : Hp} {Q : VK} {σ : St} {D : Ends} {ta tv : TE} {f : Str} {a C dx : Addr} {fs : List (Str × V)} {v : V}
theorem r_sFld (k : tv σ H fun y H1 => ta σ H1 fun x H2 => ∃ a C dx fs, x = .ref a ∧ H2 a = some (.ins C dx fs) ∧ Cls K C ∧ NoAttr K C f ∧ fs.length < 1000 ∧ D.nx σ (upd H2 a (.ins C dx (putF f y fs)))) : sFld K ta tv f D σ H := k
theorem r_put {R : Hp → Prop} (h : H a = some (.ins C dx fs)) (c : Cls K C) (n : NoAttr K C f) (z : fs.length < 1000) (k : R (upd H a (.ins C dx (putF f v fs)))) :
    ∃ a' C' dx' fs', V.ref a = .ref a' ∧ H a' = some (.ins C' dx' fs') ∧ Cls K C' ∧ NoAttr K C' f ∧ fs'.length < 1000 ∧ R (upd H a' (.ins C' dx' (putF f v fs'))) := ⟨a, C, dx, fs, rfl, h, c, n, z, k⟩
theorem r_fld (k : ta σ H fun x H1 => ∃ a C dx fs v, x = .ref a ∧ H1 a = some (.ins C dx fs) ∧ Cls K C ∧ NoAttr K C f ∧ fs.lookup f = some v ∧ Q v H1) : tFld K ta f σ H Q := k
theorem r_get {R : V → Prop} (h : H a = some (.ins C dx fs)) (c : Cls K C) (n : NoAttr K C f) (l : fs.lookup f = some v) (k : R v) :
    ∃ a' C' dx' fs' v', V.ref a = .ref a' ∧ H a' = some (.ins C' dx' fs') ∧ Cls K C' ∧ NoAttr K C' f ∧ fs'.lookup f = some v' ∧ R v' := ⟨a, C, dx, fs, v, rfl, h, c, n, l, k⟩
end
theorem putF_len {f : Str} {v : V} (l : List (Str × V)) : (putF f v l).length ≤ l.length + 1 := length_putF f v l
/-! ### dicts -/
section
variable {σ : St} {H : Hp} {Q : VK} {D : Ends} {td ty tv : TE}
theorem r_disp {trs : List (TE × TE)} (k : ∀ p, H p = none → tPairs trs σ (upd H p (.dK [])) fun ps H2 => H2 p = some (.dK []) ∧ ∃ kvs : List (Key × V), ps = kvs.map (fun kv => (kV kv.1, kv.2)) ∧ kvs.length ≤ 15 ∧ Q (.ref p) (upd H2 p (.dK (mergeK [] kvs)))) : tDisp trs σ H Q := k
theorem r_pairs {QP : List (V × V) → Hp → Prop} {r : List (TE × TE)} (k : td σ H fun x H1 => tv σ H1 fun y H2 => tPairs r σ H2 fun ps H3 => QP ((x, y) :: ps) H3) : tPairs ((td, tv) :: r) σ H QP := k
theorem r_pairs0 {QP : List (V × V) → Hp → Prop} (k : QP [] H) : tPairs [] σ H QP := k
theorem r_dput (k : tv σ H fun v H1 => td σ H1 fun x H2 => ty σ H2 fun y H3 => ∃ a H4, x = .ref a ∧ DPut H3 a y v H4 ∧ D.nx σ H4) : sDPut td ty tv D σ H := k
theorem r_dget (k : td σ H fun x H1 => ty σ H1 fun y H2 => ∃ a v, x = .ref a ∧ DGet H2 a y (some v) ∧ Q v H2) : tDGet td ty σ H Q := k
theorem r_dg {p : Addr} {kvs : List (Key × V)} {k : Key} {v : V} {R : V → Prop} (h : H p = some (.dK kvs)) (e : valV kvs k = some v) (q : R v) : ∃ a w, V.ref p = .ref a ∧ DGet H a (kV k) (some w) ∧ R w :=
  ⟨p, v, rfl, by rw [← e]; exact DGet.k h, q⟩
theorem r_dp {p : Addr} {kvs : List (Key × V)} {k : Key} {v : V} {R : Hp → Prop} (h : H p = some (.dK kvs)) (z : kvs.length < sizeLine) (q : R (upd H p (.dK (putK kvs k v)))) : ∃ a H4, V.ref p = .ref a ∧ DPut H a (kV k) v H4 ∧ R H4 :=
  ⟨p, _, rfl, DPut.k h z, q⟩
end
/-! ### loops and comprehensions -/
section
variable {σ : St} {H : Hp} {Q : VK} {D : Ends} {K : PySem.W.Frag}
theorem r_rng1 {ta : TA} {R : It → Hp → Prop} (k : ta σ H fun vs H1 => ∃ j : Int, vs = [.int j] ∧ -(2 ^ 62) ≤ j ∧ j < 2 ^ 62 ∧ R (Itr 0 j.toNat) H1) : iRng1 ta σ H R := k
theorem r_rng2 {ta : TA} {R : It → Hp → Prop} (k : ta σ H fun vs H1 => ∃ i j : Int, vs = [.int i, .int j] ∧ (-(2 ^ 62) ≤ i ∧ i < 2 ^ 62 ∧ -(2 ^ 62) ≤ j ∧ j < 2 ^ 62) ∧ R (Itr i (j - i).toNat) H1) : iRng2 ta σ H R := k
theorem r_iL {tl : TE} {R : It → Hp → Prop} (k : tl σ H fun x H1 => ∃ a, x = .ref a ∧ (∃ xs, SqL K H1 a xs) ∧ R (Itl K a) H1) : iList K tl σ H R := k
theorem r_iT {tl : TE} {R : It → Hp → Prop} (k : tl σ H fun x H1 => ∃ a, x = .ref a ∧ (∃ xs, SqT K H1 a xs) ∧ R (Itt K a) H1) : iTup K tl σ H R := k
theorem r_lc {wi : TI} {g : TG} {tt : TT} {te : TE} {vs : List Nat} (k : wi σ H fun J H1 => ∀ D, H1 D = none → ∃ W : Nat → Nat → Hp → Prop, (∃ m, W 0 m (upd H1 D (.lst []))) ∧ ∀ i m H, W i m H →
  (J.stop i H ∧ Q (.ref D) H) ∨ (J.go i H ∧ ∃ Nx : Hp → Prop, (∀ H', Nx H' → ∃ m', m' < m ∧ W (i + 1) m' H') ∧ ∀ x H', J.yld i H x H' → g x (wipe σ vs) H' fun σ2 H2 => wipe σ2 vs = wipe σ vs ∧ tt σ2 H2 fun b H3 =>
    if b = true then te σ2 H3 fun y H4 => ∃ acc, H4 D = some (.lst acc) ∧ acc.length < sizeLine ∧ Nx (upd H4 D (.lst (acc ++ [y]))) else Nx H3)) : tLc wi g tt te vs σ H Q := k
theorem r_gT {n : Nat} {t : TGs} {QS : St → Hp → Prop} {p : Addr} {xs : List V} (h : SqT K H p xs) (e : xs.length = n) (k : t xs σ H QS) : gTup K n t (.ref p) σ H QS := ⟨p, xs, rfl, h, e, k⟩
theorem r_gL {n : Nat} {t : TGs} {QS : St → Hp → Prop} {p : Addr} {xs : List V} (h : SqL K H p xs) (e : xs.length = n) (k : t xs σ H QS) : gLst K n t (.ref p) σ H QS := ⟨p, xs, rfl, h, e, k⟩
theorem r_gCons {t : TG} {u : TGs} {QS : St → Hp → Prop} {v : V} {r : List V} (k : t v σ H fun σ' H' => u r σ' H' QS) : gCons t u (v :: r) σ H QS := ⟨v, r, rfl, k⟩
theorem r_gNil {QS : St → Hp → Prop} (k : QS σ H) : gNil [] σ H QS := ⟨rfl, k⟩
theorem r_yes {QB : Bool → Hp → Prop} (k : QB true H) : tYes σ H QB := k
theorem take_succ {α : Type} : ∀ {l : List α} {i : Nat} {x : α}, l[i]? = some x → l.take (i + 1) = l.take i ++ [x]
  | [], i, x, h => by simp at h
  | a :: l, 0, x, h => by
    simp at h
    subst h
    rfl
  | a :: l, i + 1, x, h => by
    have ih := take_succ (l := l) (i := i) (x := x) (by simpa using h)
    simp only [List.take_succ_cons, ih, List.cons_append]
end
/-! ### what calls raise -/
theorem r_veI {K : PySem.W.Frag} {ta : TA} {σ : St} {H : Hp} {Q : VK} (k : ta σ H fun vs H1 => ∃ (a C : Addr) (ws : List V), vs = .ref a :: ws ∧ ws.length ≤ 1000 ∧ OexC K C ∧ H1 a = some (exo a C none) ∧ Q .non H1) : tVeI K ta σ H Q := k
theorem r_makeS {C : Addr} {sp : Sp} {dvs : List V} {E : St → XK} {t : TA} {σ : St} {H : Hp} {Q : VK} (k : t σ H fun vs H1 => ∀ x dx, H1 x = none → H1 dx = none → dx ≠ x →
  sp (.ref x :: (vs ++ dvs)) (upd (upd H1 dx (.own x)) x (.ins C dx [])) (fun v H2 => v = .non ∧ Q (.ref x) H2) (E σ)) : tMakeS C sp dvs E t σ H Q := k
theorem r_make {C : Addr} {sp : Sp} {dvs : List V} {E : XK} {t : TA} {σ : St} {H : Hp} {Q : VK} (k : t σ H fun vs H1 => ∀ x dx, H1 x = none → H1 dx = none → dx ≠ x →
  sp (.ref x :: (vs ++ dvs)) (upd (upd H1 dx (.own x)) x (.ins C dx [])) (fun v H2 => v = .non ∧ Q (.ref x) H2) E) : tMake C sp dvs E t σ H Q := k
end Hg
end L2
end

section
set_option Elab.async false
set_option linter.all false
set_option maxRecDepth 100000
set_option maxHeartbeats 4000000
/-! Methods and properties of own classes as one hypothesis; tuple * int; what stays of a heap. -/
namespace L2
namespace Hg
open PySem PySem.Spec PyProof.Rows

/-! ### methods -/
structure MetAt (K : PySem.W.Frag) (C : Addr) (m q : Str) (st : Stmt) : Prop where
  cl : Cls K C
  ex : ∃ f fd, Meth K C m f ∧ Fun K m q st f fd
def MetOk (P : Program) (w : World) (K : PySem.W.Frag) (mg : Str → Option Value) (base : Heap) (CX : CXT) (k : Nat) (C : Addr) (m : Str) (ps : List Str) (sp : Sp) : Prop :=
  Cls K C ∧ ∃ f fd, Meth K C m f ∧ FnOk P w K mg base CX k f fd ps sp ∧ Binds K fd ps []
structure PrpAt (K : PySem.W.Frag) (C : Addr) (m q : Str) (st : Stmt) : Prop where
  cl : Cls K C
  ex : ∃ p g fd, PropOf K C m p g ∧ Fun K m q st g fd
def PrpOk (P : Program) (w : World) (K : PySem.W.Frag) (mg : Str → Option Value) (base : Heap) (CX : CXT) (k : Nat) (C : Addr) (m : Str) (sp : Sp) : Prop :=
  Cls K C ∧ ∃ p g fd, PropOf K C m p g ∧ FnOk P w K mg base CX k g fd ["self"] sp ∧ Binds K fd ["self"] []
section
variable {P : Program} {w : World} {K : PySem.W.Frag} {mg : Str → Option Value} {base : Heap} {k : Nat} {m q : Str} {st : Stmt} {C : Addr} {N ps : List Str} {sp : Sp}
theorem MetAt.ok (F : MetAt K C m q st) (S : FnScope N ps (defScope st)) (hb : BindsAs st m q ps) (len : ∀ vs H Q E, sp vs H Q E → vs.length = ps.length)
    (hbody : ∀ (f : Addr) (cdv : Value) (A : Around) (outer : List Env) (s : Shared) (H : Hp) (vs : List V) (Q : VK) (E : XK), Room k (A.deeper (envOfC q (defScope st) s.heap.objs.size f cdv)) → sp vs H Q E →
      ∃ t, PSs (cxOf CX0 P w K mg base N q (defScope st) f cdv A outer s H E).nox (defBody st) t ∧ t { nx := fun _ H' => Q .non H', rt := Q } (start N vs) H) : MetOk P w K mg base CX0 (k + 1) C m ps sp := by
  obtain ⟨f, fd, hm, F1⟩ := F.ex
  exact ⟨F.cl, f, fd, hm, F1.ok S len fun cdv A outer s H vs Q E hr h => hbody f cdv A outer s H vs Q E hr h, F1.binds hb⟩
theorem MetAt.okX (F : MetAt K C m q st) (S : FnScope N ps (defScope st)) (hb : BindsAs st m q ps) (len : ∀ vs H Q E, sp vs H Q E → vs.length = ps.length)
    (hbody : ∀ (f : Addr) (cdv : Value) (A : Around) (outer : List Env) (s : Shared) (H : Hp) (vs : List V) (Q : VK) (E : XK), Room k (A.deeper (envOfC q (defScope st) s.heap.objs.size f cdv)) → sp vs H Q E →
      ∃ t, PSs (cxOf (L2.CX P w) P w K mg base N q (defScope st) f cdv A outer s H E) (defBody st) t ∧ t { nx := fun _ H' => Q .non H', rt := Q } (start N vs) H) : MetOk P w K mg base (L2.CX P w) (k + 1) C m ps sp := by
  obtain ⟨f, fd, hm, F1⟩ := F.ex
  exact ⟨F.cl, f, fd, hm, F1.okX S len fun cdv A outer s H vs Q E hr h => hbody f cdv A outer s H vs Q E hr h, F1.binds hb⟩
theorem PrpAt.ok (F : PrpAt K C m q st) (S : FnScope N ["self"] (defScope st)) (hb : BindsAs st m q ["self"]) (len : ∀ vs H Q E, sp vs H Q E → vs.length = 1)
    (hbody : ∀ (f : Addr) (cdv : Value) (A : Around) (outer : List Env) (s : Shared) (H : Hp) (vs : List V) (Q : VK) (E : XK), Room k (A.deeper (envOfC q (defScope st) s.heap.objs.size f cdv)) → sp vs H Q E →
      ∃ t, PSs (cxOf CX0 P w K mg base N q (defScope st) f cdv A outer s H E).nox (defBody st) t ∧ t { nx := fun _ H' => Q .non H', rt := Q } (start N vs) H) : PrpOk P w K mg base CX0 (k + 1) C m sp := by
  obtain ⟨p, f, fd, hm, F1⟩ := F.ex
  exact ⟨F.cl, p, f, fd, hm, F1.ok S len fun cdv A outer s H vs Q E hr h => hbody f cdv A outer s H vs Q E hr h, F1.binds hb⟩
end
section
variable {X : Cx} {CX : CXT} {k : Nat} {C : Addr} {m : Str} {ps : List Str} {sp : Sp} {E : XK} {ES : St → XK} {o e : Expr} {es : List Expr} {ta : TE} {t : TA} {apos pos : Pos}
theorem pe_metD {pl : Sem Bool} (F : MetOk X.prog X.w X.K X.mg X.base CX k C m ps sp) (hr : Room k X.A) (hx : Passes CX X E) (he : PE X o ta) (ha : PA X (e :: es) t)
    (hst : starEach (e :: es) X.env = (false, eval e X.env) :: starEach es X.env := by rfl) (hpl : (backTo pos (starEach es X.env)).any (·.1) = false := by rfl)
    (ht : eval (.Call (.Attribute o m apos) (e :: es) [] pos) X.env = (do
      let ov ← eval o X.env
      standAt apos.atName
      let (f, first) ← holding [ov] (getMethod ov m pl)
      callWith pos f first (backTo pos (starEach (e :: es) X.env)) (backToKw pos (keywordEach [] X.env))) := by rfl) :
    PE X (.Call (.Attribute o m apos) (e :: es) [] pos) (tMeth C m sp [] E ta t) :=
  let ⟨c, _, _, hm, G, hb⟩ := F
  pe_meth he c hm G hr hb .nil hx ha hst hpl ht
theorem pe_metD0 {pl : Sem Bool} (F : MetOk X.prog X.w X.K X.mg X.base CX k C m ps sp) (hr : Room k X.A) (hx : Passes CX X E) (he : PE X o ta)
    (ht : eval (.Call (.Attribute o m apos) [] [] pos) X.env = (do
      let ov ← eval o X.env
      standAt apos.atName
      let (f, first) ← holding [ov] (getMethod ov m pl)
      callWith pos f first (backTo pos (starEach [] X.env)) (backToKw pos (keywordEach [] X.env))) := by rfl) :
    PE X (.Call (.Attribute o m apos) [] [] pos) (tMeth C m sp [] E ta tNil) :=
  let ⟨c, _, _, hm, G, hb⟩ := F
  pe_meth0 he c hm G hr hb .nil hx ht
/-- o.m(e, ..) where what is raised is wished at the slots -/
def tMetS (C : Addr) (m : Str) (sp : Sp) (E : St → XK) (ta : TE) (t : TA) : TE := fun σ H Q => ta σ H fun x H1 => ∃ a dx fs, x = .ref a ∧ H1 a = some (.ins C dx fs) ∧ fs.lookup m = none ∧
  t σ H1 fun vs H2 => sp (x :: vs) H2 Q (E σ)
theorem pe_metDS {pl : Sem Bool} (F : MetOk X.prog X.w X.K X.mg X.base CX k C m ps sp) (hr : Room k X.A) (hx : ∀ σ, PassesAt CX X σ (ES σ)) (he : PE X o ta) (ha : PA X (e :: es) t)
    (hst : starEach (e :: es) X.env = (false, eval e X.env) :: starEach es X.env := by rfl) (hpl : (backTo pos (starEach es X.env)).any (·.1) = false := by rfl)
    (ht : eval (.Call (.Attribute o m apos) (e :: es) [] pos) X.env = (do
      let ov ← eval o X.env
      standAt apos.atName
      let (f, first) ← holding [ov] (getMethod ov m pl)
      callWith pos f first (backTo pos (starEach (e :: es) X.env)) (backToKw pos (keywordEach [] X.env))) := by rfl) :
    PE X (.Call (.Attribute o m apos) (e :: es) [] pos) (tMetS C m sp ES ta t) := by
  obtain ⟨c, f, fd, hm, G, hb⟩ := F
  refine ⟨fun pins s σ H Q I h => ?_⟩
  refine PySem.W.methodCall_KW (pl := pl) (thn (he.run pins s σ H _ I h) fun u s1 ⟨x, H1, I1, rx, a, dx, fs, ex, ea, l, q⟩ => ?_) ht
  subst ex
  obtain rfl : u = Value.ref a := rx
  refine getmeth_ok I1 ea c hm l ?_
  refine PySem.W.callWith_K (first := [.ref a]) (h₀ := X.base) I.ok.mod.kin hm.kp (thn (ha.run pos pins s1 σ H1 _ I1 q) fun us s2 ⟨vs, H2, I2, r, q2⟩ => ⟨I2.kIn, ?_⟩) hst hpl
  exact run_fnS (us := .ref a :: us) (vs := .ref a :: vs) G hr hb (hx σ) I2 (.cons rfl r) q2
theorem pe_prpD (F : PrpOk X.prog X.w X.K X.mg X.base CX k C m sp) (hr : Room (k + 1) X.A) (hx : Passes CX X.nox E) (he : PE X e ta)
    (hab : attributeBase e m X.env (eval e X.env) = eval e X.env := by rfl) : PE X (.Attribute e m pos) (tProp C sp [] E ta) :=
  let ⟨c, _, _, _, hm, G, hb⟩ := F
  pe_prop he c hm G hr hb .nil hx hab
variable {σ : St} {H : Hp} {Q : VK} {dvs : List V}
theorem r_meth (k : ta σ H fun x H1 => ∃ a dx fs, x = .ref a ∧ H1 a = some (.ins C dx fs) ∧ fs.lookup m = none ∧ t σ H1 fun vs H2 => sp (x :: (vs ++ dvs)) H2 Q E) : tMeth C m sp dvs E ta t σ H Q := k
theorem r_metS (k : ta σ H fun x H1 => ∃ a dx fs, x = .ref a ∧ H1 a = some (.ins C dx fs) ∧ fs.lookup m = none ∧ t σ H1 fun vs H2 => sp (x :: vs) H2 Q (ES σ)) : tMetS C m sp ES ta t σ H Q := k
theorem r_prop (k : ta σ H fun x H1 => ∃ a dx fs, x = .ref a ∧ H1 a = some (.ins C dx fs) ∧ sp (.ref a :: dvs) H1 Q E) : tProp C sp dvs E ta σ H Q := k
theorem r_obj {R : Prop} {a dx : Addr} {fs : List (Str × V)} (h : H a = some (.ins C dx fs)) (l : fs.lookup m = none) (k : R) :
    ∃ a' dx' fs', V.ref a = .ref a' ∧ H a' = some (.ins C dx' fs') ∧ fs'.lookup m = none ∧ R := ⟨a, dx, fs, rfl, h, l, k⟩
theorem r_pobj {R : Addr → Prop} {a dx : Addr} {fs : List (Str × V)} (h : H a = some (.ins C dx fs)) (k : R a) :
    ∃ a' dx' fs', V.ref a = .ref a' ∧ H a' = some (.ins C dx' fs') ∧ R a' := ⟨a, dx, fs, rfl, h, k⟩
/-! ### stars, parallel stores -/
variable {K : PySem.W.Frag} {te : TE} {QL : List V → Hp → Prop} {D : Ends} {i j l : Nat}
theorem r_star (k : te σ H fun x H1 => ∃ p xs, x = V.ref p ∧ (SqT K H1 p xs ∨ SqL K H1 p xs) ∧ t σ H1 fun ys H2 => QL (xs ++ ys) H2) : StX.tStar K te t σ H QL := k
theorem r_st {R : List V → Prop} {p : Addr} {xs : List V} (h : SqT K H p xs ∨ SqL K H p xs) (k : R xs) : ∃ p' xs', V.ref p = V.ref p' ∧ (SqT K H p' xs' ∨ SqL K H p' xs') ∧ R xs' := ⟨p, xs, rfl, h, k⟩
theorem r_par (k : t σ H fun vs H1 => ∃ v w, vs = [v, w] ∧ D.nx ((σ.set i (some v)).set j (some w)) H1) : tPar i j t D σ H := k
theorem r_par3 (k : t σ H fun vs H1 => ∃ u v w, vs = [u, v, w] ∧ D.nx (((σ.set i (some u)).set j (some v)).set l (some w)) H1) : tPar3 i j l t D σ H := k
theorem r_v2 {v w : V} {R : V → V → Prop} (k : R v w) : ∃ v' w', [v, w] = [v', w'] ∧ R v' w' := ⟨v, w, rfl, k⟩
theorem r_v3 {u v w : V} {R : V → V → V → Prop} (k : R u v w) : ∃ u' v' w', [u, v, w] = [u', v', w'] ∧ R u' v' w' := ⟨u, v, w, rfl, k⟩
/-! ### slices -/
variable {r : V → Option Int → Option Int → Hp → VK → Prop} {tl th : TO} {QO : Option Int → Hp → Prop}
theorem r_sl (k : te σ H fun x H1 => tl σ H1 fun l H2 => th σ H2 fun u H3 => r x l u H3 Q) : tSl r te tl th σ H Q := k
theorem r_part (k : te σ H fun x H1 => ∃ i, x = .int i ∧ QO (some i) H1) : tPart te σ H QO := k
theorem r_noPart (k : QO none H) : tNoPart σ H QO := k
theorem r_i {n : Int} {R : Int → Prop} (k : R n) : ∃ i, V.int n = .int i ∧ R i := ⟨n, rfl, k⟩
theorem pa_starK (K : PySem.W.Frag) {X : Cx} {e : Expr} {es : List Expr} {te : TE} {t : TA} {p : Pos} (he : PE X e te) (hr : PA X es t) (hs : starEach (.Starred e p :: es) X.env = (true, eval e X.env) :: starEach es X.env := by rfl) (hK : X.K = K := by rfl) : PA X (.Starred e p :: es) (StX.tStar K te t) := hK ▸ StX.pa_star he hr hs
theorem slT (K : PySem.W.Frag) {X : Cx} (hK : X.K = K := by rfl) : SlR X (rSlT K) := hK ▸ sl_tup
end
/-! ### cuts -/
def tSeqC (t u : TS) : TS := fun D σ H => ∃ P : St → Hp → Prop, t { D with nx := P } σ H ∧ ∀ σ' H', P σ' H' → u D σ' H'
theorem pss_cut {X : Cx} {st : Stmt} {rest : List Stmt} {t u : TS} (h1 : PS X st t) (h2 : PSs X rest u) : PSs X (st :: rest) (tSeqC t u) := by
  refine ⟨fun pins s σ H D I h => ?_⟩
  obtain ⟨P, h, q0⟩ := h
  refine wpAny_execs_cons (thn (h1.run pins s σ H { D with nx := P } I h) fun f s1 q => ?_)
  cases f with
  | next =>
    obtain ⟨σ', H', I', q⟩ := q
    exact h2.run pins s1 σ' H' D I' (q0 _ _ q)
  | ret v => exact q
  | brk => exact q
  | cont => exact q
theorem r_cut {t u : TS} {D : Ends} {σ : St} {H : Hp} (P : St → Hp → Prop) (h : t { D with nx := P } σ H) (k : ∀ σ' H', P σ' H' → u D σ' H') : tSeqC t u D σ H := ⟨P, h, k⟩
def tCut (t : TE) : TE := fun σ H Q => ∃ P : VK, t σ H P ∧ ∀ v H', P v H' → Q v H'
theorem pe_cut {X : Cx} {e : Expr} {t : TE} (h : PE X e t) : PE X e (tCut t) := by
  refine ⟨fun pins s σ H Q I hq => ?_⟩
  obtain ⟨P, hq, q0⟩ := hq
  refine thn (h.run pins s σ H P I hq) fun u s1 ⟨v, H1, I1, r, q⟩ => ⟨v, H1, I1, r, q0 _ _ q⟩
theorem r_cutE {t : TE} {σ : St} {H : Hp} {Q : VK} (P : VK) (h : t σ H P) (k : ∀ v H', P v H' → Q v H') : tCut t σ H Q := ⟨P, h, k⟩
def tCutT (t : TT) : TT := fun σ H Q => ∃ P : Bool → Hp → Prop, t σ H P ∧ ∀ v H', P v H' → Q v H'
theorem pt_cut {X : Cx} {e : Expr} {t : TT} (h : PT X e t) : PT X e (tCutT t) := by
  refine ⟨fun pins s σ H Q I hq => ?_⟩
  obtain ⟨P, hq, q0⟩ := hq
  exact thn (h.run pins s σ H P I hq) fun u s1 ⟨H1, I1, q⟩ => ⟨H1, I1, q0 _ _ q⟩
theorem r_cutT {t : TT} {σ : St} {H : Hp} {Q : Bool → Hp → Prop} (P : Bool → Hp → Prop) (h : t σ H P) (k : ∀ v H', P v H' → Q v H') : tCutT t σ H Q := ⟨P, h, k⟩
/-! ### tuple * int -/
theorem tuple_mul1 (l : Addr) (items : Array Value) (n : Nat) (dd : Option Addr) (sl : Array (Option Value)) (u : Tok) :
    Meets (Builtin.«tuple.__mul__» ⟨[.ref l, .int 1 u], []⟩) (fun _ R s => s.heap.get? l = some { cls := .type "tuple", dict := dd, data := .seq items n, slots := sl } ∧ R (.ok (.ret (Value.ref l))) s) :=
  .of_wp fun prog w A R s h => by
    obtain ⟨hp, g, d, tk, os⟩ := s
    obtain ⟨hl, h⟩ := h
    have f1 := AutoSeq1.idx_int
    have c1 : (items.isEmpty || (1 : Int) == 1) = true := by rw [Bool.or_eq_true]; exact .inr rfl
    have c0 : (decide ((1 : Int) < -(2 ^ 63)) || decide ((1 : Int) ≥ 2 ^ 63)) = false := by decide
    wp_walk using wpAny_loadPart' hl
    repeat (first
      | (refine wpAny_ite_false (decide_eq_false (by rw [c0]; exact Bool.false_ne_true)) ?_; wp_walk using wpAny_loadPart' hl)
      | (refine wpAny_ite_true (decide_eq_true c1) ?_; wp_walk using wpAny_loadPart' hl))
    exact ⟨_, rfl, h⟩
def rRep1 (K : PySem.W.Frag) : R2 := fun x y H Q => ∃ l xs, x = .ref l ∧ y = .int 1 ∧ SqT K H l xs ∧ Q (.ref l) H
theorem op_rep1 {X : Cx} : OpR X (binaryOp .Mult) (rRep1 X.K) := by
  intro pins s σ H x y v u Q I rx ry h
  obtain ⟨l, xs, rfl, rfl, hT, q⟩ := h
  cases rx
  obtain ⟨t, rfl⟩ := ry
  obtain ⟨its, r, ⟨⟨cls, dd, data, sl⟩, ho, hc, n, hd⟩, hs⟩ := I.tuple hT
  simp only at hc hd
  subst hc hd
  refine wpAny_binaryOp_repeat_ref (T := "tuple") (U := "int") (by decide) ⟨_, ho, rfl⟩ (fun s' => typeIs_int s' 1 t) noFill_tuple_mul F.fills_int_mul F.slot_int_rmul repeat_tuple F.slot_int_index.lookup
    (call_meets F.slot_int_rmul (typeIs_int s 1 t) F.entry_int_rmul (F.args_int_rmul_2 _ _) (int_rmul_tuple 1 t l its.toArray n dd sl)
      ⟨ho, rfl, ⟨_, ho, rfl⟩, call_meets F.slot_tuple_mul ⟨_, ho, rfl⟩ F.entry_tuple_mul (F.args_tuple_mul_2 _ _) (tuple_mul1 l its.toArray n dd sl t) ⟨ho, ?_⟩⟩)
  exact ⟨.ref l, H, I, rfl, q⟩
def uMulT (K : PySem.W.Frag) : R2 := fun x y H Q => rRep1 K x y H Q ∨ rRepT K x y H Q
theorem o_mulT (K : PySem.W.Frag) {X : Cx} (hK : X.K = K := by rfl) : OpR X (binaryOp .Mult) (uMulT K) := hK ▸ OpR.or op_rep1 op_repT
theorem flat_one {α : Type} (n : Nat) (x : α) : (List.replicate n [x]).flatten = List.replicate n x := by
  induction n with
  | zero => rfl
  | succ n ih => rw [List.replicate_succ, List.flatten_cons, ih]; rfl
theorem r_mulT1 {K : PySem.W.Frag} {H : Hp} {Q : VK} {l : Addr} {v : V} {k : Int} (h : H l = some (.tup [v])) (h1 : 1 ≤ k) (h2 : k ≤ 1000)
    (q : ∀ (p : Addr) (H' : Hp), Same H H' → H' p = some (.tup (List.replicate k.toNat v)) → Q (.ref p) H') : uMulT K (.ref l) (.int k) H Q := by
  by_cases e : k = 1
  · subst e
    exact .inl ⟨l, _, rfl, rfl, SqT.of h, q l H (fun _ _ z => z) h⟩
  · refine .inr ⟨l, k, _, rfl, rfl, SqT.of h, by simp, by omega, h2, by simp, fun p hp => q p _ (same_new hp) ?_⟩
    rw [upd_same, flat_one]
/-! ### what stays -/
/-- all tuples stay -/
def Tk (H H' : Hp) : Prop := ∀ q xs, H q = some (.tup xs) → H' q = some (.tup xs)
section
variable {H0 H H' H1 H2 : Hp} {p b a : Addr} {o : HO}
theorem Tk.refl : Tk H H := fun _ _ h => h
theorem Tk.trans (h : Tk H H1) (g : Tk H1 H2) : Tk H H2 := fun q xs e => g q xs (h q xs e)
theorem Same.refl : Same H H := fun _ _ h => h
theorem Same.at (s : Same H H1) (h : H p = some o) : H1 p = some o := s p o h
theorem Same.tk (h : Same H H') : Tk H H' := fun q xs e => h q _ e
theorem Bx.tk (h : Bx b H H') (hb : BoxAt H b) : Tk H H' := fun q xs e => h.keep q _ (hb.ne e fun _ _ _ z => nomatch z) e
theorem Tk.new (h : Tk H0 H) (hp : H p = none) : Tk H0 (upd H p o) := fun q xs e => at_upd (ne_of_none (h q xs e) hp) (h q xs e)
theorem Tk.newF (h : Tk H0 H) (hp : H0 p = none) : Tk H0 (upd H p o) := fun q xs e => at_upd (ne_of_none e hp) (h q xs e)
theorem Tk.setL {xs : List V} (h : Tk H0 H) (hp : H p = some (.lst xs)) : Tk H0 (upd H p o) := fun q ys e => by
  have g := h q ys e
  refine at_upd (fun z => ?_) g
  subst z
  rw [hp] at g
  exact nomatch Option.some.inj g
theorem Tk.setI {C dx : Addr} {fs : List (Str × V)} (h : Tk H0 H) (hp : H p = some (.ins C dx fs)) : Tk H0 (upd H p o) := fun q ys e => by
  have g := h q ys e
  refine at_upd (fun z => ?_) g
  subst z
  rw [hp] at g
  exact nomatch Option.some.inj g
theorem Same.updF (s : Same H0 H) (h : H0 p = none) : Same H0 (upd H p o) := fun q u e => at_upd (ne_of_none e h) (s q u e)
theorem Same.new (s : Same H0 H) (h : H p = none) : Same H0 (upd H p o) := fun q u e => at_upd (ne_of_none (s q u e) h) (s q u e)
theorem Same.bx (s : Same H0 H) (hx : Bx b H H') (h : H0 b = none) : Same H0 H' := fun q u e => hx.keep q u (ne_of_none e h) (s q u e)
theorem Same.free (s : Same H0 H) (h : H p = none) : H0 p = none := by
  cases e : H0 p with
  | none => rfl
  | some u => rw [s p u e] at h; cases h
theorem BoxAt.same (h : BoxAt H b) (s : Same H H') : BoxAt H' b := let ⟨x, y, z, q⟩ := h; ⟨x, y, z, s _ _ q⟩
theorem BoxAt.at (h : BoxAt H b) (n : b ≠ p) : BoxAt (L2.upd H p o) b := let ⟨x, y, z, q⟩ := h; ⟨x, y, z, at_upd n q⟩
/-- all stays but x -/
def Kx (x : Addr) (H H' : Hp) : Prop := ∀ q o, q ≠ x → H q = some o → H' q = some o
theorem Kx.at (k : Kx a H H') (n : p ≠ a) (h : H p = some o) : H' p = some o := k p o n h
theorem Kx.refl : Kx a H H := fun _ _ _ h => h
theorem Kx.trans (h : Kx a H H1) (g : Kx a H1 H2) : Kx a H H2 := fun q o n e => g q o n (h q o n e)
theorem Kx.set (h : Kx a H H1) : Kx a H (upd H1 a o) := fun q u n e => at_upd n (h q u n e)
theorem Kx.new (h : Kx a H H1) (hp : H p = none) : Kx a H (upd H1 p o) := fun q u n e => at_upd (ne_of_none e hp) (h q u n e)
theorem Kx.same (h : Kx a H H1) (s : Same H1 H2) : Kx a H H2 := fun q u n e => s q u (h q u n e)
theorem Same.kx (s : Same H0 H) (k : Kx a H H') (h : H0 a = none) : Same H0 H' := fun q u e => k q u (ne_of_none e h) (s q u e)
theorem Kx.tk {C dx : Addr} {fs : List (Str × V)} (k : Kx a H H') (hp : H a = some (.ins C dx fs)) : Tk H H' := fun q ys e => k q _ (fun z => by
  subst z
  rw [hp] at e
  exact nomatch Option.some.inj e) e
theorem BoxAt.fresh (h : BoxAt H b) (hp : H p = none) : b ≠ p := fun e => by
  obtain ⟨x, y, z, q⟩ := h
  rw [e, hp] at q
  exact nomatch q
/-- a pick of a list that was just written -/
theorem r_pickN {K : PySem.W.Frag} {Q : VK} {E : XK} {xs : List V} (h : BoxAt H b) (hp : H p = none) (h1 : 1 ≤ xs.length) (h2 : xs.length < 1000000) (k : ∀ (v : V) (H' : Hp), v ∈ xs → Bx b H H' → Q v H') :
    spPick K [.ref b, .ref p] (upd H p (.lst xs)) Q E :=
  ⟨b, p, xs, rfl, h.upd hp, .inl (SqL.of upd_same), Ne.symm (h.fresh hp), h1, h2, fun v H' hv hx => k v H' hv (((Bx.refl h).upd hp).trans hx)⟩
theorem r_pickT {K : PySem.W.Frag} {Q : VK} {E : XK} {xs : List V} (h : BoxAt H b) (hp : H p = none) (h1 : 1 ≤ xs.length) (h2 : xs.length < 1000000) (k : ∀ (v : V) (H' : Hp), v ∈ xs → Bx b H H' → Q v H') :
    spPick K [.ref b, .ref p] (upd H p (.tup xs)) Q E :=
  ⟨b, p, xs, rfl, h.upd hp, .inr (SqT.of upd_same), Ne.symm (h.fresh hp), h1, h2, fun v H' hv hx => k v H' hv (((Bx.refl h).upd hp).trans hx)⟩
theorem r_take {Q : VK} {E : XK} {m : Int} (h : BoxAt H b) (h1 : 1 ≤ m) (h2 : m < 1000000000) (k : ∀ (d : Int) (H' : Hp), 0 ≤ d → d < m → Bx b H H' → Q (.int d) H') : spTake [.ref b, .int m] H Q E := ⟨b, m, rfl, h, h1, h2, k⟩
theorem ne_kind {u : HO} (h : H p = some o) (g : H a = some u) (n : o ≠ u) : p ≠ a := fun e => by
  subst e
  rw [h] at g
  exact n (Option.some.inj g)
theorem Same.seqL {K : PySem.W.Frag} {l : Addr} {xs : List V} (s : Same H H') (q : SqL K H l xs) : SqL K H' l xs := by
  rcases q with (q | ⟨u, q⟩) | q
  · exact .inl (.inl (s _ _ q))
  · exact .inl (.inr ⟨u, s _ _ q⟩)
  · exact .inr q
end
end Hg
end L2
end

section
set_option Elab.async false
set_option linter.all false
set_option maxRecDepth 100000
set_option maxHeartbeats 4000000
/-! The end of a law's row from a promise that is asked where no guard is set. -/
namespace L2
namespace Hg
open PySem PySem.Spec PyProof.Rows

theorem kit_sub {K : PySem.W.Frag} {C D : Addr} {b : Bool} (hd : PySem.W.hasDictIn K C = true) (ht : PySem.W.typeIn K (.ref C) = some (.type "type")) (h : PySem.W.subIn K (.ref D) (.ref C) = some b) (self : PySem.W.subIn K (.ref D) (.ref D) = some true) : PySem.W.kitOne K (.ref D) (.ref C) = some b := by
  obtain ⟨cd, hc, _⟩ := PySem.W.any_some hd
  have e2 : ((PySem.W.clsIn K C).isSome && PySem.W.typeIn K (.ref C) == some (.type "type")) = true := by rw [hc, ht] <;> rfl
  by_cases e : D = C
  · subst e
    rw [self] at h
    cases h
    show (if ((Value.ref D == Value.ref D) = true) then some true else _) = some true
    rw [if_pos (beq_self_eq_true _)]
  · show (if ((Value.ref D == Value.ref C) = true) then some true else (if ((PySem.W.clsIn K C).isSome && PySem.W.typeIn K (.ref C) == some (.type "type")) = true then PySem.W.subIn K (.ref D) (.ref C) else none)) = some b
    rw [if_neg (fun z => e (by have := beq_iff_eq.mp z; cases this; rfl)), if_pos e2]
    exact h

theorem law_callG {P : Program} {w : World} {K : PySem.W.Frag} {mg mb : Str → Option Value} {k : Nat} {fa a : Addr} {nm x : Str} {sp : Sp} {s₁ : Shared} {vs : List Value} {ns : List Int}
    (KX : K.In s₁.heap) (hns : s₁.heap.Ns mainGlobals mg) (hb : s₁.heap.Ns builtinsNs mb) (hbb : ∀ x : Str, x ≠ "__name__" → mb x = bootBuiltins x) (hlim : s₁.heap.NoLimit) (hg : s₁.gens = #[])
    (ha : s₁.heap.get? a = some { cls := .type "list", data := .seq vs.toArray }) (hi : IntsAre vs ns) (hl : ns.length ≤ sizeLine) (hr : Room k callerA)
    (hmg : mg nm = some (.ref fa)) (F : ∀ base : Heap, K.In base → base.Ns mainGlobals mg → DefG P w K mg base CX0 k nm [x] sp)
    (hsp : ∀ H : Hp, SqL K H a (ns.map V.int) → sp [.ref a] H (fun v _ => v = .bl true) fun _ _ _ => False) :
    codeAny (model P w) callerA (.call (.ref fa) ⟨[.ref a], []⟩) (fun r s' => r = .ok (.ret (.bool true)) ∧ OldK s₁.heap s'.heap ∧ s'.os = s₁.os ∧ AllBare s'.gens) s₁ := by
  have rv := vals_ints hi
  have lenV := hi.length
  have core : ∀ H : Hp, Only H → SqL K H a (ns.map V.int) → HOk P w H s₁.heap → (∀ b, H b ≠ none → b = a) → (H a ≠ none → K.lookup a = none) →
      codeAny (model P w) callerA (.call (.ref fa) ⟨[.ref a], []⟩) (fun r s' => r = .ok (.ret (.bool true)) ∧ OldK s₁.heap s'.heap ∧ s'.os = s₁.os ∧ AllBare s'.gens) s₁ := by
    intro H hO hS hok hA hK
    have only : ∀ {b : Addr}, H b ≠ none → b = a := fun {b} n => hA b n
    have hidK : ∀ {b : Addr} {o : Obj}, s₁.heap.get? b = some o → H b = none → (hidT s₁.heap H).get? b = some o := fun z n => hidT_get z n
    have noDict : ∀ {b : Addr} {o : Obj} {es : Array DictEntry} {ep : Nat}, s₁.heap.get? b = some o → o.data = .dict es ep → H b = none := by
      intro b o es ep z d
      cases q : H b with
      | none => rfl
      | some u =>
        obtain rfl : b = a := only (by rw [q]; simp)
        rw [ha] at z
        cases z
        cases (show Data.seq vs.toArray _ = Data.dict es ep from d)
    have nsK : ∀ {b : Addr} {m : Str → Option Value}, s₁.heap.Ns b m → (hidT s₁.heap H).Ns b m := by
      rintro b m ⟨o, es, ep, z, d, r⟩
      exact ⟨o, es, ep, hidK z (noDict z d), d, r⟩
    have hKb : K.In (hidT s₁.heap H) := by
      intro b o z
      refine hidK (KX b o z) ?_
      cases q : H b with
      | none => rfl
      | some u =>
        obtain rfl : b = a := only (by rw [q]; simp)
        rw [hK (by rw [q]; simp)] at z
        cases z
    have hM : Mod K mg (hidT s₁.heap H) := by
      obtain ⟨mc, h1, h2⟩ := hlim
      exact ⟨hKb, nsK hns, ⟨mb, nsK hb, hbb⟩, ⟨mc, nsK h1, h2⟩⟩
    have e0 : Env0 P w K mg (hidT s₁.heap H) callerA [] s₁ H := by
      refine ⟨rfl, hM, fun b o z => of_hidT z, Nat.le_of_eq (hidT_size _ _), trivial, fun b hb => ?_, hok, .of_eq hg⟩
      cases (show b ∈ ([] : List Addr) from hb)
    obtain ⟨f, fd, hm, _, FG, hbind⟩ := F _ hKb (nsK hns)
    rw [hmg] at hm
    cases hm
    have main := FG.run callerA [] s₁ H ⟨[.ref a], []⟩ [.ref a] [.ref a] _ _ rfl hr e0 (hbind s₁ [.ref a] KX rfl) (.cons rfl .nil) (hsp H hS)
    refine codeAny_mono main fun r s' h => ?_
    cases r with
    | error e => exact False.elim h
    | ok fl =>
      cases fl with
      | next => exact False.elim h
      | brk => exact False.elim h
      | cont => exact False.elim h
      | ret u =>
        obtain ⟨v, H', os, bare, un, hok', r', q⟩ := h
        obtain rfl : v = .bl true := q
        obtain rfl : u = Value.bool true := r'
        refine ⟨rfl, OldK.of_keep fun b o z => ?_, os, bare⟩
        cases q : H b with
        | none => exact un.keep b o z q (fun y => by cases (show b ∈ ([] : List Addr) from y)) (by simp)
        | some u =>
          rcases hO b with y | ⟨ob, xs, y⟩
          · rw [q] at y; cases y
          · obtain ⟨e1, _⟩ := hok b _ y
            obtain ⟨e2, _⟩ := hok' b _ (un.frzs b ob _ y)
            rw [z] at e1
            cases e1
            exact e2
  cases hk : K.lookup a with
  | some o =>
    have z := KX a o hk
    rw [ha] at z
    cases z
    refine core (fun _ => none) (fun _ => .inl rfl) (.inr ⟨_, vs.toArray, _, hk, rfl, rfl, rfl, ?_, by simpa using rv⟩) (fun b u y => ?_) (fun b y => absurd rfl y) fun y => absurd rfl y
    · rw [List.size_toArray, lenV]; exact hl
    · cases (show (none : Option HO) = some u from y)
  | none =>
    let ob : Obj := { cls := .type "list", data := .seq vs.toArray }
    refine core (fun b => if b = a then some (.frz ob (.lst (ns.map V.int))) else none) (fun b => ?_) (.inl (.inr ⟨ob, if_pos rfl⟩)) (fun b u y => ?_) (fun b y => ?_) fun _ => hk
    · by_cases e : b = a
      · exact .inr ⟨_, _, if_pos e⟩
      · exact .inl (if_neg e)
    · by_cases e : b = a
      · have y' := (if_pos e).symm.trans y
        cases y'
        subst e
        exact ⟨ha, by rw [List.length_map]; exact hl, vs, _, rv, ha⟩
      · have y' := (if_neg e).symm.trans y
        cases y'
    · by_cases e : b = a
      · exact e
      · exact absurd (if_neg e) y

theorem walk_ofG {l : PySem.W.OpenLaw} {n k : Nat} {q : Program} {loose : List Str} {XP : (Str → Option Value) → Heap → Prop} {YP : World → Heap → Prop} {d : DefRec} {K : Params → PySem.W.Frag} {sp : PySem.W.Frag → Sp} {x : Str}
    (hn : l.most = some n) (hn2 : n ≤ sizeLine) (hdf : d.params.defaults = []) (hr : Room k callerA)
    (hY : ∀ (w : World) (h : Heap), YP w h → (K w.params).In h)
    (F : ∀ (w : World) (mg : Str → Option Value) (h : Heap), (K w.params).In h → h.Ns mainGlobals mg →
      ∀ base : Heap, (K w.params).In base → base.Ns mainGlobals mg → DefG l.prog w (K w.params) mg base CX0 k d.name [x] (sp (K w.params)))
    (hsp : ∀ (K : PySem.W.Frag) (H : Hp) (a : Addr) (ns : List Int), ns.length ≤ n → SqL K H a (ns.map V.int) → sp K [.ref a] H (fun v _ => v = .bl true) fun _ _ _ => False) :
    PySem.W.WalkO q loose XP YP l.row.toRowW d [] (fun f vs => PySem.call f vs) := by
  refine Att.attach_call hn hdf fun w s₀ s₁ mg mb fa o pm cd doc a vs ns G Y ho hd hcd hmg hobj hints hlen hg => ?_
  exact law_callG (hY w _ Y) G.T.g G.T.b G.T.builtins G.T.nolimit hg hobj hints (Nat.le_trans hlen hn2) hr hmg (F w mg _ (hY w _ Y) G.T.g) fun H hS => hsp (K w.params) H a ns hlen hS
end Hg
end L2
end
set_option Elab.async false
set_option linter.all false
set_option maxRecDepth 100000
set_option autoImplicit false
set_option maxHeartbeats 200000
namespace L2
namespace Hg
open PySem PySem.Spec PyProof.Rows
local macro_rules | `(tactic| tm_at "r1") => `(tactic| first
  | with_reducible refine' r_seq ?_
  | with_reducible refine' r_asg ?_
  | with_reducible refine' r_gName ?_
  | with_reducible refine' r_op ?_
  | ((with_reducible refine' r_var ?hv ?_); (case hv => rfl))
  | with_reducible refine' r_c ?_
  | with_reducible refine' r_cons ?_
  | with_reducible refine' r_nil ?_
  | with_reducible refine' r_cb ?_
  | with_reducible refine' r_call ?_
  | with_reducible refine' r_callS ?_
  | with_reducible refine' r_ifS ?_
  | with_reducible refine' r_ret ?_
  | with_reducible refine' r_drop ?_
  | with_reducible refine' r_next ?_
  | with_reducible refine' r_test ?_
  | with_reducible refine' r_B ?_
  | with_reducible refine' r_bl ?_
  | with_reducible refine' r_tru ?_
  | with_reducible refine' r_and ?_
  | with_reducible refine' r_or ?_
  | with_reducible refine' r_not ?_
  | with_reducible refine' r_andV ?_
  | with_reducible refine' r_orV ?_
  | with_reducible refine' r_notV ?_
  | with_reducible refine' r_if ?_
  | with_reducible refine' r_chain ?_
  | with_reducible refine' r_un ?_
  | with_reducible refine' r_for ?_
  | with_reducible refine' r_rng1 ?_
  | with_reducible refine' r_rng2 ?_
  | with_reducible refine' r_iL ?_
  | with_reducible refine' r_iT ?_
  | with_reducible refine' r_lc ?_
  | with_reducible refine' r_yes ?_
  | with_reducible refine' r_gCons ?_
  | with_reducible refine' r_gNil ?_
  | with_reducible refine' r_pairs ?_
  | with_reducible refine' r_pairs0 ?_
  | with_reducible refine' r_disp ?_
  | with_reducible refine' r_dput ?_
  | with_reducible refine' r_dget ?_
  | with_reducible refine' r_veI ?_
  | with_reducible refine' r_sFld ?_
  | with_reducible refine' r_fld ?_
  | with_reducible refine' r_makeS ?_
  | with_reducible refine' r_make ?_
  | with_reducible refine' r_lst ?_
  | with_reducible refine' r_tup ?_
  | with_reducible refine' r_addI ?_
  | with_reducible refine' r_sub ?_
  | with_reducible refine' r_lt ?_
  | with_reducible refine' r_le ?_
  | with_reducible refine' r_gt ?_
  | with_reducible refine' r_ge ?_
  | with_reducible refine' r_abs ?_
  | with_reducible refine' r_intI ?_
  | with_reducible refine' r_intB ?_
  | with_reducible refine' r_min2 ?_
  | with_reducible refine' r_max2 ?_
  | with_reducible refine' r_isN ?_
  | with_reducible refine' r_notN ?_
  | with_reducible refine' r_neg ?_
  | ((with_reducible refine' r_mod ?hv ?_); (case hv => decide))
  | ((with_reducible refine' r_mul (cmulL ?hv) ?_); (case hv => decide))
  | ((with_reducible refine' r_mul (cmulR ?hv) ?_); (case hv => decide))
  | ((with_reducible refine' r_pow ?hv ?_); (case hv => refine ⟨?_, ?_, ?_⟩ <;> decide))
  | with_reducible refine' r_T ?_
  | with_reducible refine' r_nT ?_
  | with_reducible refine' r_nF ?_
  | with_reducible refine' r_F ?_
  | with_reducible refine' r_meth ?_
  | with_reducible refine' r_metS ?_
  | with_reducible refine' r_prop ?_
  | with_reducible refine' r_star ?_
  | with_reducible refine' r_par ?_
  | with_reducible refine' r_par3 ?_
  | with_reducible refine' r_v2 ?_
  | with_reducible refine' r_v3 ?_
  | with_reducible refine' r_sl ?_
  | with_reducible refine' r_part ?_
  | with_reducible refine' r_noPart ?_
  | with_reducible refine' r_i ?_
  | with_reducible refine' r_gSub ?_
  | fail)
local macro_rules | `(tactic| tm_at "rd") => `(tactic| repeat tm_at "r1")
local macro_rules | `(tactic| tm_at "hs") => `(tactic| first
  | with_reducible assumption
  | (with_reducible exact upd_same)
  | ((with_reducible show upd _ _ _ _ = _); (with_reducible refine' at_upd ?hn ?ho); (case hn => tm_at "ne"); (case ho => tm_at "hs"))
  | ((with_reducible refine' Bx.keep ?hx _ _ ?hn ?ho); (case hx => with_reducible assumption); (case hn => tm_at "ne"); (case ho => tm_at "hs"))
  | ((with_reducible refine' Same.at ?hx ?ho); (case hx => with_reducible assumption); (case ho => tm_at "hs"))
  | ((with_reducible refine' Kx.at ?hx ?hn ?ho); (case hx => with_reducible assumption); (case hn => tm_at "ne"); (case ho => tm_at "hs"))
  | fail)
local macro_rules | `(tactic| tm_at "ne") => `(tactic| first
  | with_reducible assumption
  | exact Ne.symm (by with_reducible assumption)
  | ((with_reducible refine' ne_of_none ?ha ?hb); (case hb => with_reducible assumption); (case ha => with_reducible assumption))
  | ((with_reducible refine' Ne.symm (ne_of_none ?ha ?hb)); (case hb => with_reducible assumption); (case ha => with_reducible assumption))
  | ((with_reducible refine' ne_of_none ?ha ?hb); (case hb => with_reducible assumption); (case ha => tm_at "hs"))
  | ((with_reducible refine' Ne.symm (ne_of_none ?ha ?hb)); (case hb => with_reducible assumption); (case ha => tm_at "hs"))
  | fail)
local macro_rules | `(tactic| tm_at "fr") => `(tactic| repeat (rename upd _ _ _ _ = Option.none => hfr; have hfr2 := free_upd hfr; clear hfr; obtain ⟨hfr3, hfr4⟩ := hfr2))
local macro_rules | `(tactic| tm_at "sq") => `(tactic| first
  | with_reducible assumption
  | exact SqL.of (by tm_at "hs")
  | exact SqT.of (by tm_at "hs")
  | fail)
local macro_rules | `(tactic| tm_at "r2") => `(tactic| first
  | tm_at "r1"
  | ((with_reducible refine' r_ixL ?ha ?hb ?_); (case ha => tm_at "sq"); (case hb => rfl))
  | ((with_reducible refine' r_ixT ?ha ?hb ?_); (case ha => tm_at "sq"); (case hb => rfl))
  | ((with_reducible refine' r_setL ?ha ?hb ?_); (case ha => tm_at "hs"); (case hb => rfl))
  | ((with_reducible refine' r_lenL ?ha ?_); (case ha => tm_at "sq"))
  | ((with_reducible refine' r_lenT ?ha ?_); (case ha => tm_at "sq"))
  | fail)
local macro_rules | `(tactic| tm_at "go") => `(tactic| repeat tm_at "r2")
local macro_rules | `(tactic| tm_at "fn") => `(tactic| first
  | with_reducible assumption
  | ((with_reducible refine' Same.free ?hs ?hn); (case hn => with_reducible assumption); (case hs => tm_at "sm"))
  | fail)
local macro_rules | `(tactic| tm_at "sm") => `(tactic| first
  | with_reducible assumption
  | with_reducible exact Same.refl
  | ((with_reducible refine' Same.new ?ha ?hb); (case hb => with_reducible assumption); (case ha => tm_at "sm"))
  | ((with_reducible refine' Same.updF ?ha ?hb); (case hb => tm_at "fn"); (case ha => tm_at "sm"))
  | ((with_reducible refine' Same.bx ?ha ?hx ?hb); (case hx => with_reducible assumption); (case hb => tm_at "fn"); (case ha => tm_at "sm"))
  | ((with_reducible refine' Same.kx ?ha ?hx ?hb); (case hx => with_reducible assumption); (case hb => tm_at "fn"); (case ha => tm_at "sm"))
  | ((with_reducible refine' Same.trans ?ha ?hx); (case hx => with_reducible assumption); (case ha => tm_at "sm"))
  | fail)
local macro_rules | `(tactic| tm_at "tk") => `(tactic| first
  | with_reducible assumption
  | with_reducible exact Tk.refl
  | ((with_reducible refine' Tk.new ?ha ?hb); (case hb => with_reducible assumption); (case ha => tm_at "tk"))
  | ((with_reducible refine' Tk.setL ?ha ?hb); (case hb => tm_at "hs"); (case ha => tm_at "tk"))
  | ((with_reducible refine' Tk.setI ?ha ?hb); (case hb => tm_at "hs"); (case ha => tm_at "tk"))
  | ((with_reducible refine' Tk.trans ?ha (Bx.tk ?hx ?hb)); (case hx => with_reducible assumption); (case hb => tm_at "bx"); (case ha => tm_at "tk"))
  | ((with_reducible refine' Tk.trans ?ha (Kx.tk ?hx ?hb)); (case hx => with_reducible assumption); (case hb => tm_at "hs"); (case ha => tm_at "tk"))
  | ((with_reducible refine' Tk.trans ?ha (Same.tk ?hx)); (case hx => with_reducible assumption); (case ha => tm_at "tk"))
  | ((with_reducible refine' Tk.trans ?ha ?hx); (case hx => with_reducible assumption); (case ha => tm_at "tk"))
  | fail)
local macro_rules | `(tactic| tm_at "bx") => `(tactic| first
  | with_reducible assumption
  | ((with_reducible refine' Bx.box ?hx); (case hx => with_reducible assumption))
  | ((with_reducible refine' BoxAt.at ?ha ?hn); (case hn => tm_at "ne"); (case ha => tm_at "bx"))
  | ((with_reducible refine' BoxAt.same ?ha ?hs); (case hs => with_reducible assumption); (case ha => tm_at "bx"))
  | exact ⟨_, _, _, by tm_at "hs"⟩
  | fail)
section
variable {P : Program} {w : World} {K : PySem.W.Frag} {mg : Str → Option Value} {base : Heap} {aGround aWord aInvWord aMis aFar : Addr}
def top (i : Nat) : Stmt := PySem.Challenge.pw_heldground_k76_far_ends_alone.main.body.getD i (.Pass ⟨0, 0, 0, 0⟩)
abbrev s_law_box : Stmt := top 22
theorem sc_law_box : FnScope ["_law_script", "_law_k", "_law_own", "_law_cell", "_law_seed"] ["_law_script", "_law_k", "_law_own"] (defScope s_law_box) := ⟨rfl, rfl, rfl, by decide +kernel, rfl, by decide +kernel, by decide +kernel⟩
abbrev s_law_take : Stmt := top 23
theorem sc_law_take : FnScope ["_law_box_here", "_law_many", "_law_raw", "_law_wide", "_law_digit"] ["_law_box_here", "_law_many"] (defScope s_law_take) := ⟨rfl, rfl, rfl, by decide +kernel, rfl, by decide +kernel, by decide +kernel⟩
abbrev s_law_pick : Stmt := top 24
theorem sc_law_pick : FnScope ["_law_box_here", "_law_items"] ["_law_box_here", "_law_items"] (defScope s_law_pick) := ⟨rfl, rfl, rfl, by decide +kernel, rfl, by decide +kernel, by decide +kernel⟩
abbrev s_law_is_shown : Stmt := top 25
theorem sc_law_is_shown : FnScope ["_law_held", "_law_slot", "_law_ground", "_law_modulus"] ["_law_held", "_law_slot", "_law_ground", "_law_modulus"] (defScope s_law_is_shown) := ⟨rfl, rfl, rfl, by decide +kernel, rfl, by decide +kernel, by decide +kernel⟩
abbrev s_law_heard : Stmt := top 26
theorem sc_law_heard : FnScope ["_law_far", "_law_word", "_law_found", "e"] ["_law_far", "_law_word"] (defScope s_law_heard) := ⟨rfl, rfl, rfl, by decide +kernel, rfl, by decide +kernel, by decide +kernel⟩
abbrev s_law : Stmt := top 27
theorem sc_law : FnScope ["_law_script", "_law_k", "_law_box_here", "_law_turn", "_law_slots", "_law_modulus", "_law_far", "_law_held", "_law_most", "_law_ground", "_law_is_known", "_law_due", "_law_number", "_law_slot", "_law_keep"] ["_law_script"] (defScope s_law) := ⟨rfl, rfl, rfl, by decide +kernel, rfl, by decide +kernel, by decide +kernel⟩
abbrev s_is_integer : Stmt := top 7
theorem sc_is_integer : FnScope ["value"] ["value"] (defScope s_is_integer) := ⟨rfl, rfl, rfl, by decide +kernel, rfl, by decide +kernel, by decide +kernel⟩
abbrev s_is_from : Stmt := top 8
theorem sc_is_from : FnScope ["value", "least", "most"] ["value", "least", "most"] (defScope s_is_from) := ⟨rfl, rfl, rfl, by decide +kernel, rfl, by decide +kernel, by decide +kernel⟩
abbrev s_is_number : Stmt := top 15
theorem sc_is_number : FnScope ["value"] ["value"] (defScope s_is_number) := ⟨rfl, rfl, rfl, by decide +kernel, rfl, by decide +kernel, by decide +kernel⟩
abbrev s_Word__init : Stmt := inClass (top 17) 0
theorem sc_Word__init : FnScope ["self", "number", "slot", "ground", "keep", "is_whole"] ["self", "number", "slot", "ground", "keep"] (defScope s_Word__init) := ⟨rfl, rfl, rfl, by decide +kernel, rfl, by decide +kernel, by decide +kernel⟩
abbrev s_InvalidWord__init : Stmt := inClass (top 2) 0
theorem sc_InvalidWord__init : FnScope ["self"] ["self"] (defScope s_InvalidWord__init) := ⟨rfl, rfl, rfl, by decide +kernel, rfl, by decide +kernel, by decide +kernel⟩
abbrev s_Mismatch__init : Stmt := inClass (top 3) 0
theorem sc_Mismatch__init : FnScope ["self"] ["self"] (defScope s_Mismatch__init) := ⟨rfl, rfl, rfl, by decide +kernel, rfl, by decide +kernel, by decide +kernel⟩
abbrev s_Far__init : Stmt := inClass (top 20) 0
theorem sc_Far__init : FnScope ["self", "slots", "modulus"] ["self", "slots", "modulus"] (defScope s_Far__init) := ⟨rfl, rfl, rfl, by decide +kernel, rfl, by decide +kernel, by decide +kernel⟩
abbrev s_Far_held : Stmt := inClass (top 20) 1
theorem sc_Far_held : FnScope ["self"] ["self"] (defScope s_Far_held) := ⟨rfl, rfl, rfl, by decide +kernel, rfl, by decide +kernel, by decide +kernel⟩
abbrev s_Far_is_shown : Stmt := inClass (top 20) 2
theorem sc_Far_is_shown : FnScope ["self", "word", "number", "is_broken"] ["self", "word"] (defScope s_Far_is_shown) := ⟨rfl, rfl, rfl, by decide +kernel, rfl, by decide +kernel, by decide +kernel⟩
abbrev s_Far_take : Stmt := inClass (top 20) 3
theorem sc_Far_take : FnScope ["self", "word", "slot", "found"] ["self", "word"] (defScope s_Far_take) := ⟨rfl, rfl, rfl, by decide +kernel, rfl, by decide +kernel, by decide +kernel⟩
abbrev s_by_modulus : Stmt := top 19
theorem sc_by_modulus : FnScope ["number", "modulus"] ["number", "modulus"] (defScope s_by_modulus) := ⟨rfl, rfl, rfl, by decide +kernel, rfl, by decide +kernel, by decide +kernel⟩
abbrev s_exchanged : Stmt := top 11
theorem sc_exchanged : FnScope ["things", "at", "thing"] ["things", "at", "thing"] (defScope s_exchanged) := ⟨rfl, rfl, rfl, by decide +kernel, rfl, by decide +kernel, by decide +kernel⟩
structure Txt (K : PySem.W.Frag) (mg : Str → Option Value) (aGround aWord aInvWord aMis aFar : Addr) : Prop where
  m_GroundError : mg "GroundError" = some (.ref aGround)
  b_GroundError : BaseInit K aGround
  m_LAST_SLOT : ∃ t, mg "LAST_SLOT" = some (.int 2 t)
  m_InvalidWord : mg "InvalidWord" = some (.ref aInvWord)
  m_Mismatch : mg "Mismatch" = some (.ref aMis)
  clW : Cls K aWord
  clF : Cls K aFar
  nN : NoAttr K aWord "number"
  nS : NoAttr K aWord "slot"
  nG : NoAttr K aWord "ground"
  nK : NoAttr K aWord "keep"
  nM : NoAttr K aFar "modulus"
  nH : NoAttr K aFar "had"
  exm : PySem.W.exmOne K (.ref aMis) (.ref aMis) = some true
  xc : ExcC K aMis
  isG : PySem.W.kitOne K (.ref aMis) (.ref aGround) = some true
  isR : PySem.W.kitOne K (.ref aMis) (.ref aInvWord) = some false
  n_int : mg "int" = none
  n_len : mg "len" = none
  n_abs : mg "abs" = none
  n_repr : mg "repr" = none
  n_range : mg "range" = none
  n_min : mg "min" = none
  n_max : mg "max" = none
  n_bool : mg "bool" = none
  n_isinstance : mg "isinstance" = none
  n_tuple : mg "tuple" = none
theorem ok_take (F : DefAt K mg "_law_take" s_law_take) (T : Txt K mg aGround aWord aInvWord aMis aFar) : DefOk P w K mg base CX0 1 "_law_take" ["_law_box_here", "_law_many"] spTake := by
  refine F.ok sc_law_take (fun _ _ _ _ _ _ us hl => match us, hl with | [_, _], _ => rfl) (fun vs H Q E h => ?_) (fun f cdv A outer s H vs Q E hr h => ?_)
  · obtain ⟨b, m, rfl, _⟩ := h
    rfl
  · obtain ⟨b, m, rfl, ⟨x, y, z, hb⟩, m1, m2, k⟩ := h
    refine ⟨_, (pss_cons (ps_if (pt_cmpR o_gt (pe_ix (ix_u K) (pv 0) pe_int (fun _ _ => rfl)) pe_int (nomark _)) (pss_cons (ps_set (i := 4) sc_law_take.nd rfl (Or.inl rfl) (pe_op o_mod (pe_callTy c_int (by rfl) T.n_int (by decide +kernel) (pa_cons (pe_ix (ix_u K) (pv 0) pe_int (fun _ _ => rfl)) pa_nil)) (pv 1)))
  (pss_cons (ps_asg (pe_op o_div (pe_ix (ix_u K) (pv 0) pe_int (fun _ _ => rfl)) (pv 1)) (pg_sub (pv 0) pe_int set_list))
  (pss_one (ps_ret (pv 4)))))
  pss_nil)
  (pss_cons (ps_asg (pe_op (o_add K) (pe_ix (ix_u K) (pv 0) pe_int (fun _ _ => rfl)) pe_int) (pg_sub (pv 0) pe_int set_list))
  (pss_cons (ps_set (i := 2) sc_law_take.nd rfl (Or.inl rfl) (pe_op o_mod (pe_callTy c_int (by rfl) T.n_int (by decide +kernel) (pa_cons (pe_op o_mul (pe_op (o_add K) (pe_ix (ix_u K) (pv 0) pe_int (fun _ _ => rfl)) (pe_op o_mul pe_int (pe_ix (ix_u K) (pv 0) pe_int (fun _ _ => rfl)))) pe_int) pa_nil)) pe_int))
  (pss_cons (ps_asg (pe_op (o_add K) (pe_op o_mod (pe_callTy c_int (by rfl) T.n_int (by decide +kernel) (pa_cons (pe_op (o_add K) (pe_op o_mul (pv 2) pe_int) pe_int) pa_nil)) pe_int) pe_int) (pg_sub (pv 0) pe_int set_list))
  (pss_cons (ps_if (pt_cmpR o_lt (pv 1) (pe_op o_pow pe_int pe_int) (nomark _)) (pss_one (ps_ret (pe_op o_mod (pe_callTy c_int (by rfl) T.n_int (by decide +kernel) (pa_cons (pe_op o_div (pe_op (o_add K) (pe_op o_mul (pv 2) pe_int) (pe_ix (ix_u K) (pv 0) pe_int (fun _ _ => rfl))) pe_int) pa_nil)) (pv 1))))
  pss_nil)
  (pss_cons (ps_set (i := 3) sc_law_take.nd rfl (Or.inl rfl) (pe_op o_mul (pe_op (o_add K) (pe_op o_mul (pv 2) pe_int) (pe_ix (ix_u K) (pv 0) pe_int (fun _ _ => rfl))) (pe_op o_pow pe_int pe_int)))
  (pss_one (ps_ret (pe_op o_mod (pe_callTy c_int (by rfl) T.n_int (by decide +kernel) (pa_cons (pe_op (o_add K) (pe_op (o_add K) (pv 3) (pe_op o_mul (pe_op o_pow (pe_ix (ix_u K) (pv 0) pe_int (fun _ _ => rfl)) pe_int) pe_int)) (pv 2)) pa_nil)) (pv 1)))))))))), ?_⟩
    tm_at "go"
    refine r_id (fun h0 => ?_) (fun h0 => ?_)
    · tm_at "go"
      refine r_mod (by omega) ?_
      tm_at "go"
      refine r_div (by omega) (by omega) ?_
      tm_at "go"
      exact k _ _ (Int.emod_nonneg _ (by omega)) (Int.emod_lt_of_pos _ (by omega)) ((Bx.refl ⟨_, _, _, hb⟩).set _ _ _)
    · tm_at "go"
      refine r_Td (by
        have p40 : (2 : Int) ^ Int.toNat 40 = 1099511627776 := by decide
        omega) ?_
      tm_at "go"
      refine r_div (by decide) (by decide) ?_
      tm_at "go"
      refine r_mod (by omega) ?_
      tm_at "go"
      exact k _ _ (Int.emod_nonneg _ (by omega)) (Int.emod_lt_of_pos _ (by omega)) (((Bx.refl ⟨_, _, _, hb⟩).set _ _ _).set _ _ _)
theorem ok_pick (F : DefAt K mg "_law_pick" s_law_pick) (T : Txt K mg aGround aWord aInvWord aMis aFar) (D_law_take : DefOk P w K mg base CX0 1 "_law_take" ["_law_box_here", "_law_many"] spTake) :
    DefOk P w K mg base CX0 2 "_law_pick" ["_law_box_here", "_law_items"] (spPick K) := by
  refine F.ok sc_law_pick (fun _ _ _ _ _ _ us hl => match us, hl with | [_, _], _ => rfl) (fun vs H Q E h => ?_) (fun f cdv A outer s H vs Q E hr h => ?_)
  · obtain ⟨b, l, xs, rfl, _⟩ := h
    rfl
  · obtain ⟨b, l, xs, rfl, hb, hl, nl, m1, m2, k⟩ := h
    refine ⟨_, (pss_one (ps_ret (pe_ix (ix_u K) (pv 1) (pe_callD D_law_take (hr.mono (by decide)) pass0 rfl (pa_cons (pv 0) (pa_cons (pe_callB (c_len K) (by rfl) T.n_len (by decide +kernel) (pa_cons (pv 1) pa_nil)) pa_nil))) (fun _ _ => rfl)))), ?_⟩
    have fin : ∀ (d : Int) (H' : Hp), 0 ≤ d → d < (xs.length : Nat) → Bx b H H' → rIx K (.ref l) (.int d) H' Q := fun d H' h0 h1 hx => by
      obtain ⟨j, rfl⟩ : ∃ j : Nat, d = j := ⟨d.toNat, by omega⟩
      have hj : j < xs.length := by omega
      have e : xs[j]? = some xs[j] := List.getElem?_eq_getElem hj
      rcases hl with hl | hl
      · exact r_ixL (Bx.seqL hx nl hl) (atI_nat e) (k _ _ (List.getElem_mem hj) hx)
      · exact r_ixT (Bx.seqT hx nl hl) (atI_nat e) (k _ _ (List.getElem_mem hj) hx)
    tm_at "go"
    have ln : ∀ {Q' : VK}, Q' (.int (xs.length : Nat)) H → uLen K [.ref l] H Q' := fun q => by
      rcases hl with hl | hl
      · exact r_lenL hl q
      · exact r_lenT hl q
    refine ln ?_
    tm_at "go"
    exact ⟨b, _, rfl, hb, by omega, by omega, fin⟩
theorem ok_box (F : DefAt K mg "_law_box" s_law_box) (T : Txt K mg aGround aWord aInvWord aMis aFar) : DefOk P w K mg base CX0 1 "_law_box" ["_law_script", "_law_k", "_law_own"] (spBox K) := by
  refine F.ok sc_law_box (fun _ _ _ _ _ _ us hl => match us, hl with | [_, _, _], _ => rfl) (fun vs H Q E h => ?_) (fun f cdv A outer s H vs Q E hr h => ?_)
  · obtain ⟨a, ns, k, c, rfl, _⟩ := h
    rfl
  · obtain ⟨a, ns, k, c, rfl, hS, k0, k1, c0, c1, nl, q⟩ := h
    refine ⟨_, (pss_cons (ps_set (i := 3) sc_law_box.nd rfl (Or.inl rfl) (pe_op (o_add K) (pe_op (o_add K) (pe_op o_mul pe_int (pv 1)) (pe_op o_mul pe_int (pv 2))) pe_int))
  (pss_cons (ps_if (pt_cmpR o_lt (pv 1) (pe_callB (c_len K) (by rfl) T.n_len (by decide +kernel) (pa_cons (pv 0) pa_nil)) (nomark _)) (pss_one (ps_set (i := 3) sc_law_box.nd rfl (Or.inl rfl) (pe_callB c_abs (by rfl) T.n_abs (by decide +kernel) (pa_cons (pe_ix (ix_u K) (pv 0) (pv 1) (fun _ _ => rfl)) pa_nil))))
  (pss_one (ps_if (pt_cmpR o_gt (pe_callB (c_len K) (by rfl) T.n_len (by decide +kernel) (pa_cons (pv 0) pa_nil)) pe_int (nomark _)) (pss_one (ps_set (i := 3) sc_law_box.nd rfl (Or.inl rfl) (pe_op (o_add K) (pv 3) (pe_op o_mul (pe_op o_mod (pe_callTy c_int (by rfl) T.n_int (by decide +kernel) (pa_cons (pe_callB c_abs (by rfl) T.n_abs (by decide +kernel) (pa_cons (pe_ix (ix_u K) (pv 0) (pe_op o_mod (pe_callTy c_int (by rfl) T.n_int (by decide +kernel) (pa_cons (pv 1) pa_nil)) (pe_callB (c_len K) (by rfl) T.n_len (by decide +kernel) (pa_cons (pv 0) pa_nil))) (fun _ _ => rfl)) pa_nil)) pa_nil)) pe_int) pe_int))))
  pss_nil)))
  (pss_cons (ps_set (i := 4) sc_law_box.nd rfl (Or.inl rfl) (pe_op (o_add K) (pe_op o_mod (pe_callTy c_int (by rfl) T.n_int (by decide +kernel) (pa_cons (pe_op (o_add K) (pe_op o_mul (pe_op o_mod (pe_callTy c_int (by rfl) T.n_int (by decide +kernel) (pa_cons (pv 3) pa_nil)) pe_int) pe_int) (pe_op o_mul pe_int (pe_op (o_add K) (pv 1) (pe_op o_mul pe_int (pv 2))))) pa_nil)) pe_int) pe_int))
  (pss_one (ps_ret (pe_lst (pa_cons (pe_ix (ix_u K) (pe_lst (pa_cons pe_int (pa_cons (pv 3) pa_nil))) (pe_callTy c_int (by rfl) T.n_int (by decide +kernel) (pa_cons (pe_cmpR o_ge (pv 3) (pe_op o_pow pe_int pe_int) (nomark _)) pa_nil)) (fun _ _ => rfl)) (pa_cons (pv 4) (pa_cons pe_int pa_nil))))))))), ?_⟩
    have at_ : ∀ j : Nat, j < ns.length → ∃ n : Int, atI (ns.map V.int) (j : Int) = some (.int n) := fun j hj => ⟨ns[j], atI_nat (by simp [hj])⟩
    obtain ⟨j, rfl⟩ : ∃ j : Nat, k = j := ⟨k.toNat, by omega⟩
    tm_at "go"
    have done : ∀ (cell v seed : Int) (p p2 : Addr), H p = none → upd H p (.lst [.int 0, .int cell]) p2 = none →
        Q (.ref p2) (upd (upd H p (.lst [.int 0, .int cell])) p2 (.lst [.int v, .int seed, .int 0])) := fun cell v seed p p2 hp h2 => by
      obtain ⟨f2, _⟩ := free_upd h2
      refine q p2 _ f2 ⟨fun x o n e => ?_, v, seed, 0, upd_same⟩
      exact at_upd n (at_upd (ne_of_none e hp) e)
    have ix : ∀ (cell : Int) (p : Addr) (Q1 : VK), (∀ v : Int, Q1 (.int v) (upd H p (.lst [.int 0, .int cell]))) →
        rIx K (.ref p) (.int (if decide (10 ^ Int.toNat 18 ≤ cell) then 1 else 0)) (upd H p (.lst [.int 0, .int cell])) Q1 := fun cell p Q1 k => by
      refine r_ixL (v := .int (if decide (10 ^ Int.toNat 18 ≤ cell) then cell else 0)) (SqL.of upd_same) ?_ (k _)
      split <;> rfl
    have lenE : (List.map V.int ns).length = ns.length := List.length_map ..
    refine r_id (fun h0 => ?_) (fun h0 => ?_)
    · obtain ⟨n, hn⟩ := at_ j (by omega)
      tm_at "go"
      refine r_ixL hS hn ?_
      tm_at "go"
      refine ⟨szl rfl, fun p hp => ?_⟩
      tm_at "go"
      refine ix _ p _ fun v => ?_
      tm_at "go"
      exact ⟨szl rfl, fun p2 h2 => done _ _ _ _ _ hp h2⟩
    · tm_at "go"
      refine r_id (fun h1 => ?_) (fun h1 => ?_)
      · have hj : j % ns.length < ns.length := Nat.mod_lt _ (by omega)
        obtain ⟨n, hn⟩ := at_ _ hj
        tm_at "go"
        refine r_mod (by omega) ?_
        refine r_ixL hS (by rw [lenE, ← Int.natCast_emod]; exact hn) ?_
        tm_at "go"
        refine ⟨szl rfl, fun p hp => ?_⟩
        tm_at "go"
        refine ix _ p _ fun v => ?_
        tm_at "go"
        exact ⟨szl rfl, fun p2 h2 => done _ _ _ _ _ hp h2⟩
      · tm_at "go"
        refine ⟨szl rfl, fun p hp => ?_⟩
        tm_at "go"
        refine ix _ p _ fun v => ?_
        tm_at "go"
        exact ⟨szl rfl, fun p2 h2 => done _ _ _ _ _ hp h2⟩
theorem ok_is_integer (F : DefAt K mg "is_integer" s_is_integer) (T : Txt K mg aGround aWord aInvWord aMis aFar) : DefOk P w K mg base CX0 1 "is_integer" ["value"] (spIsInt K) := by
  refine F.ok sc_is_integer (fun _ _ _ _ _ _ us hl => match us, hl with | [_], _ => rfl) (fun vs H Q E h => ?_) (fun f cdv A outer s H vs Q E hr h => ?_)
  · obtain ⟨v, rfl, _⟩ := h
    rfl
  · obtain ⟨v, rfl, hv, k⟩ := h
    refine ⟨_, (pss_one (ps_ret (pe_and (pe_callB (c_isi K) (by rfl) T.n_isinstance (by decide +kernel) (pa_cons (pv 0) (pa_cons (pe_bT (T := "int") (by rfl) T.n_int (by decide +kernel)) pa_nil))) (pe_one (pe_not (pe_callB (c_isi K) (by rfl) T.n_isinstance (by decide +kernel) (pa_cons (pv 0) (pa_cons (pe_bT (T := "bool") (by rfl) T.n_bool (by decide +kernel)) pa_nil)))))))), ?_⟩
    obtain ⟨t1, ty1, e1⟩ := hv.isi_int
    obtain ⟨t2, ty2, e2⟩ := hv.isi_bool
    rw [← isI_of] at k
    tm_at "go"
    refine r_isi (.ty _) ty1 e1 ?_
    tm_at "go"
    refine r_ite (fun h1 => ?_) (fun h1 => ?_)
    · tm_at "go"
      refine r_isi (.ty _) ty2 e2 ?_
      tm_at "go"
      rw [h1] at k
      exact k
    · rw [h1] at k
      exact k
theorem ok_is_from (F : DefAt K mg "is_from" s_is_from) (T : Txt K mg aGround aWord aInvWord aMis aFar) (D_is_integer : DefOk P w K mg base CX0 1 "is_integer" ["value"] (spIsInt K)) :
    DefOk P w K mg base CX0 2 "is_from" ["value", "least", "most"] (spFrom K) := by
  refine F.ok sc_is_from (fun _ _ _ _ _ _ us hl => match us, hl with | [_, _, _], _ => rfl) (fun vs H Q E h => ?_) (fun f cdv A outer s H vs Q E hr h => ?_)
  · obtain ⟨v, a, b, rfl, _⟩ := h
    rfl
  · obtain ⟨v, a, b, rfl, hv, k⟩ := h
    refine ⟨_, (pss_one (ps_ret (pe_and (pe_callD D_is_integer (hr.mono (by decide)) pass0 rfl (pa_cons (pv 0) pa_nil)) (pe_one (pe_chain o_le o_le (pv 1) (pv 0) (pv 2)))))), ?_⟩
    tm_at "go"
    refine ⟨v, rfl, hv, ?_⟩
    tm_at "go"
    refine r_ite (fun h1 => ?_) (fun h1 => ?_)
    · obtain ⟨i, rfl⟩ := isI_int h1
      tm_at "go"
      by_cases c1 : a ≤ i
      · refine r_Td c1 ?_
        tm_at "go"
        rw [show fromV (.int i) a b = decide (i ≤ b) by simp [fromV, c1]] at k
        exact k
      · refine r_Fd c1 ?_
        rw [show fromV (.int i) a b = false by simp [fromV, c1]] at k
        exact k
    · have z : fromV v a b = false := by
        cases v <;> first | rfl | cases h1
      rw [z] at k
      exact k
theorem ok_is_number (F : DefAt K mg "is_number" s_is_number) (T : Txt K mg aGround aWord aInvWord aMis aFar) (D_is_integer : DefOk P w K mg base CX0 1 "is_integer" ["value"] (spIsInt K)) :
    DefOk P w K mg base CX0 2 "is_number" ["value"] (spIsNum K) := by
  refine F.ok sc_is_number (fun _ _ _ _ _ _ us hl => match us, hl with | [_], _ => rfl) (fun vs H Q E h => ?_) (fun f cdv A outer s H vs Q E hr h => ?_)
  · obtain ⟨v, rfl, _⟩ := h
    rfl
  · obtain ⟨v, rfl, hv, k⟩ := h
    refine ⟨_, (pss_one (ps_ret (pe_and (pe_callD D_is_integer (hr.mono (by decide)) pass0 rfl (pa_cons (pv 0) pa_nil)) (pe_one (pe_cmpR o_ge (pv 0) pe_int (nomark _)))))), ?_⟩
    tm_at "go"
    refine ⟨v, rfl, hv, ?_⟩
    tm_at "go"
    refine r_ite (fun h1 => ?_) (fun h1 => ?_)
    · obtain ⟨i, rfl⟩ := isI_int h1
      tm_at "go"
      exact k
    · have z : numV v = false := by
        cases v <;> first | rfl | cases h1
      rw [z] at k
      exact k
local macro_rules | `(tactic| tm_at "wd") => `(tactic| first
  | tm_at "r2"
  | ((with_reducible show spIsNum _ _ _ _ _); (refine' ⟨_, rfl, ?ha, ?_⟩); (case ha => with_reducible assumption))
  | ((with_reducible show spFrom _ _ _ _ _); (refine' ⟨_, _, _, rfl, ?ha, ?_⟩); (case ha => with_reducible assumption))
  | refine r_ite (fun _ => ?_) (fun _ => ?_))
/-- the fields of a word -/
def wordF (a b c d : V) : List (Str × V) := putF "keep" d (putF "ground" c (putF "slot" b (putF "number" a [])))
def goodW (a b c d : V) : Bool := numV a && ((decide (b = .non) && decide (c = .non)) || (fromV b 0 2 && numV c)) && (decide (d = .non) || fromV d 0 2)
theorem wordF_number (a b c d : V) : (wordF a b c d).lookup ("number" : Str) = some a := by
  unfold wordF
  rw [lookup_putF, if_neg (by decide +kernel), lookup_putF, if_neg (by decide +kernel), lookup_putF, if_neg (by decide +kernel), lookup_putF, if_pos rfl]
theorem wordF_slot (a b c d : V) : (wordF a b c d).lookup ("slot" : Str) = some b := by
  unfold wordF
  rw [lookup_putF, if_neg (by decide +kernel), lookup_putF, if_neg (by decide +kernel), lookup_putF, if_pos rfl]
theorem wordF_ground (a b c d : V) : (wordF a b c d).lookup ("ground" : Str) = some c := by
  unfold wordF
  rw [lookup_putF, if_neg (by decide +kernel), lookup_putF, if_pos rfl]
theorem wordF_keep (a b c d : V) : (wordF a b c d).lookup ("keep" : Str) = some d := by
  unfold wordF
  rw [lookup_putF, if_pos rfl]
def spWord (K : PySem.W.Frag) (aWord aInvWord : Addr) : Sp := fun vs H Q E => ∃ x dx a b c d, vs = [.ref x, a, b, c, d] ∧ Kd K H a ∧ Kd K H b ∧ Kd K H c ∧ Kd K H d ∧ H x = some (.ins aWord dx []) ∧
  (goodW a b c d = true → Q .non (upd H x (.ins aWord dx (wordF a b c d)))) ∧ (goodW a b c d = false → E (.ref aInvWord) none H)
section

theorem ok_InvalidWord (F : ErrAt K mg "InvalidWord" "InvalidWord.__init__" s_InvalidWord__init aInvWord) (T : Txt K mg aGround aWord aInvWord aMis aFar) : ErrOk P w K mg base 1 "InvalidWord" aInvWord ["self"] (spInitN K aInvWord) := by
  refine F.ok sc_InvalidWord__init (fun _ _ _ _ _ _ us hl => match us, hl with | [_], _ => rfl) (fun vs H Q E h => ?_) (fun f cdv A outer s H vs Q E hr h => ?_)
  · obtain ⟨a, rfl, _⟩ := h
    rfl
  · obtain ⟨a, rfl, oc, ha, k⟩ := h
    refine ⟨_, (pss_one (ps_expr (pe_ginit rfl T.m_GroundError T.b_GroundError (pa_cons (pv 0) (pa_cons pe_str pa_nil))))), ?_⟩
    tm_at "go"
    exact ⟨a, aInvWord, _, rfl, Nat.le_of_ble_eq_true rfl, oc, ha, k⟩
theorem ok_Word {aWordI : Addr} {fdI : FuncData} (F : FunD K "__init__" "Word.__init__" (defArgs s_Word__init) (defBody s_Word__init) (defScope s_Word__init) [.non, .non, .non] [] aWordI fdI) (T : Txt K mg aGround aWord aInvWord aMis aFar)
    (D_is_number : DefOk P w K mg base CX0 2 "is_number" ["value"] (spIsNum K)) (D_is_from : DefOk P w K mg base CX0 2 "is_from" ["value", "least", "most"] (spFrom K))
    (R_InvalidWord : ErrOk P w K mg base 1 "InvalidWord" aInvWord ["self"] (spInitN K aInvWord)) :
    FnOk P w K mg base (L2.CX P w) 4 aWordI fdI ["self", "number", "slot", "ground", "keep"] (spWord K aWord aInvWord) := by
  refine F.ok sc_Word__init (fun vs H Q E h => ?_) (fun cdv A outer s H vs Q E hr h => ?_)
  · obtain ⟨x, dx, a, b, c, d, rfl, _⟩ := h
    rfl
  · obtain ⟨x, dx, a, b, c, d, rfl, ha, hb, hc, hd, hx, kY, kN⟩ := h
    refine ⟨_, (pss_cons (ps_set (i := 5) sc_Word__init.nd rfl (Or.inl rfl) (pe_and (pe_cmpR o_is (pv 2) pe_non (nomark _)) (pe_one (pe_cmpR o_is (pv 3) pe_non (nomark _)))))
  (pss_cons (ps_if (PW.pt (pw_or (pt_not (pt_tr K (pe_callD D_is_number (hr.mono (by decide)) pass0 rfl (pa_cons (pv 1) pa_nil)))) (pw_or1 (PW.pt (pw_and (pt_not (pt_tr K (pv 5))) (pw_and1 (pt_not (PW.pt (pw_and (pt_tr K (pe_callD D_is_from (hr.mono (by decide)) pass0 rfl (pa_cons (pv 2) (pa_cons pe_int (pa_cons (pe_gI rfl T.m_LAST_SLOT) pa_nil))))) (pw_and1 (pt_tr K (pe_callD D_is_number (hr.mono (by decide)) pass0 rfl (pa_cons (pv 3) pa_nil))))))))))))) (pss_one (ps_raise rfl (takes_of rfl rfl rfl rfl) (pmkN R_InvalidWord (hr.mono (by decide)) rfl)))
  pss_nil)
  (pss_cons (ps_if (PW.pt (pw_and (pt_cmpR o_isNot (pv 4) pe_non (nomark _)) (pw_and1 (pt_not (pt_tr K (pe_callD D_is_from (hr.mono (by decide)) pass0 rfl (pa_cons (pv 4) (pa_cons pe_int (pa_cons (pe_gI rfl T.m_LAST_SLOT) pa_nil))))))))) (pss_one (ps_raise rfl (takes_of rfl rfl rfl rfl) (pmkN R_InvalidWord (hr.mono (by decide)) rfl)))
  pss_nil)
  (pss_cons (ps_fl K (pv 0) (pv 1))
  (pss_cons (ps_fl K (pv 0) (pv 2))
  (pss_cons (ps_fl K (pv 0) (pv 3))
  (pss_one (ps_fl K (pv 0) (pv 4))))))))), ?_⟩
    have kE : ∀ {Q' : XK} {σ' : St}, goodW a b c d = false → (E (.ref aInvWord) none H → Q' (.ref aInvWord) none H) → tMkN aInvWord (spInitN K aInvWord) σ' H Q' := fun h k => r_mkN R_InvalidWord.2.1 (k (kN h))
    repeat' tm_at "wd"
    all_goals first
      | (refine kE ?_ (fun z => z); simp_all [goodW]; done)
      | skip
    all_goals
      have hg : goodW a b c d = true := by simp_all [goodW]
      have k := kY hg
      refine r_put hx T.clW T.nN (by decide) ?_
      tm_at "go"
      refine r_put upd_same T.clW T.nS (Nat.lt_of_le_of_lt (putF_len ..) (by decide)) ?_
      tm_at "go"
      refine r_put upd_same T.clW T.nG (Nat.lt_of_le_of_lt (Nat.le_trans (putF_len ..) (Nat.succ_le_succ (putF_len ..))) (by decide)) ?_
      tm_at "go"
      refine r_put upd_same T.clW T.nK (Nat.lt_of_le_of_lt (Nat.le_trans (putF_len ..) (Nat.succ_le_succ (Nat.le_trans (putF_len ..) (Nat.succ_le_succ (putF_len ..))))) (by decide)) ?_
      tm_at "go"
      show Q .non _
      rw [upd_upd, upd_upd, upd_upd]
      exact k
end
/-! ### pictures of a far end -/
def modI (mv : V) (n : Int) : Int := match mv with | .int m => n % m | _ => n
def OkM (mv : V) : Prop := mv = .non ∨ ∃ m : Int, mv = .int m ∧ 1 ≤ m
abbrev Pic := Option (Int × Bool)
def HV (H : Hp) (v : V) (s : Pic) : Prop := match s with | none => v = .non | some (n, b) => ∃ q, v = .ref q ∧ H q = some (.tup [.int n, .bl b])
theorem HV.mono {H H' : Hp} {v : V} {s : Pic} (t : Tk H H') (h : HV H v s) : HV H' v s := by
  cases s with
  | none => exact h
  | some x => obtain ⟨n, b⟩ := x; obtain ⟨q, e, hq⟩ := h; exact ⟨q, e, t _ _ hq⟩
abbrev Held (H : Hp) (vs : List V) (S : List Pic) : Prop := Paired (HV H) vs S
theorem Held.mono {H H' : Hp} {vs : List V} {S : List Pic} (t : Tk H H') (h : Held H vs S) : Held H' vs S := Paired.mapP h fun _ _ q => q.mono t
theorem Held.at {H : Hp} {vs : List V} {S : List Pic} (h : Held H vs S) : ∀ {i : Nat}, i < vs.length → ∃ v s, vs[i]? = some v ∧ S[i]? = some s ∧ HV H v s := by
  induction h with
  | nil => intro i hi; cases hi
  | cons h _ ih =>
    intro i hi
    cases i with
    | zero => exact ⟨_, _, rfl, rfl, h⟩
    | succ i =>
      obtain ⟨v, s, e1, e2, e3⟩ := ih (Nat.lt_of_succ_lt_succ hi)
      exact ⟨v, s, e1, e2, e3⟩
theorem Held.set {H : Hp} {vs : List V} {S : List Pic} {v : V} {s : Pic} (h : Held H vs S) (hv : HV H v s) : ∀ {i : Nat}, Held H (vs.set i v) (S.set i s) := by
  induction h with
  | nil => intro i; exact .nil
  | cons h hr ih =>
    intro i
    cases i with
    | zero => exact .cons hv hr
    | succ i => exact .cons h ih
theorem Held.rep {H : Hp} : ∀ n : Nat, Held H (List.replicate n .non) (List.replicate n none)
  | 0 => .nil
  | n + 1 => .cons rfl (Held.rep n)
def intOf (v : V) : Int := match v with | .int i => i | _ => 0
def picShown (mv : V) (g : Int) (s : Pic) : Bool := match s with | some (n, b) => !b && decide (modI mv n = modI mv g) | none => false
def shownS (S : List Pic) (mv s g : V) : Bool := match s with
  | .int j => match S[j.toNat]? with
    | some s => picShown mv (intOf g) s
    | none => false
  | _ => true
theorem shownS_at {S : List Pic} {mv : V} {j : Nat} {g : Int} {s : Pic} (h : S[j]? = some s) : shownS S mv (.int j) (.int g) = picShown mv g s := by
  unfold shownS
  show (match S[(j : Int).toNat]? with | some s => picShown mv (intOf (.int g)) s | none => false) = _
  rw [Int.toNat_natCast, h]
  rfl
abbrev farF (mv : V) (p : Addr) : List (Str × V) := [("modulus", mv), ("had", .ref p)]
def spByMod : Sp := fun vs H Q _ => ∃ (n : Int) (mv : V), vs = [.int n, mv] ∧ OkM mv ∧ Q (.int (modI mv n)) H
def spExch : Sp := fun vs H Q _ => ∃ (p : Addr) (at_ th : V) (us : List V), vs = [.ref p, at_, th] ∧ H p = some (.tup us) ∧ us.length ≤ 100 ∧
  ((at_ = .non ∧ Q (.ref p) H) ∨ ∃ i : Nat, at_ = .int i ∧ i < us.length ∧ ∀ p' H', Same H H' → H' p' = some (.tup (us.set i th)) → Q (.ref p') H')
def slotOk (n : Nat) (s : V) : Prop := s = .non ∨ ∃ j : Nat, s = .int j ∧ j < n
def spShown (aFar aWord : Addr) : Sp := fun vs H Q _ => ∃ (x wx dx dw p : Addr) (mv nv s g k : V) (us : List V) (S : List Pic), vs = [.ref x, .ref wx] ∧ H x = some (.ins aFar dx (farF mv p)) ∧ H wx = some (.ins aWord dw (wordF nv s g k)) ∧
  H p = some (.tup us) ∧ Held H us S ∧ OkM mv ∧ slotOk us.length s ∧ (s ≠ .non → ∃ j : Int, g = .int j) ∧ Q (.bl (shownS S mv s g)) H
section
variable {K : PySem.W.Frag}
theorem ok_by_modulus (F : DefAt K mg "by_modulus" s_by_modulus) (T : Txt K mg aGround aWord aInvWord aMis aFar) : DefOk P w K mg base CX0 1 "by_modulus" ["number", "modulus"] spByMod := by
  refine F.ok sc_by_modulus (fun _ _ _ _ _ _ us hl => match us, hl with | [_, _], _ => rfl) (fun vs H Q E h => ?_) (fun f cdv A outer s H vs Q E hr h => ?_)
  · obtain ⟨n, mv, rfl, _⟩ := h
    rfl
  · obtain ⟨n, mv, rfl, hm, k⟩ := h
    refine ⟨_, (pss_one (ps_ret (pe_ifExp (pt_cmpR o_is (pv 1) pe_non (nomark _)) (pv 0) (pe_op o_mod (pe_callTy c_int (by rfl) T.n_int (by decide +kernel) (pa_cons (pv 0) pa_nil)) (pv 1))))), ?_⟩
    tm_at "go"
    rcases hm with rfl | ⟨m, rfl, hm⟩
    · refine r_Td rfl ?_
      tm_at "go"
      exact k
    · refine r_Fd (fun z => nomatch z) ?_
      tm_at "go"
      refine r_mod (by omega) ?_
      exact k
theorem ok_exchanged (F : DefAt K mg "exchanged" s_exchanged) (T : Txt K mg aGround aWord aInvWord aMis aFar) : DefOk P w K mg base CX0 1 "exchanged" ["things", "at", "thing"] spExch := by
  refine F.ok sc_exchanged (fun _ _ _ _ _ _ us hl => match us, hl with | [_, _, _], _ => rfl) (fun vs H Q E h => ?_) (fun f cdv A outer s H vs Q E hr h => ?_)
  · obtain ⟨p, a, t, us, rfl, _⟩ := h
    rfl
  · obtain ⟨p, a, t, us, rfl, hp, hz, k⟩ := h
    refine ⟨_, (pss_one (ps_ret (pe_ifExp (pt_cmpR o_is (pv 1) pe_non (nomark _)) (pv 0) (pe_tup (pa_starK K (pe_slice (slT K) (pv 0) po_none (po_some (pv 1))) (pa_cons (pv 2) (pa_starK K (pe_slice (slT K) (pv 0) (po_some (pe_op (o_add K) (pv 1) pe_int)) po_none) pa_nil))))))), ?_⟩
    tm_at "go"
    rcases k with ⟨rfl, k⟩ | ⟨i, rfl, hi, k⟩
    · refine r_Td rfl ?_
      tm_at "go"
      exact k
    · refine r_Fd (fun z => nomatch z) ?_
      tm_at "go"
      have e1 : HT.sIx us.length us.length (some (i : Int)) = i := by rw [HT.sIx_nat]; exact Nat.min_eq_left (Nat.le_of_lt hi)
      have e2 : HT.sIx us.length 0 (some ((i : Int) + 1)) = i + 1 := by
        rw [show ((i : Int) + 1) = ((i + 1 : Nat) : Int) from rfl, HT.sIx_nat]; exact Nat.min_eq_left hi
      have c1 : cutV us none (some (i : Int)) = us.take i := by
        unfold cutV
        rw [HT.sIx_none, e1]; rfl
      have c2 : cutV us (some ((i : Int) + 1)) none = us.drop (i + 1) := by
        unfold cutV
        rw [HT.sIx_none, e2, ← List.length_drop]
        exact List.take_length
      refine ⟨p, us, rfl, SqT.of hp, fun z => by rw [e1] at z; omega, fun p1 hp1 => ?_⟩
      rw [c1]
      refine r_st (.inl (SqT.of upd_same)) ?_
      tm_at "go"
      refine ⟨p, us, rfl, SqT.of (by tm_at "hs"), fun z => by rw [e2] at z; omega, fun p2 hp2 => ?_⟩
      rw [c2]
      refine r_st (.inl (SqT.of upd_same)) ?_
      tm_at "go"
      have e3 : us.take i ++ t :: (us.drop (i + 1) ++ []) = us.set i t := by
        rw [List.append_nil, List.set_eq_take_append_cons_drop, if_pos hi]
      rw [e3]
      refine ⟨sz (by rw [List.length_set]; omega), fun p3 hp3 => ?_⟩
      exact k p3 _ (by tm_at "sm") upd_same
theorem ok_is_shown (F : MetAt K aFar "is_shown" "Far.is_shown" s_Far_is_shown) (T : Txt K mg aGround aWord aInvWord aMis aFar) (D_by_modulus : DefOk P w K mg base CX0 1 "by_modulus" ["number", "modulus"] spByMod) :
    MetOk P w K mg base CX0 2 aFar "is_shown" ["self", "word"] (spShown aFar aWord) := by
  refine F.ok sc_Far_is_shown (fun _ _ _ _ _ _ us hl => match us, hl with | [_, _], _ => rfl) (fun vs H Q E h => ?_) (fun f cdv A outer s H vs Q E hr h => ?_)
  · obtain ⟨x, wx, dx, dw, p, mv, nv, s, g, k, us, S, rfl, _⟩ := h
    rfl
  · obtain ⟨x, wx, dx, dw, p, mv, nv, sv, g, kv, us, S, rfl, hx, hw, hp, hH, hm, hs, hg, k⟩ := h
    refine ⟨_, (pss_cons (ps_if (pt_cmpR o_is (pe_fl K (pv 1)) pe_non (nomark _)) (pss_one (ps_ret pe_bl))
  pss_nil)
  (pss_cons (ps_if (pt_cmpR o_is (pe_ix (ix_u K) (pe_fl K (pv 0)) (pe_fl K (pv 1)) (fun _ _ => rfl)) pe_non (nomark _)) (pss_one (ps_ret pe_bl))
  pss_nil)
  (pss_cons (ps_asg (pe_ix (ix_u K) (pe_fl K (pv 0)) (pe_fl K (pv 1)) (fun _ _ => rfl)) (pg_t (n := 2) K rfl (pgs_cons (pg_name (i := 2) sc_Far_is_shown.nd rfl (Or.inl rfl)) (pgs_cons (pg_name (i := 3) sc_Far_is_shown.nd rfl (Or.inl rfl)) pgs_nil))))
  (pss_one (ps_ret (pe_and (pe_not (pv 3)) (pe_one (pe_cmpR (o_eq K hr.units) (pe_callD D_by_modulus (hr.mono (by decide)) pass0 rfl (pa_cons (pv 2) (pa_cons (pe_fl K (pv 0)) pa_nil))) (pe_callD D_by_modulus (hr.mono (by decide)) pass0 rfl (pa_cons (pe_fl K (pv 1)) (pa_cons (pe_fl K (pv 0)) pa_nil))) (nomark _))))))))), ?_⟩
    tm_at "go"
    refine r_get hw T.clW T.nS (wordF_slot ..) ?_
    tm_at "go"
    rcases hs with rfl | ⟨j, rfl, hj⟩
    · refine r_Td rfl ?_
      tm_at "go"
      exact k
    · refine r_Fd (fun z => nomatch z) ?_
      obtain ⟨g, rfl⟩ := hg (fun z => nomatch z)
      obtain ⟨v, sp, hv, hS, hvs⟩ := hH.at hj
      have hat : atI us (j : Int) = some v := atI_nat hv
      tm_at "go"
      refine r_get hx T.clF T.nH rfl ?_
      tm_at "go"
      refine r_get hw T.clW T.nS (wordF_slot ..) ?_
      tm_at "go"
      refine r_ixT (SqT.of hp) hat ?_
      tm_at "go"
      have kS := shownS_at (mv := mv) (g := g) hS
      cases sp with
      | none =>
        obtain rfl : v = .non := hvs
        refine r_Td rfl ?_
        tm_at "go"
        rw [kS] at k
        exact k
      | some nb =>
        obtain ⟨n, b⟩ := nb
        obtain ⟨q, rfl, hq⟩ := hvs
        refine r_Fd (fun z => nomatch z) ?_
        tm_at "go"
        refine r_get hx T.clF T.nH rfl ?_
        tm_at "go"
        refine r_get hw T.clW T.nS (wordF_slot ..) ?_
        tm_at "go"
        refine r_ixT (SqT.of hp) hat ?_
        refine r_gT (SqT.of hq) rfl ?_
        tm_at "go"
        have k' : Q (.bl (!b && decide (modI mv n = modI mv g))) H := by rw [kS] at k; exact k
        refine r_ite (fun hb => ?_) (fun hb => ?_)
        · have hb' : b = false := by simpa using hb
          subst hb'
          tm_at "go"
          refine r_get hx T.clF T.nM rfl ?_
          tm_at "go"
          refine ⟨_, mv, rfl, hm, ?_⟩
          tm_at "go"
          refine r_get hw T.clW T.nG (wordF_ground ..) ?_
          tm_at "go"
          refine r_get hx T.clF T.nM rfl ?_
          tm_at "go"
          refine ⟨_, mv, rfl, hm, ?_⟩
          refine r_eq rfl ?_
          rw [show decide (V.int (modI mv n) = V.int (modI mv g)) = decide (modI mv n = modI mv g) from by simp]
          exact k'
        · have hb' : b = true := by simpa using hb
          subst hb'
          exact k'
end
theorem farF_m (mv : V) (p : Addr) : putF "had" (.ref p) (putF "modulus" mv []) = farF mv p := by
  show (if ("modulus" : Str) = "had" then _ else _) = _
  rw [if_neg (by decide +kernel)]; rfl
theorem farF_h (mv : V) (p q : Addr) : putF "had" (.ref q) (farF mv p) = farF mv q := by
  unfold farF putF
  rw [if_neg (by decide +kernel)]
  unfold putF
  rw [if_pos rfl]
def spFarI (aFar : Addr) : Sp := fun vs H Q _ => ∃ (x dx : Addr) (n : Int) (mv : V), vs = [.ref x, .int n, mv] ∧ H x = some (.ins aFar dx []) ∧ 1 ≤ n ∧ n ≤ 100 ∧
  ∀ (p : Addr) (H' : Hp), Kx x H H' → H' x = some (.ins aFar dx (farF mv p)) → H' p = some (.tup (List.replicate n.toNat .non)) → Q .non H'
def spHeld (aFar : Addr) : Sp := fun vs H Q _ => ∃ (x dx p : Addr) (mv : V), vs = [.ref x] ∧ H x = some (.ins aFar dx (farF mv p)) ∧ Q (.ref p) H
def setS (S : List Pic) (k : V) (x : Pic) : List Pic := match k with | .int j => S.set j.toNat x | _ => S
def spFarTake (aFar aWord aMis : Addr) : Sp := fun vs H Q E => ∃ (x wx dx dw p : Addr) (mv : V) (n : Int) (s g k : V) (us : List V) (S : List Pic), vs = [.ref x, .ref wx] ∧ H x = some (.ins aFar dx (farF mv p)) ∧
  H wx = some (.ins aWord dw (wordF (.int n) s g k)) ∧ H p = some (.tup us) ∧ us.length ≤ 100 ∧ Held H us S ∧ OkM mv ∧ slotOk 3 s ∧ slotOk 3 k ∧ (s ≠ .non → ∃ j : Int, g = .int j) ∧
  (slotOk us.length s → slotOk us.length k → ∀ (p' : Addr) (us' : List V) (H' : Hp), Kx x H H' → H' x = some (.ins aFar dx (farF mv p')) → H' p' = some (.tup us') → us'.length = us.length →
    Held H' us' (setS S k (some (n, !shownS S mv s g))) → Q (.bl (shownS S mv s g)) H') ∧
  (¬ (slotOk us.length s ∧ slotOk us.length k) → ∀ H', Same H H' → E (.ref aMis) none H')
section
variable {K : PySem.W.Frag}
theorem ok_Mismatch (F : ErrAt K mg "Mismatch" "Mismatch.__init__" s_Mismatch__init aMis) (T : Txt K mg aGround aWord aInvWord aMis aFar) : ErrOk P w K mg base 1 "Mismatch" aMis ["self"] (spInitN K aMis) := by
  refine F.ok sc_Mismatch__init (fun _ _ _ _ _ _ us hl => match us, hl with | [_], _ => rfl) (fun vs H Q E h => ?_) (fun f cdv A outer s H vs Q E hr h => ?_)
  · obtain ⟨a, rfl, _⟩ := h
    rfl
  · obtain ⟨a, rfl, oc, ha, k⟩ := h
    refine ⟨_, (pss_one (ps_expr (pe_ginit rfl T.m_GroundError T.b_GroundError (pa_cons (pv 0) (pa_cons pe_str pa_nil))))), ?_⟩
    tm_at "go"
    exact ⟨a, aMis, _, rfl, Nat.le_of_ble_eq_true rfl, oc, ha, k⟩
theorem ok_FarI {aFarI : Addr} {fdI : FuncData} (F : FunD K "__init__" "Far.__init__" (defArgs s_Far__init) (defBody s_Far__init) (defScope s_Far__init) [.non] [] aFarI fdI) (T : Txt K mg aGround aWord aInvWord aMis aFar) :
    FnOk P w K mg base CX0 1 aFarI fdI ["self", "slots", "modulus"] (spFarI aFar) := by
  refine F.ok sc_Far__init (fun vs H Q E h => ?_) (fun cdv A outer s H vs Q E hr h => ?_)
  · obtain ⟨x, dx, n, mv, rfl, _⟩ := h
    rfl
  · obtain ⟨x, dx, n, mv, rfl, hx, n1, n2, k⟩ := h
    refine ⟨_, (pss_cons (ps_fl K (pv 0) (pv 2))
  (pss_one (ps_fl K (pv 0) (pe_op (o_mulT K) (pe_tup (pa_cons pe_non pa_nil)) (pv 1))))), ?_⟩
    tm_at "go"
    refine r_put hx T.clF T.nM (by decide) ?_
    tm_at "go"
    refine ⟨szl rfl, fun p hp => ?_⟩
    tm_at "go"
    have hxp : x ≠ p := by tm_at "ne"
    obtain ⟨hp0, _⟩ := free_upd hp
    refine r_mulT1 upd_same n1 (by omega) fun p2 H' s2 hp2 => ?_
    tm_at "go"
    have hx2 : H' x = some (.ins aFar dx (putF "modulus" mv [])) := by tm_at "hs"
    refine r_put (fs := putF "modulus" mv []) hx2 T.clF T.nH (Nat.lt_of_le_of_lt (putF_len ..) (by decide)) ?_
    tm_at "go"
    have hxp2 : p2 ≠ x := ne_kind hp2 hx2 (fun z => nomatch z)
    refine k p2 _ ?_ ?_ (at_upd hxp2 hp2)
    · exact ((Kx.refl.set.new hp0).same s2).set
    · rw [upd_same, farF_m]
theorem ok_held (F : PrpAt K aFar "held" "Far.held" s_Far_held) (T : Txt K mg aGround aWord aInvWord aMis aFar) : PrpOk P w K mg base CX0 1 aFar "held" (spHeld aFar) := by
  refine F.ok sc_Far_held (fun _ _ _ _ _ _ us hl => match us, hl with | [_], _ => rfl) (fun vs H Q E h => ?_) (fun f cdv A outer s H vs Q E hr h => ?_)
  · obtain ⟨x, dx, p, mv, rfl, _⟩ := h
    rfl
  · obtain ⟨x, dx, p, mv, rfl, hx, k⟩ := h
    refine ⟨_, (pss_one (ps_ret (pe_fl K (pv 0)))), ?_⟩
    tm_at "go"
    refine r_get hx T.clF T.nH rfl ?_
    exact k
theorem ok_far_take (F : MetAt K aFar "take" "Far.take" s_Far_take) (T : Txt K mg aGround aWord aInvWord aMis aFar) (M_Far_is_shown : MetOk P w K mg base CX0 2 aFar "is_shown" ["self", "word"] (spShown aFar aWord))
    (D_exchanged : DefOk P w K mg base CX0 1 "exchanged" ["things", "at", "thing"] spExch) (R_Mismatch : ErrOk P w K mg base 1 "Mismatch" aMis ["self"] (spInitN K aMis)) :
    MetOk P w K mg base (L2.CX P w) 4 aFar "take" ["self", "word"] (spFarTake aFar aWord aMis) := by
  refine F.okX sc_Far_take (fun _ _ _ _ _ _ us hl => match us, hl with | [_, _], _ => rfl) (fun vs H Q E h => ?_) (fun f cdv A outer s H vs Q E hr h => ?_)
  · obtain ⟨x, wx, dx, dw, p, mv, n, s, g, k, us, S, rfl, _⟩ := h
    rfl
  · obtain ⟨x, wx, dx, dw, p, mv, n, sv, g, kv, us, S, rfl, hx, hw, hp, hz, hH, hm, h3s, h3k, hg, kY, kN⟩ := h
    refine ⟨_, (pss_cons (ps_for (passes_of rfl) rfl (pi_t K (pe_tup (pa_cons (pe_fl K (pv 1)) (pa_cons (pe_fl K (pv 1)) pa_nil)))) (pg_name (i := 2) sc_Far_take.nd rfl (Or.inl rfl))
  (pss_one (ps_if (PW.pt (pw_and (pt_cmpR o_isNot (pv 2) pe_non (nomark _)) (pw_and1 (pt_cmpR o_ge (pv 2) (pe_callB (c_len K) (by rfl) T.n_len (by decide +kernel) (pa_cons (pe_fl K (pv 0)) pa_nil)) (nomark _))))) (pss_one (ps_raise rfl (takes_of rfl rfl rfl rfl) (pmkN R_Mismatch (hr.mono (by decide)) rfl)))
  pss_nil)))
  (pss_cons (ps_set (i := 3) sc_Far_take.nd rfl (Or.inl rfl) (pe_metD M_Far_is_shown (hr.mono (by decide)) pass0 (pv 0) (pa_cons (pv 1) pa_nil)))
  (pss_cons (ps_fl K (pv 0) (pe_callD D_exchanged (hr.mono (by decide)) pass0 rfl (pa_cons (pe_fl K (pv 0)) (pa_cons (pe_fl K (pv 1)) (pa_cons (pe_tup (pa_cons (pe_fl K (pv 1)) (pa_cons (pe_not (pv 3)) pa_nil))) pa_nil)))))
  (pss_one (ps_ret (pv 3)))))), ?_⟩
    tm_at "go"
    refine r_get hw T.clW T.nS (wordF_slot ..) ?_
    tm_at "go"
    refine r_get hw T.clW T.nK (wordF_keep ..) ?_
    tm_at "go"
    refine ⟨szl rfl, fun pt hpt => ?_⟩
    tm_at "go"
    refine ⟨pt, rfl, ⟨_, SqT.of upd_same⟩, ?_⟩
    refine for_tup (K := K) (a := pt) (xs := [sv, kv]) (fun i σ H' => (∃ o1 o2 : Option V, σ = [some (.ref x), some (.ref wx), o1, o2]) ∧ H' = upd H pt (.tup [sv, kv]) ∧ (1 ≤ i → slotOk us.length sv) ∧ (2 ≤ i → slotOk us.length kv))
      ⟨⟨_, _, rfl⟩, rfl, fun z => by omega, fun z => by omega⟩ (fun i σ H' _ p => by rw [p.2.1]; exact SqT.of upd_same) ?_ ?_
    · rintro i v σ H' hi ⟨⟨o1, o2, rfl⟩, rfl, c1, c2⟩
      have one : ∀ v, slotOk 3 v → (slotOk us.length v → (i + 1 = 1 → slotOk us.length sv) ∧ (i + 1 = 2 → slotOk us.length kv)) → True := fun _ _ _ => trivial
      have hv : slotOk 3 v := by
        rcases i with _ | _ | i
        · cases hi; exact h3s
        · cases hi; exact h3k
        · cases hi
      have step : slotOk us.length v → (1 ≤ i + 1 → slotOk us.length sv) ∧ (2 ≤ i + 1 → slotOk us.length kv) := fun q => by
        rcases i with _ | _ | i
        · cases hi; exact ⟨fun _ => q, fun z => by omega⟩
        · cases hi; exact ⟨fun _ => c1 (by omega), fun _ => q⟩
        · cases hi
      have bad : ¬ slotOk us.length v → ¬ (slotOk us.length sv ∧ slotOk us.length kv) := fun q z => by
        rcases i with _ | _ | i
        · cases hi; exact q z.1
        · cases hi; exact q z.2
        · cases hi
      tm_at "go"
      rcases hv with rfl | ⟨j, rfl, hj⟩
      · rw [show (!decide (V.non = V.non)) = false from rfl]
        tm_at "go"
        exact ⟨⟨_, _, rfl⟩, rfl, step (.inl rfl)⟩
      · rw [show (!decide (V.int (j : Int) = V.non)) = true from by rw [decide_eq_false (fun z => nomatch z)] <;> rfl]
        tm_at "go"
        refine r_get (by tm_at "hs") T.clF T.nH rfl ?_
        tm_at "go"
        refine r_id (fun hc => ?_) (fun hc => ?_)
        · refine r_mkN R_Mismatch.2.1 ?_
          refine kN (bad fun z => ?_) _ (same_new hpt)
          rcases z with z | ⟨j', e, z⟩
          · exact nomatch z
          · have := V.int.inj e
            omega
        · tm_at "go"
          exact ⟨⟨_, _, rfl⟩, rfl, step (.inr ⟨j, rfl, by omega⟩)⟩
    · rintro σ H' ⟨⟨o1, o2, rfl⟩, rfl, c1, c2⟩
      have hs1 := c1 (Nat.le_of_ble_eq_true rfl)
      have hk1 := c2 (Nat.le_of_ble_eq_true rfl)
      have kY := kY hs1 hk1
      tm_at "go"
      refine r_obj (a := x) (fs := farF mv p) (by tm_at "hs") rfl ?_
      tm_at "go"
      refine ⟨x, wx, dx, dw, p, mv, .int n, sv, g, kv, us, S, rfl, by tm_at "hs", by tm_at "hs", by tm_at "hs", hH.mono (by tm_at "tk"), hm, hs1, hg, ?_⟩
      tm_at "go"
      refine r_get (by tm_at "hs") T.clF T.nH rfl ?_
      tm_at "go"
      refine r_get (by tm_at "hs") T.clW T.nK (wordF_keep ..) ?_
      tm_at "go"
      refine r_get (by tm_at "hs") T.clW T.nN (wordF_number ..) ?_
      tm_at "go"
      refine ⟨szl rfl, fun pn hpn => ?_⟩
      tm_at "go"
      refine ⟨p, kv, .ref pn, us, rfl, by tm_at "hs", hz, ?_⟩
      have fin : ∀ (p' : Addr) (us' : List V) (H' : Hp), Same H H' → H' p' = some (.tup us') → us'.length = us.length → Held H' us' (setS S kv (some (n, !shownS S mv sv g))) →
          Q (.bl (shownS S mv sv g)) (upd H' x (.ins aFar dx (putF "had" (.ref p') (farF mv p)))) := fun p' us' H' sm e1 e2 e3 => by
        have hx' := sm _ _ hx
        rw [farF_h]
        exact kY p' us' _ (Kx.set (Kx.same Kx.refl sm)) upd_same (at_upd (ne_kind e1 hx' fun z => nomatch z) e1) e2 (e3.mono (Tk.setI Tk.refl hx'))
      rcases hk1 with rfl | ⟨j, rfl, hj⟩
      · refine .inl ⟨rfl, ?_⟩
        tm_at "go"
        refine r_put (fs := farF mv p) (by tm_at "hs") T.clF T.nH (Nat.le_of_ble_eq_true rfl) ?_
        tm_at "go"
        exact fin p us _ (by tm_at "sm") (by tm_at "hs") rfl (hH.mono (by tm_at "tk"))
      · refine .inr ⟨j, rfl, hj, fun p' H' s' hp' => ?_⟩
        tm_at "go"
        refine r_put (fs := farF mv p) (by tm_at "hs") T.clF T.nH (Nat.le_of_ble_eq_true rfl) ?_
        tm_at "go"
        refine fin p' _ _ (by tm_at "sm") hp' (by rw [List.length_set]) ?_
        show Held H' (us.set j (.ref pn)) (S.set (j : Int).toNat _)
        rw [Int.toNat_natCast]
        have hn : HV H' (.ref pn) (some (n, !shownS S mv sv g)) := ⟨pn, rfl, by tm_at "hs"⟩
        exact Held.set (hH.mono (by tm_at "tk")) hn
end
theorem emod_sub {a b m : Int} : decide (a % m = b % m) = decide ((a - b) % m = 0) := by
  by_cases h : a % m = b % m
  · rw [decide_eq_true h, decide_eq_true (Int.emod_eq_emod_iff_emod_sub_eq_zero.mp h)]
  · rw [decide_eq_false h, decide_eq_false (fun z => h (Int.emod_eq_emod_iff_emod_sub_eq_zero.mpr z))]
theorem dec_int (a b : Int) : decide (V.int a = V.int b) = decide (a = b) := by simp
def spLShown : Sp := fun vs H Q _ => ∃ (l : Addr) (s g mv : V) (xs : List V) (S : List Pic), vs = [.ref l, s, g, mv] ∧ H l = some (.lst xs) ∧ Held H xs S ∧ OkM mv ∧ slotOk xs.length s ∧ (s ≠ .non → ∃ j : Int, g = .int j) ∧
  Q (.bl (shownS S mv s g)) H
def spHeard (aFar aWord : Addr) : Sp := fun vs H Q _ => ∃ (x wx dx dw p : Addr) (mv : V) (n : Int) (s g k : V) (us : List V) (S : List Pic), vs = [.ref x, .ref wx] ∧ H x = some (.ins aFar dx (farF mv p)) ∧
  H wx = some (.ins aWord dw (wordF (.int n) s g k)) ∧ H p = some (.tup us) ∧ us.length ≤ 100 ∧ Held H us S ∧ OkM mv ∧ slotOk 3 s ∧ slotOk 3 k ∧ (s ≠ .non → ∃ j : Int, g = .int j) ∧
  (slotOk us.length s → slotOk us.length k → ∀ (p' : Addr) (us' : List V) (H' : Hp), Kx x H H' → H' x = some (.ins aFar dx (farF mv p')) → H' p' = some (.tup us') → us'.length = us.length →
    Held H' us' (setS S k (some (n, !shownS S mv s g))) → Q (.bl (shownS S mv s g)) H') ∧
  (¬ (slotOk us.length s ∧ slotOk us.length k) → ∀ H', Same H H' → Q (.str "mismatch") H')
section
variable {K : PySem.W.Frag}
theorem ok_lshown (F : DefAt K mg "_law_is_shown" s_law_is_shown) (T : Txt K mg aGround aWord aInvWord aMis aFar) : DefOk P w K mg base CX0 1 "_law_is_shown" ["_law_held", "_law_slot", "_law_ground", "_law_modulus"] spLShown := by
  refine F.ok sc_law_is_shown (fun _ _ _ _ _ _ us hl => match us, hl with | [_, _, _, _], _ => rfl) (fun vs H Q E h => ?_) (fun f cdv A outer s H vs Q E hr h => ?_)
  · obtain ⟨l, s, g, mv, xs, S, rfl, _⟩ := h
    rfl
  · obtain ⟨l, sv, g, mv, xs, S, rfl, hl, hH, hm, hs, hg, k⟩ := h
    refine ⟨_, (pss_cons (ps_if (pt_cmpR o_is (pv 1) pe_non (nomark _)) (pss_one (ps_ret pe_bl))
  pss_nil)
  (pss_cons (ps_if (PW.pt (pw_or (pt_cmpR o_is (pe_ix (ix_u K) (pv 0) (pv 1) (fun _ _ => rfl)) pe_non (nomark _)) (pw_or1 (pt_tr K (pe_ix (ix_u K) (pe_ix (ix_u K) (pv 0) (pv 1) (fun _ _ => rfl)) pe_int (fun _ _ => rfl)))))) (pss_one (ps_ret pe_bl))
  pss_nil)
  (pss_cons (ps_if (pt_cmpR o_is (pv 3) pe_non (nomark _)) (pss_one (ps_ret (pe_cmpR (o_eq K hr.units) (pe_ix (ix_u K) (pe_ix (ix_u K) (pv 0) (pv 1) (fun _ _ => rfl)) pe_int (fun _ _ => rfl)) (pv 2) (nomark _))))
  pss_nil)
  (pss_one (ps_ret (pe_cmpR (o_eq K hr.units) (pe_op o_mod (pe_callTy c_int (by rfl) T.n_int (by decide +kernel) (pa_cons (pe_op o_sub (pe_ix (ix_u K) (pe_ix (ix_u K) (pv 0) (pv 1) (fun _ _ => rfl)) pe_int (fun _ _ => rfl)) (pv 2)) pa_nil)) (pv 3)) pe_int (nomark _))))))), ?_⟩
    tm_at "go"
    rcases hs with rfl | ⟨j, rfl, hj⟩
    · refine r_Td rfl ?_
      tm_at "go"
      exact k
    · refine r_Fd (fun z => nomatch z) ?_
      obtain ⟨g, rfl⟩ := hg (fun z => nomatch z)
      obtain ⟨v, sp, hv, hS, hvs⟩ := hH.at hj
      have hat : atI xs (j : Int) = some v := atI_nat hv
      rw [shownS_at hS] at k
      tm_at "go"
      refine r_ixL (SqL.of hl) hat ?_
      tm_at "go"
      cases sp with
      | none =>
        obtain rfl : v = .non := hvs
        refine r_Td rfl ?_
        tm_at "go"
        exact k
      | some nb =>
        obtain ⟨n, b⟩ := nb
        obtain ⟨q, rfl, hq⟩ := hvs
        have k' : Q (.bl (!b && decide (modI mv n = modI mv g))) H := k
        refine r_Fd (fun z => nomatch z) ?_
        tm_at "go"
        refine r_ixL (SqL.of hl) hat ?_
        tm_at "go"
        cases b with
        | true =>
          tm_at "go"
          exact k'
        | false =>
          tm_at "go"
          rcases hm with rfl | ⟨m, rfl, hm⟩
          · refine r_Td rfl ?_
            tm_at "go"
            refine r_ixL (SqL.of hl) hat ?_
            tm_at "go"
            refine r_eq rfl ?_
            tm_at "go"
            rw [dec_int]
            exact k'
          · refine r_Fd (fun z => nomatch z) ?_
            tm_at "go"
            refine r_ixL (SqL.of hl) hat ?_
            tm_at "go"
            refine r_mod (by omega) ?_
            tm_at "go"
            refine r_eq rfl ?_
            tm_at "go"
            rw [dec_int, ← emod_sub]
            exact k'
theorem ok_heard (F : DefAt K mg "_law_heard" s_law_heard) (T : Txt K mg aGround aWord aInvWord aMis aFar) (M_Far_take : MetOk P w K mg base (L2.CX P w) 4 aFar "take" ["self", "word"] (spFarTake aFar aWord aMis)) :
    DefOk P w K mg base CX0 5 "_law_heard" ["_law_far", "_law_word"] (spHeard aFar aWord) := by
  refine F.ok sc_law_heard (fun _ _ _ _ _ _ us hl => match us, hl with | [_, _], _ => rfl) (fun vs H Q E h => ?_) (fun f cdv A outer s H vs Q E hr h => ?_)
  · obtain ⟨x, wx, dx, dw, p, mv, n, s, g, k, us, S, rfl, _⟩ := h
    rfl
  · obtain ⟨x, wx, dx, dw, p, mv, n, sv, g, kv, us, S, rfl, hx, hw, hp, hz, hH, hm, h3s, h3k, hg, kY, kN⟩ := h
    refine ⟨_, (pss_cons (ps_set (i := 2) sc_law_heard.nd rfl (Or.inl rfl) pe_str)
  (pss_cons (ps_try_as (i := 3) rfl rfl sc_law_heard.nd rfl rfl ⟨rfl, by decide, .inl T.m_Mismatch⟩ takes0
  (fun W pn xe tk po => (pss_one (ps_set (i := 2) sc_law_heard.nd rfl (Or.inl rfl) (pe_metDS M_Far_take (hr.mono (by decide)) (fun σ => passAt tk σ) (pv 0) (pa_cons (pv 1) pa_nil)))))
  (fun a oe cls d pn hz hf => (pss_one (ps_set (i := 2) sc_law_heard.nd rfl (Or.inl rfl) (pe_ifExp (PW.pt (pw_and (pt_tr K (pe_callB (c_isG K hz hf) (by rfl) T.n_isinstance (by decide +kernel) (pa_cons (pv 3) (pa_cons (pe_gR rfl T.m_GroundError) pa_nil)))) (pw_and1 (pt_not (pt_tr K (pe_callB (c_isG K hz hf) (by rfl) T.n_isinstance (by decide +kernel) (pa_cons (pv 3) (pa_cons (pe_gR rfl T.m_InvalidWord) pa_nil)))))))) pe_str pe_str)))))
  (pss_one (ps_ret (pv 2))))), ?_⟩
    tm_at "go"
    refine r_obj (a := x) (fs := farF mv p) hx rfl ?_
    tm_at "go"
    refine ⟨x, wx, dx, dw, p, mv, n, sv, g, kv, us, S, rfl, hx, hw, hp, hz, hH, hm, h3s, h3k, hg, fun s1 s2 p' us' H' h1 h2 h3 h4 h5 => ?_, fun hb H' s' => ?_⟩
    · tm_at "go"
      exact kY s1 s2 p' us' H' h1 h2 h3 h4 h5
    · refine ⟨true, T.exm, fun _ e he => ?_, fun q => Bool.noConfusion q⟩
      tm_at "go"
      refine r_isG T.xc T.isG ?_
      tm_at "go"
      refine r_isG T.xc T.isR ?_
      tm_at "go"
      exact kN hb _ s'
end
structure InvK (aFar : Addr) (H0 : Hp) (b x l : Addr) (mv : V) (n : Nat) (S : List Pic) (H : Hp) : Prop where
  sm : Same H0 H
  bx : BoxAt H b
  hl : ∃ xs, H l = some (.lst xs) ∧ Held H xs S ∧ xs.length = n
  hx : ∃ dx p us, H x = some (.ins aFar dx (farF mv p)) ∧ H p = some (.tup us) ∧ Held H us S ∧ us.length = n
  bd : ∀ (i : Nat) (n : Int) (b : Bool), S[i]? = some (some (n, b)) → 0 ≤ n ∧ n < 1000000
section
variable {aFar b x l : Addr} {H0 H H' : Hp} {mv : V} {n : Nat} {S : List Pic}
theorem InvK.same (I : InvK aFar H0 b x l mv n S H) (s : Same H H') : InvK aFar H0 b x l mv n S H' := by
  obtain ⟨xs, h1, h2, h3⟩ := I.hl
  obtain ⟨dx, p, us, g1, g2, g3, g4⟩ := I.hx
  exact ⟨I.sm.trans s, I.bx.same s, ⟨xs, s _ _ h1, h2.mono (Same.tk s), h3⟩, ⟨dx, p, us, s _ _ g1, s _ _ g2, g3.mono (Same.tk s), g4⟩, I.bd⟩
theorem InvK.new {p : Addr} {o : HO} (I : InvK aFar H0 b x l mv n S H) (h : H p = none) : InvK aFar H0 b x l mv n S (upd H p o) := I.same (same_new h)
theorem InvK.box (I : InvK aFar H0 b x l mv n S H) (h : Bx b H H') (n0 : H0 b = none) (n1 : l ≠ b) (n2 : x ≠ b) : InvK aFar H0 b x l mv n S H' := by
  obtain ⟨xs, h1, h2, h3⟩ := I.hl
  obtain ⟨dx, p, us, g1, g2, g3, g4⟩ := I.hx
  have t := h.tk I.bx
  exact ⟨Same.bx I.sm h n0, h.box, ⟨xs, h.keep _ _ n1 h1, h2.mono t, h3⟩, ⟨dx, p, us, h.keep _ _ n2 g1, t _ _ g2, g3.mono t, g4⟩, I.bd⟩
end
theorem slotOk_dec (n : Nat) (s : V) (h : slotOk 3 s) : ∃ c : Bool, (c = true ↔ slotOk n s) ∧ (s = .non → c = true) ∧ ∀ j : Nat, s = .int j → c = decide ((j : Int) < (n : Int)) := by
  rcases h with rfl | ⟨j, rfl, _⟩
  · exact ⟨true, ⟨fun _ => .inl rfl, fun _ => rfl⟩, fun _ => rfl, fun j e => nomatch e⟩
  · refine ⟨decide ((j : Int) < (n : Int)), ⟨fun h => .inr ⟨j, rfl, by simpa using h⟩, fun h => ?_⟩, (fun e => nomatch e), fun i e => by cases e; rfl⟩
    rcases h with h | ⟨i, e, h⟩
    · exact nomatch h
    · cases e
      simpa using h
theorem slotOk_dec' {n j : Nat} : decide ((j : Int) < (n : Int)) = true ↔ slotOk n (.int j) := by
  constructor
  · intro h
    exact .inr ⟨j, rfl, by simpa using h⟩
  · rintro (h | ⟨i, e, h⟩)
    · exact nomatch h
    · cases e
      simpa using h
theorem neSelf (v : V) : (!decide (v = v)) = false := by rw [decide_eq_true rfl]; rfl
theorem in237 {mv : V} (h : inV mv [.int 2, .int 3, .int 7] = true) : ∃ m : Int, mv = .int m ∧ 0 < m ∧ m < 8 := by
  cases mv with
  | int m =>
    refine ⟨m, rfl, ?_⟩
    have : m = 2 ∨ m = 3 ∨ m = 7 := by
      simp [inV, eqV] at h
      omega
    omega
  | bl b => cases b <;> simp [inV, eqV] at h
  | _ => simp [inV, eqV] at h
theorem slot3 {v : V} (h : v ∈ [V.non, V.int 0, V.int 1, V.int 2]) : slotOk 3 v := by
  simp only [List.mem_cons, List.not_mem_nil, or_false] at h
  rcases h with rfl | rfl | rfl | rfl
  · exact .inl rfl
  · exact .inr ⟨0, rfl, by decide⟩
  · exact .inr ⟨1, rfl, by decide⟩
  · exact .inr ⟨2, rfl, by decide⟩
theorem slot_kd {K : PySem.W.Frag} {H : Hp} {n : Nat} {v : V} (h : slotOk n v) : Kd K H v := by
  rcases h with rfl | ⟨j, rfl, _⟩
  · exact .non
  · exact .int _
theorem slot_from {v : V} (h : slotOk 3 v) : (decide (v = .non) || fromV v 0 2) = true := by
  rcases h with rfl | ⟨j, rfl, hj⟩
  · rfl
  · show (_ || (decide ((0 : Int) ≤ (j : Int)) && decide ((j : Int) ≤ 2))) = true
    rw [decide_eq_true (p := (0 : Int) ≤ (j : Int)) (by omega), decide_eq_true (p := (j : Int) ≤ 2) (by omega)]
    simp
theorem good_word {num : Int} {s g k : V} (h0 : 0 ≤ num) (hs : slotOk 3 s) (hk : slotOk 3 k) (g1 : s = .non → g = .non) (g2 : s ≠ .non → ∃ j : Int, g = .int j ∧ 0 ≤ j) : goodW (.int num) s g k = true := by
  unfold goodW
  rw [slot_from hk, Bool.and_true]
  have e : numV (.int num) = true := decide_eq_true h0
  rw [e, Bool.true_and]
  by_cases z : s = .non
  · rw [g1 z, z]
    rfl
  · obtain ⟨j, rfl, hj⟩ := g2 z
    have q := slot_from hs
    rw [decide_eq_false z, Bool.false_or] at q
    have e : numV (.int j) = true := decide_eq_true hj
    rw [q, e]
    simp
def picD : Pic → PyData
  | none => .none
  | some (n, b) => .tuple [.int n, .bool b]
theorem sh_held {K : PySem.W.Frag} {H : Hp} {us : List V} {S : List Pic} (h : Held H us S) : (∀ (i : Nat) (n : Int) (b : Bool), S[i]? = some (some (n, b)) → 0 ≤ n ∧ n < 1000000) → Paired (fun v d => Sh K H v d 1 100) us (S.map picD) := by
  induction h with
  | nil => intro _; exact .nil
  | @cons v s vs S h _ ih =>
    intro bd
    refine .cons ?_ (ih fun i n b e => bd (i + 1) n b e)
    cases s with
    | none =>
      obtain rfl : v = .non := h
      exact sh_non.up (by decide) (by decide)
    | some nb =>
      obtain ⟨n, c⟩ := nb
      obtain ⟨q, rfl, hq⟩ := h
      have z := bd 0 n c rfl
      exact (sh_tup (SqT.of hq) (.cons ((sh_int (by omega)).up (Nat.le_refl _) (Nat.le_refl _)) (.cons ((sh_bl c).up (Nat.le_refl _) (by decide : 10 ≤ 40)) .nil)) (m := 100) (Nat.le_of_ble_eq_true rfl)).up (by decide) (by decide)
theorem bd_rep (n : Nat) (i : Nat) (m : Int) (b : Bool) (h : (List.replicate n (none : Pic))[i]? = some (some (m, b))) : 0 ≤ m ∧ m < 1000000 := by
  rw [List.getElem?_replicate] at h
  split at h <;> simp at h
theorem bd_set {S : List Pic} {num : Int} {k : V} {c : Bool} (h0 : 0 ≤ num) (h1 : num < 1000000) (bd : ∀ (i : Nat) (n : Int) (b : Bool), S[i]? = some (some (n, b)) → 0 ≤ n ∧ n < 1000000) (i : Nat) (n : Int) (b : Bool)
    (h : (setS S k (some (num, c)))[i]? = some (some (n, b))) : 0 ≤ n ∧ n < 1000000 := by
  cases k with
  | int j =>
    have h' : (S.set j.toNat (some (num, c)))[i]? = some (some (n, b)) := h
    rw [List.getElem?_set] at h'
    split at h'
    · split at h'
      · cases h'
        exact ⟨h0, h1⟩
      · cases h'
    · exact bd i n b h'
  | _ => exact bd i n b h
def spLaw (K : PySem.W.Frag) : Sp := fun vs H Q _ => ∃ (a : Addr) (ns : List Int), vs = [.ref a] ∧ SqL K H a (ns.map V.int) ∧ ns.length ≤ 63 ∧ ∀ H', Q (.bl true) H'
section
theorem ok_law (F : DefAt K mg "law" s_law) (T : Txt K mg aGround aWord aInvWord aMis aFar) (D_law_box : DefOk P w K mg base CX0 1 "_law_box" ["_law_script", "_law_k", "_law_own"] (spBox K)) (D_law_take : DefOk P w K mg base CX0 1 "_law_take" ["_law_box_here", "_law_many"] spTake)
    (D_law_pick : DefOk P w K mg base CX0 2 "_law_pick" ["_law_box_here", "_law_items"] (spPick K)) (D_law_is_shown : DefOk P w K mg base CX0 1 "_law_is_shown" ["_law_held", "_law_slot", "_law_ground", "_law_modulus"] spLShown)
    (D_law_heard : DefOk P w K mg base CX0 5 "_law_heard" ["_law_far", "_law_word"] (spHeard aFar aWord)) (M_Word : MakeOk P w K mg base (L2.CX P w) 4 "Word" aWord ["self", "number", "slot", "ground", "keep"] [] (spWord K aWord aInvWord))
    (M_Far : MakeOk P w K mg base CX0 1 "Far" aFar ["self", "slots", "modulus"] [] (spFarI aFar)) (M_Far_1 : MakeOk P w K mg base CX0 1 "Far" aFar ["self", "slots", "modulus"] [.non] (spFarI aFar)) (P_Far_held : PrpOk P w K mg base CX0 1 aFar "held" (spHeld aFar)) :
    DefG P w K mg base CX0 7 "law" ["_law_script"] (spLaw K) := by
  refine F.okG sc_law (fun _ _ _ _ _ _ us hl => match us, hl with | [_], _ => rfl) (fun vs H Q E h => ?_) (fun f cdv A outer s H vs Q E hgd hr h => ?_)
  · obtain ⟨a, ns, rfl, _⟩ := h
    rfl
  · obtain ⟨a, ns, rfl, hS, nl, k⟩ := h
    refine ⟨_, (pss_cons (ps_for PassesOwn.never rfl (pi_range1 (by rfl) T.n_range (pa_cons (pe_callB (c_max2 rfl) (by rfl) T.n_max (by decide +kernel) (pa_cons pe_int (pa_cons (pe_callB (c_min2 rfl) (by rfl) T.n_min (by decide +kernel) (pa_cons pe_int (pa_cons (pe_callB (c_len K) (by rfl) T.n_len (by decide +kernel) (pa_cons (pv 0) pa_nil)) pa_nil))) pa_nil))) pa_nil)) (pg_name (i := 1) sc_law.nd rfl (Or.inl rfl))
  (pss_cons (ps_set (i := 2) sc_law.nd rfl (Or.inl rfl) (pe_callD D_law_box (hr.mono (by decide)) pass0 rfl (pa_cons (pv 0) (pa_cons (pv 1) (pa_cons pe_int pa_nil)))))
  (pss_cons (ps_par (i := 4) (j := 5) (by rfl) sc_law.nd rfl rfl (by decide) rfl rfl (pa_cons (pe_op (o_add K) pe_int (pe_callD D_law_take (hr.mono (by decide)) pass0 rfl (pa_cons (pv 2) (pa_cons pe_int pa_nil)))) (pa_cons (pe_callD D_law_pick (hr.mono (by decide)) pass0 rfl (pa_cons (pv 2) (pa_cons (pe_lst (pa_cons pe_non (pa_cons pe_non (pa_cons pe_int (pa_cons pe_int (pa_cons pe_int (pa_cons pe_int (pa_cons (pe_op o_pow pe_int pe_int) pa_nil)))))))) pa_nil))) pa_nil)) (by rfl))
  (pss_cons (ps_par3 (i := 6) (j := 7) (l := 8) (by rfl) sc_law.nd rfl rfl rfl (by decide) (by decide) (by decide) rfl rfl rfl (pa_cons (pe_makeD M_Far (hr.mono (by decide)) pass0 rfl (pa_cons (pv 4) (pa_cons (pv 5) pa_nil))) (pa_cons (pe_op o_mul (pe_lst (pa_cons pe_non pa_nil)) (pv 4)) (pa_cons (pe_callD D_law_pick (hr.mono (by decide)) pass0 rfl (pa_cons (pv 2) (pa_cons (pe_lst (pa_cons pe_int (pa_cons pe_int (pa_cons (pe_op o_pow pe_int pe_int) pa_nil)))) pa_nil))) pa_nil))) (by rfl))
  (pss_one (ps_for PassesOwn.never rfl (pi_range1 (by rfl) T.n_range (pa_cons (pe_callD D_law_take (hr.mono (by decide)) pass0 rfl (pa_cons (pv 2) (pa_cons pe_int pa_nil))) pa_nil)) (pg_name (i := 3) sc_law.nd rfl (Or.inl rfl))
  (pss_cons (ps_par3 (i := 12) (j := 13) (l := 14) (by rfl) sc_law.nd rfl rfl rfl (by decide) (by decide) (by decide) rfl rfl rfl (pa_cons (pe_callD D_law_take (hr.mono (by decide)) pass0 rfl (pa_cons (pv 2) (pa_cons (pv 8) pa_nil))) (pa_cons (pe_callD D_law_pick (hr.mono (by decide)) pass0 rfl (pa_cons (pv 2) (pa_cons (pe_lst (pa_cons pe_non (pa_cons pe_int (pa_cons pe_int (pa_cons pe_int pa_nil))))) pa_nil))) (pa_cons (pe_callD D_law_pick (hr.mono (by decide)) pass0 rfl (pa_cons (pv 2) (pa_cons (pe_lst (pa_cons pe_non (pa_cons pe_int (pa_cons pe_int (pa_cons pe_int pa_nil))))) pa_nil))) pa_nil))) (by rfl))
  (pss_cut (ps_set (i := 9) sc_law.nd rfl (Or.inl rfl) (pe_ifExp (pt_cmpR o_is (pv 13) pe_non (nomark _)) pe_non (pe_callD D_law_take (hr.mono (by decide)) pass0 rfl (pa_cons (pv 2) (pa_cons (pv 8) pa_nil)))))
  (pss_cut (ps_if (PW.pt (pw_and (pt_cmpR o_isNot (pv 13) pe_non (nomark _)) (pw_and (pt_cmpR o_lt (pv 13) (pv 4) (nomark _)) (pw_and (pt_cmpR o_isNot (pe_ix (ix_u K) (pv 7) (pv 13) (fun _ _ => rfl)) pe_non (nomark _)) (pw_and1 (pt_cmpR o_gt (pe_callD D_law_take (hr.mono (by decide)) pass0 rfl (pa_cons (pv 2) (pa_cons pe_int pa_nil))) pe_int (nomark _))))))) (pss_one (ps_set (i := 9) sc_law.nd rfl (Or.inl rfl) (pe_ix (ix_u K) (pe_ix (ix_u K) (pv 7) (pv 13) (fun _ _ => rfl)) pe_int (fun _ _ => rfl))))
  pss_nil)
  (pss_cut (ps_if (PW.pt (pw_and (pt_cmpR o_isNot (pv 9) pe_non (nomark _)) (pw_and (pt_cmpR (o_in K) (pv 5) (pe_tup (pa_cons pe_int (pa_cons pe_int (pa_cons pe_int pa_nil)))) rfl) (pw_and1 (pt_cmpR (o_eq K hr.units) (pe_callD D_law_take (hr.mono (by decide)) pass0 rfl (pa_cons (pv 2) (pa_cons pe_int pa_nil))) pe_int (nomark _)))))) (pss_one (ps_set (i := 9) sc_law.nd rfl (Or.inl rfl) (pe_op (o_add K) (pv 9) (pe_op o_mul (pv 5) (pe_callD D_law_take (hr.mono (by decide)) pass0 rfl (pa_cons (pv 2) (pa_cons pe_int pa_nil)))))))
  pss_nil)
  (pss_cut (ps_set (i := 10) sc_law.nd rfl (Or.inl rfl) (pe_and (pe_or (pe_cmpR o_is (pv 13) pe_non (nomark _)) (pe_one (pe_cmpR o_lt (pv 13) (pv 4) (nomark _)))) (pe_one (pe_or (pe_cmpR o_is (pv 14) pe_non (nomark _)) (pe_one (pe_cmpR o_lt (pv 14) (pv 4) (nomark _)))))))
  (pss_cut (ps_set (i := 11) sc_law.nd rfl (Or.inl rfl) (pe_ifExp (pt_tr K (pv 10)) (pe_callD D_law_is_shown (hr.mono (by decide)) pass0 rfl (pa_cons (pv 7) (pa_cons (pv 13) (pa_cons (pv 9) (pa_cons (pv 5) pa_nil))))) pe_str))
  (pss_cut (ps_if (pt_cmpR (o_ne K hr.units) (pe_callB (c_repr K hgd hr.units) (by rfl) T.n_repr (by decide +kernel) (pa_cons (pe_callD D_law_heard (hr.mono (by decide)) pass0 rfl (pa_cons (pv 6) (pa_cons (pe_makeD M_Word (hr.mono (by decide)) passF rfl (pa_cons (pv 12) (pa_cons (pv 13) (pa_cons (pv 9) (pa_cons (pv 14) pa_nil))))) pa_nil))) pa_nil)) (pe_callB (c_repr K hgd hr.units) (by rfl) T.n_repr (by decide +kernel) (pa_cons (pv 11) pa_nil)) (nomark _)) (pss_one (ps_ret pe_bl))
  pss_nil)
  (pss_cut (ps_if (PW.pt (pw_and (pt_tr K (pv 10)) (pw_and1 (pt_cmpR o_isNot (pv 14) pe_non (nomark _))))) (pss_one (ps_asg (pe_tup (pa_cons (pv 12) (pa_cons (pe_not (pv 11)) pa_nil))) (pg_sub (pv 7) (pv 14) set_list)))
  pss_nil)
  (pss_one (ps_if (pt_cmpR (o_ne K hr.units) (pe_callB (c_repr K hgd hr.units) (by rfl) T.n_repr (by decide +kernel) (pa_cons (pe_prpD P_Far_held (hr.mono (by decide)) pass0 (pv 6)) pa_nil)) (pe_callB (c_repr K hgd hr.units) (by rfl) T.n_repr (by decide +kernel) (pa_cons (pe_callTy (c_tuple K) (by rfl) T.n_tuple (by decide +kernel) (pa_cons (pv 7) pa_nil)) pa_nil)) (nomark _)) (pss_one (ps_ret pe_bl))
  pss_nil))))))))))))))))
  (pss_one (ps_ret (pe_cmpR (o_eq K hr.units) (pe_prpD P_Far_held (hr.mono (by decide)) pass0 (pe_makeD M_Far_1 (hr.mono (by decide)) pass0 rfl (pa_cons pe_int pa_nil))) (pe_tup (pa_cons pe_non (pa_cons pe_non pa_nil))) (nomark _))))), ?_⟩
    have lenE : (List.map V.int ns).length = ns.length := List.length_map ..
    tm_at "go"
    refine ⟨_, rfl, by split <;> split <;> omega, by split <;> split <;> omega, for_range (lo := 0) (n := _)
      (fun i σ H' => (∃ o1 o2 o3 o4 o5 o6 o7 o8 o9 o10 o11 o12 o13 o14 : Option V, σ = [some (.ref a), o1, o2, o3, o4, o5, o6, o7, o8, o9, o10, o11, o12, o13, o14]) ∧ SqL K H' a (ns.map V.int))
      ⟨⟨_, _, _, _, _, _, _, _, _, _, _, _, _, _, rfl⟩, hS⟩ ?_ ?_⟩
    · rintro i σ H0 hi ⟨⟨o1, o2, o3, o4, o5, o6, o7, o8, o9, o10, o11, o12, o13, o14, rfl⟩, hS0⟩
      have hi4 : i < 64 := by
        have : (if (if (↑(List.map V.int ns).length : Int) < 4 then (↑(List.map V.int ns).length : Int) else 4) > 1 then
              if (↑(List.map V.int ns).length : Int) < 4 then (↑(List.map V.int ns).length : Int) else 4 else 1) ≤ 4 := by split <;> split <;> omega
        omega
      clear hS k
      tm_at "go"
      refine ⟨a, ns, _, 76, rfl, hS0, by omega, by omega, by decide, by decide, by omega, fun b H1 hb0 hx1 => ?_⟩
      tm_at "go"
      refine r_take hx1.box (by decide) (by decide) fun d H2 d0 d3 hx2 => ?_
      tm_at "go"
      refine ⟨szl rfl, fun pm hpm => ?_⟩
      tm_at "go"
      refine r_pickN hx2.box hpm (Nat.le_of_ble_eq_true rfl) (Nat.le_of_ble_eq_true rfl) fun mv H3 hmv hx3 => ?_
      have hm : OkM mv := by
        simp only [List.mem_cons, List.not_mem_nil, or_false] at hmv
        rcases hmv with rfl | rfl | rfl | rfl | rfl | rfl | rfl
        · exact .inl rfl
        · exact .inl rfl
        all_goals exact .inr ⟨_, rfl, by decide⟩
      have sm3 : Same H0 H3 := by tm_at "sm"
      have bx3 : BoxAt H3 b := hx3.box
      clear hmv hx2 hx1
      tm_at "go"
      intro x dx nx ndx nex
      obtain ⟨n, hn⟩ : ∃ n : Nat, 1 + d = (n : Int) := ⟨(1 + d).toNat, by omega⟩
      rw [hn]
      refine ⟨x, dx, n, mv, rfl, upd_same, by omega, by omega, fun p H4 hk4 hx4 hp4 => ⟨rfl, ?_⟩⟩
      have sm4 : Same H0 H4 := by tm_at "sm"
      have nbx : b ≠ x := bx3.fresh nx
      have nbd : b ≠ dx := bx3.fresh ndx
      have bx4 : BoxAt H4 b := by
        obtain ⟨q1, q2, q3, q⟩ := bx3
        exact ⟨q1, q2, q3, hk4 _ _ nbx (at_upd nbx (at_upd nbd q))⟩
      rw [Int.toNat_natCast] at hp4
      have hx0 : H0 x = Option.none := Same.free sm3 nx
      clear hk4 sm3
      tm_at "go"
      refine ⟨szl rfl, fun l0 hl0 => ?_⟩
      tm_at "go"
      refine r_rep upd_same (by omega) (by omega) (sz (by simp; omega)) fun l hl => ?_
      rw [flat_one, Int.toNat_natCast]
      have bx5 : BoxAt (upd (upd H4 l0 (.lst [.non])) l (.lst (List.replicate n .non))) b := (bx4.upd hl0).upd hl
      have nlb : l ≠ b := Ne.symm ((bx4.upd hl0).fresh hl)
      have nlx : l ≠ x := by tm_at "ne"
      have nl0 : l0 ≠ l := Ne.symm (free_upd hl).2
      have hl4 : H4 l = Option.none := (free_upd hl).1
      have hl0' : H0 l = Option.none := Same.free sm4 hl4
      have npl : p ≠ l := ne_of_none hp4 hl4
      have I5 : InvK aFar H0 b x l mv n (List.replicate n none) (upd (upd H4 l0 (.lst [.non])) l (.lst (List.replicate n .non))) :=
        ⟨by tm_at "sm", bx5, ⟨_, upd_same, Held.rep n, by simp⟩, ⟨dx, p, _, by tm_at "hs", by tm_at "hs", Held.rep n, by simp⟩, bd_rep n⟩
      generalize upd (upd H4 l0 (.lst [.non])) l (.lst (List.replicate n .non)) = H5 at I5 ⊢
      clear bx5 bx4 hl hl0 hp4 hx4 sm4 hl4 npl nl0 nbd nex ndx nx bx3 hx3 hpm
      tm_at "go"
      refine ⟨szl rfl, fun pp hpp => ?_⟩
      tm_at "go"
      refine r_pickN I5.bx hpp (Nat.le_of_ble_eq_true rfl) (Nat.le_of_ble_eq_true rfl) fun mo H6 hmo hx6 => ?_
      have I6 := I5.box hx6 hb0 nlb (Ne.symm nbx)
      obtain ⟨mm, rfl, mm1, mm2⟩ : ∃ mm : Int, mo = .int mm ∧ 1 ≤ mm ∧ mm ≤ 1000000 := by
        simp only [List.mem_cons, List.not_mem_nil, or_false] at hmo
        rcases hmo with rfl | rfl | rfl
        all_goals exact ⟨_, rfl, by decide, by decide⟩
      clear I5 hx6 hmo hpp
      tm_at "go"
      refine r_take I6.bx (by decide) (by decide) fun dt H7 t0 t1 hx7 => ?_
      have I7 := I6.box hx7 hb0 nlb (Ne.symm nbx)
      clear I6 hx7
      tm_at "go"
      refine ⟨_, rfl, by omega, by omega, for_range (lo := 0) (n := _)
        (fun j σ H' => (∃ o3 o9 o10 o11 o12 o13 o14 : Option V, σ = [some (.ref a), some (.int (0 + (i : Int))), some (.ref b), o3, some (.int (n : Int)), some mv, some (.ref x), some (.ref l), some (.int mm), o9, o10, o11, o12, o13, o14]) ∧ ∃ S, InvK aFar H0 b x l mv n S H')
        ⟨⟨_, _, _, _, _, _, _, rfl⟩, _, I7⟩ ?_ ?_⟩
      · rintro j σ H8 hj ⟨⟨o3, o9, o10, o11, o12, o13, o14, rfl⟩, S, I8⟩
        clear I7
        have bxk : ∀ {H H' : Hp}, InvK aFar H0 b x l mv n S H → Bx b H H' → InvK aFar H0 b x l mv n S H' := fun I h => I.box h hb0 nlb (Ne.symm nbx)
        tm_at "go"
        refine r_take I8.bx mm1 (by omega) fun num H9 num0 num1 hx9 => ?_
        have I9 := bxk I8 hx9
        clear I8 hx9
        tm_at "go"
        refine ⟨szl rfl, fun p1 hp1 => ?_⟩
        tm_at "go"
        refine r_pickN I9.bx hp1 (Nat.le_of_ble_eq_true rfl) (Nat.le_of_ble_eq_true rfl) fun sv H10 hsv hx10 => ?_
        have I10 := bxk I9 hx10
        clear I9 hx10 hp1
        tm_at "go"
        refine ⟨szl rfl, fun p2 hp2 => ?_⟩
        tm_at "go"
        refine r_pickN I10.bx hp2 (Nat.le_of_ble_eq_true rfl) (Nat.le_of_ble_eq_true rfl) fun kv H11 hkv hx11 => ?_
        have I11 := bxk I10 hx11
        clear I10 hx11 hp2
        replace hsv := slot3 hsv
        replace hkv := slot3 hkv
        tm_at "go"
        let P1 : St → Hp → Prop := fun σ' H' => ∃ gv : V, σ' = [some (.ref a), some (.int (0 + (i : Int))), some (.ref b), some (.int (0 + (j : Int))), some (.int (n : Int)), some mv, some (.ref x), some (.ref l), some (.int mm), some gv, o10, o11, some (.int num), some sv, some kv] ∧
          (sv = .non → gv = .non) ∧ (sv ≠ .non → ∃ g : Int, gv = .int g ∧ 0 ≤ g) ∧ InvK aFar H0 b x l mv n S H'
        refine r_cut P1 ?_ ?_
        · tm_at "go"
          rcases hsv with rfl | ⟨js, rfl, hjs⟩
          · refine r_Td rfl ?_
            tm_at "go"
            exact ⟨.non, rfl, fun _ => rfl, fun z => absurd rfl z, I11⟩
          · refine r_Fd (fun z => nomatch z) ?_
            tm_at "go"
            refine r_take I11.bx mm1 (by omega) fun g H12 g0 g1 hx12 => ?_
            tm_at "go"
            exact ⟨.int g, rfl, fun z => (nomatch z), fun _ => ⟨g, rfl, g0⟩, bxk I11 hx12⟩
        clear I11
        rintro σ H12 ⟨gv, rfl, g1, g2, I12⟩
        refine r_cut P1 ?_ ?_
        · tm_at "go"
          rcases hsv with rfl | ⟨js, rfl, hjs⟩
          · rw [show (!decide (V.non = V.non)) = false from rfl]
            tm_at "go"
            exact ⟨gv, rfl, g1, g2, I12⟩
          · rw [show (!decide (V.int (js : Int) = V.non)) = true from by rw [decide_eq_false (fun z => nomatch z)] <;> rfl]
            tm_at "go"
            refine r_id (fun hlt => ?_) (fun _ => ?_)
            · tm_at "go"
              obtain ⟨xs, hl, hH, hlen⟩ := I12.hl
              obtain ⟨v, sp, hv, hS, hvs⟩ := hH.at (i := js) (by omega)
              have hat : atI xs (js : Int) = some v := atI_nat hv
              refine r_ixL (SqL.of hl) hat ?_
              tm_at "go"
              cases sp with
              | none =>
                obtain rfl : v = .non := hvs
                rw [show (!decide (V.non = V.non)) = false from rfl]
                tm_at "go"
                exact ⟨gv, rfl, g1, g2, I12⟩
              | some nb =>
                obtain ⟨n', b'⟩ := nb
                obtain ⟨q, rfl, hq⟩ := hvs
                rw [show (!decide (V.ref q = V.non)) = true from by rw [decide_eq_false (fun z => nomatch z)] <;> rfl]
                tm_at "go"
                refine r_take I12.bx (by decide) (by decide) fun d3 H13 _ _ hx13 => ?_
                tm_at "go"
                refine r_id (fun _ => ?_) (fun _ => ?_)
                · tm_at "go"
                  refine r_ixL (SqL.of (hx13.keep _ _ nlb hl)) hat ?_
                  tm_at "go"
                  refine r_ixT (SqT.of (hx13.tk I12.bx _ _ hq)) rfl ?_
                  tm_at "go"
                  exact ⟨.int n', rfl, fun z => (nomatch z), fun _ => ⟨n', rfl, (I12.bd _ _ _ hS).1⟩, bxk I12 hx13⟩
                · tm_at "go"
                  exact ⟨gv, rfl, g1, g2, bxk I12 hx13⟩
            · tm_at "go"
              exact ⟨gv, rfl, g1, g2, I12⟩
        clear I12 g1 g2 gv
        rintro σ H13 ⟨gv, rfl, g1, g2, I13⟩
        refine r_cut P1 ?_ ?_
        · tm_at "go"
          by_cases hsn : sv = .non
          · have e := g1 hsn
            subst e
            rw [show (!decide (V.non = V.non)) = false from rfl]
            tm_at "go"
            exact ⟨.non, rfl, g1, g2, I13⟩
          · obtain ⟨g, rfl, g0⟩ := g2 hsn
            rw [show (!decide (V.int g = V.non)) = true from by rw [decide_eq_false (fun z => nomatch z)] <;> rfl]
            tm_at "go"
            refine ⟨szl rfl, fun pt hpt => ?_⟩
            tm_at "go"
            have I14 := I13.new (o := .tup [.int 2, .int 3, .int 7]) hpt
            refine r_inQ (.inr (SqT.of upd_same)) (by rcases hm with rfl | ⟨m, rfl, _⟩ <;> rfl) rfl ?_
            tm_at "go"
            refine r_ite (fun hin => ?_) (fun _ => ?_)
            · obtain ⟨m, rfl, m0, m8⟩ := in237 hin
              tm_at "go"
              refine r_take I14.bx (by decide) (by decide) fun d2 H15 _ _ hx15 => ?_
              have I15 := bxk I14 hx15
              tm_at "go"
              refine r_eq rfl ?_
              tm_at "go"
              refine r_ite (fun _ => ?_) (fun _ => ?_)
              · tm_at "go"
                refine r_take I15.bx (by decide) (by decide) fun d4 H16 e0 e1 hx16 => ?_
                have I16 := bxk I15 hx16
                tm_at "go"
                refine r_mul (cmulL ⟨by omega, by omega⟩) ?_
                tm_at "go"
                exact ⟨.int (g + m * d4), rfl, fun z => absurd z hsn, fun _ => ⟨_, rfl, Int.add_nonneg g0 (Int.mul_nonneg (Int.le_of_lt m0) e0)⟩, I16⟩
              · tm_at "go"
                exact ⟨.int g, rfl, g1, g2, I15⟩
            · tm_at "go"
              exact ⟨.int g, rfl, g1, g2, I14⟩
        clear I13 g1 g2 gv
        rintro σ H14 ⟨gv, rfl, g1, g2, I14⟩
        refine r_cut (fun σ' H' => ∃ kn : Bool, σ' = [some (.ref a), some (.int (0 + (i : Int))), some (.ref b), some (.int (0 + (j : Int))), some (.int (n : Int)), some mv, some (.ref x), some (.ref l), some (.int mm), some gv, some (.bl kn), o11, some (.int num), some sv, some kv] ∧
          (kn = true ↔ slotOk n sv ∧ slotOk n kv) ∧ H' = H14) ?_ ?_
        · tm_at "go"
          rcases hsv with rfl | ⟨js, rfl, hjs⟩
          · refine r_Td rfl ?_
            tm_at "go"
            rcases hkv with rfl | ⟨jk, rfl, hjk⟩
            · refine r_Td rfl ?_
              tm_at "go"
              exact ⟨true, rfl, ⟨fun _ => ⟨.inl rfl, .inl rfl⟩, fun _ => rfl⟩, rfl⟩
            · refine r_Fd (fun z => nomatch z) ?_
              tm_at "go"
              exact ⟨_, rfl, ⟨fun z => ⟨.inl rfl, slotOk_dec'.mp z⟩, fun z => slotOk_dec'.mpr z.2⟩, rfl⟩
          · refine r_Fd (fun z => nomatch z) ?_
            tm_at "go"
            refine r_ite (fun hc => ?_) (fun hc => ?_)
            · have hc' := slotOk_dec'.mp hc
              tm_at "go"
              rcases hkv with rfl | ⟨jk, rfl, hjk⟩
              · refine r_Td rfl ?_
                tm_at "go"
                exact ⟨true, rfl, ⟨fun _ => ⟨hc', .inl rfl⟩, fun _ => rfl⟩, rfl⟩
              · refine r_Fd (fun z => nomatch z) ?_
                tm_at "go"
                exact ⟨_, rfl, ⟨fun z => ⟨hc', slotOk_dec'.mp z⟩, fun z => slotOk_dec'.mpr z.2⟩, rfl⟩
            · tm_at "go"
              exact ⟨false, rfl, ⟨fun z => (nomatch z), fun z => by rw [slotOk_dec'.mpr z.1] at hc; exact nomatch hc⟩, rfl⟩
        rintro σ H15 ⟨kn, rfl, hkn, rfl⟩
        have g2' : sv ≠ .non → ∃ g : Int, gv = .int g := fun z => let ⟨g, e, _⟩ := g2 z; ⟨g, e⟩
        have gk : Kd K H15 gv := by
          by_cases z : sv = .non
          · rw [g1 z]; exact .non
          · obtain ⟨g, e⟩ := g2' z
            rw [e]; exact .int _
        obtain ⟨xs, hl, hH, hlen⟩ := I14.hl
        obtain ⟨dx, p, us, hx, hp, hU, hul⟩ := I14.hx
        have n3 : n ≤ 3 := by omega
        obtain ⟨sh, hsh⟩ : ∃ sh, sh = shownS S mv sv gv := ⟨_, rfl⟩
        refine r_cut (fun σ' H' => ∃ dv : V, σ' = [some (.ref a), some (.int (0 + (i : Int))), some (.ref b), some (.int (0 + (j : Int))), some (.int (n : Int)), some mv, some (.ref x), some (.ref l), some (.int mm), some gv, some (.bl kn), some dv, some (.int num), some sv, some kv] ∧
          (kn = true → dv = .bl sh) ∧ (kn = false → dv = .str "mismatch") ∧ H' = H15) ?_ ?_
        · tm_at "go"
          refine r_ite (fun hk => ?_) (fun hk => ?_)
          · tm_at "go"
            refine ⟨l, sv, gv, mv, xs, S, rfl, hl, hH, hm, by rw [hlen]; exact (hkn.mp hk).1, g2', ?_⟩
            tm_at "go"
            exact ⟨_, rfl, fun _ => by rw [hsh], (fun z => by rw [hk] at z; exact (nomatch z)), rfl⟩
          · tm_at "go"
            exact ⟨_, rfl, (fun z => by rw [hk] at z; exact (nomatch z)), fun _ => rfl, rfl⟩
        rintro σ H16 ⟨dv, rfl, dY, dN, rfl⟩
        refine r_cut (fun σ' H' => σ' = [some (.ref a), some (.int (0 + (i : Int))), some (.ref b), some (.int (0 + (j : Int))), some (.int (n : Int)), some mv, some (.ref x), some (.ref l), some (.int mm), some gv, some (.bl kn), some dv, some (.int num), some sv, some kv] ∧
          (kn = false → InvK aFar H0 b x l mv n S H') ∧ (kn = true → Same H0 H' ∧ BoxAt H' b ∧ (H' l = some (.lst xs) ∧ Held H' xs S) ∧ (∃ dx p us, H' x = some (.ins aFar dx (farF mv p)) ∧ H' p = some (.tup us) ∧ Held H' us (setS S kv (some (num, !sh))) ∧ us.length = n))) ?_ ?_
        · tm_at "go"
          intro wx dw nwx ndw nexw
          refine ⟨wx, dw, .int num, sv, gv, kv, rfl, .int _, slot_kd hsv, Kd.mono (by tm_at "sm") gk, slot_kd hkv, upd_same, fun _ => ⟨rfl, ?_⟩, fun hb => by rw [good_word num0 hsv hkv g1 g2] at hb; exact nomatch hb⟩
          have sw : Same H16 (upd (upd (upd H16 dw (.own wx)) wx (.ins aWord dw [])) wx (.ins aWord dw (wordF (.int num) sv gv kv))) := by tm_at "sm"
          have hw : (upd (upd (upd H16 dw (.own wx)) wx (.ins aWord dw [])) wx (.ins aWord dw (wordF (.int num) sv gv kv))) wx = some (.ins aWord dw (wordF (.int num) sv gv kv)) := upd_same
          generalize (upd (upd (upd H16 dw (.own wx)) wx (.ins aWord dw [])) wx (.ins aWord dw (wordF (.int num) sv gv kv))) = Hw at sw hw ⊢
          tm_at "go"
          refine ⟨x, wx, dx, dw, p, mv, num, sv, gv, kv, us, S, rfl, sw _ _ hx, hw, sw _ _ hp, by omega, hU.mono (Same.tk sw), hm, hsv, hkv, g2', fun z1 z2 p' us' H' hk e1 e2 e3 e4 => ?_, fun hb H' s' => ?_⟩
          · have k1 : kn = true := hkn.mpr ⟨by rw [← hul]; exact z1, by rw [← hul]; exact z2⟩
            have := dY k1
            subst this
            rw [← hsh]
            tm_at "go"
            refine Sh.repr (sh_bl sh) (by decide) (by decide) ?_
            tm_at "go"
            refine Sh.repr (sh_bl sh) (by decide) (by decide) ?_
            tm_at "go"
            refine r_ne rfl ?_
            rw [neSelf]
            tm_at "go"
            refine ⟨rfl, fun z => (by rw [k1] at z; exact nomatch z), fun _ => ⟨Same.kx (I14.sm.trans sw) hk hx0, ?_, ⟨hk _ _ nlx (sw _ _ hl), hH.mono (Tk.trans (Same.tk sw) (Kx.tk hk (sw _ _ hx)))⟩, dx, p', us', e1, e2, ?_, by omega⟩⟩
            · obtain ⟨q1, q2, q3, q⟩ := I14.bx
              exact ⟨q1, q2, q3, hk _ _ nbx (sw _ _ q)⟩
            · rw [hsh]; exact e4
          · have k0 : kn = false := by
              cases kn with
              | false => rfl
              | true => exact absurd (hkn.mp rfl) (by rw [← hul]; exact hb)
            have := dN k0
            subst this
            tm_at "go"
            refine Sh.repr (sh_str (n := 40) (by decide +kernel) (by decide +kernel)) (by decide) (by decide) ?_
            tm_at "go"
            refine Sh.repr (sh_str (n := 40) (by decide +kernel) (by decide +kernel)) (by decide) (by decide) ?_
            tm_at "go"
            refine r_ne rfl ?_
            rw [neSelf]
            tm_at "go"
            exact ⟨rfl, fun _ => I14.same (sw.trans s'), fun z => by rw [k0] at z; exact nomatch z⟩
        clear hx hp hU hul hl hH gk
        rintro σ H17 ⟨rfl, kN, kY⟩
        refine r_cut (fun σ' H' => (∃ o9 o10 o11 o12 o13 o14 : Option V, σ' = [some (.ref a), some (.int (0 + (i : Int))), some (.ref b), some (.int (0 + (j : Int))), some (.int (n : Int)), some mv, some (.ref x), some (.ref l), some (.int mm), o9, o10, o11, o12, o13, o14]) ∧ ∃ S, InvK aFar H0 b x l mv n S H') ?_ ?_
        · tm_at "go"
          refine r_ite (fun hk => ?_) (fun hk => ?_)
          · obtain ⟨sm', bx', ⟨hl, hH⟩, dx, p, us, hx, hp, hU, hul⟩ := kY hk
            have := dY hk
            subst this
            tm_at "go"
            rcases hkv with rfl | ⟨jk, rfl, hjk⟩
            · rw [show (!decide (V.non = V.non)) = false from rfl]
              tm_at "go"
              exact ⟨⟨_, _, _, _, _, _, rfl⟩, S, sm', bx', ⟨xs, hl, hH, hlen⟩, ⟨dx, p, us, hx, hp, hU, hul⟩, I14.bd⟩
            · have hjn : jk < n := by
                rcases (hkn.mp hk).2 with z | ⟨q, e, z⟩
                · exact nomatch z
                · cases e; exact z
              rw [show (!decide (V.int (jk : Int) = V.non)) = true from by rw [decide_eq_false (fun z => nomatch z)] <;> rfl]
              tm_at "go"
              refine ⟨szl rfl, fun q hq => ?_⟩
              tm_at "go"
              refine r_setL (m := jk) (at_upd (ne_of_none hl hq) hl) (by unfold ixN; rw [if_pos (by omega), if_pos (by omega)] <;> rfl) ?_
              tm_at "go"
              have nqx : x ≠ q := ne_of_none hx hq
              have nql : l ≠ q := ne_of_none hl hq
              have tk : Tk H17 (upd (upd H17 q (.tup [.int num, .bl (!sh)])) l (.lst (xs.set jk (.ref q)))) := Tk.setL (Tk.new Tk.refl hq) (at_upd nql hl)
              refine ⟨⟨_, _, _, _, _, _, rfl⟩, setS S (.int jk) (some (num, !sh)), Same.updF (Same.new sm' hq) hl0', ?_, ⟨_, upd_same, ?_, by rw [List.length_set]; exact hlen⟩, ⟨dx, p, us, ?_, tk _ _ hp, hU.mono tk, hul⟩, bd_set num0 (by omega) I14.bd⟩
              · exact BoxAt.at (bx'.upd hq) (Ne.symm nlb)
              · show Held _ (xs.set jk (.ref q)) (S.set (jk : Int).toNat _)
                rw [Int.toNat_natCast]
                have hn : HV (upd (upd H17 q (.tup [.int num, .bl (!sh)])) l (.lst (xs.set jk (.ref q)))) (.ref q) (some (num, !sh)) := ⟨q, rfl, at_upd (Ne.symm nql) upd_same⟩
                exact Held.set (hH.mono tk) hn
              · exact at_upd (Ne.symm nlx) (at_upd nqx hx)
          · tm_at "go"
            exact ⟨⟨_, _, _, _, _, _, rfl⟩, S, kN hk⟩
        clear I14 g1 g2 kN kY dY dN hsh hkn g2' hlen
        rintro σ H18 ⟨⟨o9, o10, o11, o12, o13, o14, rfl⟩, S, I18⟩
        obtain ⟨xs, hl, hH, hlen⟩ := I18.hl
        obtain ⟨dx, p, us, hx, hp, hU, hul⟩ := I18.hx
        tm_at "go"
        refine r_pobj hx ?_
        refine ⟨x, dx, p, mv, rfl, hx, ?_⟩
        tm_at "go"
        refine Sh.repr (sh_tup (SqT.of hp) (sh_held hU I18.bd) (m := 1000) (by omega)) (by decide) (by decide) ?_
        tm_at "go"
        refine r_tupL (SqL.of hl) fun lt hlt => ?_
        tm_at "go"
        refine Sh.repr (sh_tup (SqT.of upd_same) (sh_held (hH.mono (Tk.new Tk.refl hlt)) I18.bd) (m := 1000) (by omega)) (by decide) (by decide) ?_
        tm_at "go"
        refine r_ne rfl ?_
        rw [neSelf]
        tm_at "go"
        exact ⟨⟨_, _, _, _, _, _, _, rfl⟩, S, I18.new hlt⟩
      · rintro σ H8 ⟨⟨o3, o9, o10, o11, o12, o13, o14, rfl⟩, S, I8⟩
        exact ⟨⟨_, _, _, _, _, _, _, _, _, _, _, _, _, _, rfl⟩, Same.seqL I8.sm hS0⟩
    · rintro σ H2 ⟨⟨o1, o2, o3, o4, o5, o6, o7, o8, o9, o10, o11, o12, o13, o14, rfl⟩, hS2⟩
      tm_at "go"
      intro x dx nx ndx nex
      refine ⟨x, dx, 2, .non, rfl, upd_same, by decide, by decide, fun p H4 hk4 hx4 hp4 => ⟨rfl, ?_⟩⟩
      have hp5 : H4 p = some (.tup [.non, .non]) := hp4
      refine r_pobj hx4 ?_
      refine ⟨x, dx, p, .non, rfl, hx4, ?_⟩
      tm_at "go"
      refine ⟨szl rfl, fun pt hpt => ?_⟩
      tm_at "go"
      refine r_eqD (d := .tuple [.none, .none]) (e := .tuple [.none, .none]) (.tup (SqT.of (at_upd (ne_of_none hp5 hpt) hp5)) (.cons .non (.cons .non .nil))) (.tup (SqT.of upd_same) (.cons .non (.cons .non .nil))) (by decide +kernel) (by decide +kernel) ?_
      exact k _
end
theorem all_mk {h : Heap} (X : K.In h) (G : h.Ns mainGlobals mg)
    (a_GroundError : PySem.W.nsIn K mainGlobals "GroundError" = some (some (.ref aGround)))
    (bs_GroundError : PySem.W.specialIn K (.ref aGround) "__getattribute__" = some (some (.builtin "type.__getattribute__")))
    (br_GroundError : PySem.W.readsIn K aGround (.type "type") = true)
    (bf_GroundError : PySem.W.findCls K (.ref aGround) (.type "type") "__init__" = some (.val (.builtin "ValueError.__init__")))
    (a_InvalidWord : PySem.W.nsIn K mainGlobals "InvalidWord" = some (some (.ref aInvWord)))
    {nm_InvalidWord q_InvalidWord : Str} {N_InvalidWord : Addr} {bs_InvalidWord : List Value} {sn_InvalidWord : List Str} {sub_InvalidWord : List Value} {ab_InvalidWord : Bool} {col_InvalidWord : Option Bool} {dd_InvalidWord : Option Addr} {m0_InvalidWord m1_InvalidWord m2_InvalidWord m3_InvalidWord m5_InvalidWord : Option Value}
    (x_InvalidWord : K.lookup aInvWord = some (excClassObj nm_InvalidWord q_InvalidWord aInvWord N_InvalidWord bs_InvalidWord [.ref aGround, .type "ValueError", .type "Exception", .type "BaseException", .type "object"] true sn_InvalidWord sub_InvalidWord ab_InvalidWord col_InvalidWord dd_InvalidWord m0_InvalidWord m1_InvalidWord m2_InvalidWord m3_InvalidWord m5_InvalidWord "ValueError.__new__"))
    (sa_InvalidWord : PySem.W.findIn K (.ref aInvWord) "__setattr__" = some (some (.builtin "object.__setattr__")))
    (ex_InvalidWord : PySem.W.subIn K (.ref aInvWord) (.type "BaseException") = some true)
    (ty_InvalidWord : PySem.W.typeIn K (.ref aInvWord) = some (.type "type"))
    (kc_InvalidWord : PySem.W.keepIn K (.ref aInvWord) = true)
    {f_InvalidWord : Addr} {od_InvalidWord an_InvalidWord : Option Addr} {sl_InvalidWord : Array (Option Value)} {oc_InvalidWord kV_InvalidWord dc_InvalidWord pm_InvalidWord cd_InvalidWord ct_InvalidWord : Value}
    (i_InvalidWord : PySem.W.findIn K (.ref aInvWord) "__init__" = some (some (.ref f_InvalidWord)))
    (ti_InvalidWord : PySem.W.typeIn K (.ref f_InvalidWord) = some (.type "function"))
    (l_InvalidWord : K.lookup f_InvalidWord = some ⟨oc_InvalidWord, od_InvalidWord, .func (PySem.W.fnOf "__init__" "InvalidWord.__init__" (defArgs s_InvalidWord__init) (defBody s_InvalidWord__init) (defScope s_InvalidWord__init) .none kV_InvalidWord dc_InvalidWord pm_InvalidWord an_InvalidWord cd_InvalidWord ct_InvalidWord), sl_InvalidWord⟩)
    (c_InvalidWord : PySem.W.codeIn K cd_InvalidWord "InvalidWord.__init__" = true)
    (k_InvalidWord : PySem.W.keepIn K (.ref f_InvalidWord) = true)
    (a_Mismatch : PySem.W.nsIn K mainGlobals "Mismatch" = some (some (.ref aMis)))
    {nm_Mismatch q_Mismatch : Str} {N_Mismatch : Addr} {bs_Mismatch : List Value} {sn_Mismatch : List Str} {sub_Mismatch : List Value} {ab_Mismatch : Bool} {col_Mismatch : Option Bool} {dd_Mismatch : Option Addr} {m0_Mismatch m1_Mismatch m2_Mismatch m3_Mismatch m5_Mismatch : Option Value}
    (x_Mismatch : K.lookup aMis = some (excClassObj nm_Mismatch q_Mismatch aMis N_Mismatch bs_Mismatch [.ref aGround, .type "ValueError", .type "Exception", .type "BaseException", .type "object"] true sn_Mismatch sub_Mismatch ab_Mismatch col_Mismatch dd_Mismatch m0_Mismatch m1_Mismatch m2_Mismatch m3_Mismatch m5_Mismatch "ValueError.__new__"))
    (sa_Mismatch : PySem.W.findIn K (.ref aMis) "__setattr__" = some (some (.builtin "object.__setattr__")))
    (ex_Mismatch : PySem.W.subIn K (.ref aMis) (.type "BaseException") = some true)
    (ty_Mismatch : PySem.W.typeIn K (.ref aMis) = some (.type "type"))
    (kc_Mismatch : PySem.W.keepIn K (.ref aMis) = true)
    {f_Mismatch : Addr} {od_Mismatch an_Mismatch : Option Addr} {sl_Mismatch : Array (Option Value)} {oc_Mismatch kV_Mismatch dc_Mismatch pm_Mismatch cd_Mismatch ct_Mismatch : Value}
    (i_Mismatch : PySem.W.findIn K (.ref aMis) "__init__" = some (some (.ref f_Mismatch)))
    (ti_Mismatch : PySem.W.typeIn K (.ref f_Mismatch) = some (.type "function"))
    (l_Mismatch : K.lookup f_Mismatch = some ⟨oc_Mismatch, od_Mismatch, .func (PySem.W.fnOf "__init__" "Mismatch.__init__" (defArgs s_Mismatch__init) (defBody s_Mismatch__init) (defScope s_Mismatch__init) .none kV_Mismatch dc_Mismatch pm_Mismatch an_Mismatch cd_Mismatch ct_Mismatch), sl_Mismatch⟩)
    (c_Mismatch : PySem.W.codeIn K cd_Mismatch "Mismatch.__init__" = true)
    (k_Mismatch : PySem.W.keepIn K (.ref f_Mismatch) = true)
    (xg_Mismatch : PySem.W.findIn K (.ref aMis) "__getattribute__" = some (some (.builtin "BaseException.__getattribute__")))
    (xk_Mismatch : PySem.W.findIn K (.ref aMis) "__getattr__" = some none)
    (xd_Mismatch : PySem.W.hasDictIn K aMis = true)
    (xa_Mismatch : PySem.W.findIn K (.ref aMis) "__class__" = some (some (.builtin "object.__class__")))
    (xn_Mismatch : PySem.W.specialIn K (.builtin "object.__class__") "__get__" = some (some (.builtin "getset_descriptor.__get__")))
    (xt_Mismatch : PySem.W.takesIn K (.builtin "object.__class__") = some true)
    (xm_Mismatch : PySem.W.mroIn K aMis (.type "object") = some true)
    (xs_Mismatch : PySem.W.subIn K (.ref aMis) (.ref aMis) = some true)
    (a_Word : PySem.W.nsIn K mainGlobals "Word" = some (some (.ref aWord)))
    (pg_Word : PySem.W.plainGet K aWord Str.empty = true)
    (hd_Word : PySem.W.hasDictIn K aWord = true)
    (po_Word : PySem.W.plainOver K aWord = true)
    (sa_Word : PySem.W.findIn K (.ref aWord) "__setattr__" = some (some (.builtin "object.__setattr__")))
    (mk_Word : PySem.W.makesIn K aWord = true)
    (kc_Word : PySem.W.keepIn K (.ref aWord) = true)
    {f_Word : Addr} {od_Word an_Word : Option Addr} {sl_Word : Array (Option Value)} {oc_Word kV_Word dc_Word pm_Word cd_Word ct_Word : Value}
    (i_Word : PySem.W.findIn K (.ref aWord) "__init__" = some (some (.ref f_Word)))
    (if_Word : PySem.W.isFn K (.ref f_Word) = true)
    {T_Word : Addr} {oT_Word : Value} {dT_Word : Option Addr} {iT_Word : List Value} {mT_Word : Nat} {sT_Word : Array (Option Value)}
    (l_Word : K.lookup f_Word = some ⟨oc_Word, od_Word, .func (PySem.W.fnOf "__init__" "Word.__init__" (defArgs s_Word__init) (defBody s_Word__init) (defScope s_Word__init) (.ref T_Word) kV_Word dc_Word pm_Word an_Word cd_Word ct_Word), sl_Word⟩)
    (c_Word : PySem.W.codeIn K cd_Word "Word.__init__" = true)
    (k_Word : PySem.W.keepIn K (.ref f_Word) = true)
    (t_Word : K.lookup T_Word = some ⟨oT_Word, dT_Word, .seq iT_Word.toArray mT_Word, sT_Word⟩)
    (v_Word : Vals [.non, .non, .non] iT_Word)
    (a_Far : PySem.W.nsIn K mainGlobals "Far" = some (some (.ref aFar)))
    (pg_Far : PySem.W.plainGet K aFar Str.empty = true)
    (hd_Far : PySem.W.hasDictIn K aFar = true)
    (po_Far : PySem.W.plainOver K aFar = true)
    (sa_Far : PySem.W.findIn K (.ref aFar) "__setattr__" = some (some (.builtin "object.__setattr__")))
    (mk_Far : PySem.W.makesIn K aFar = true)
    (kc_Far : PySem.W.keepIn K (.ref aFar) = true)
    {f_Far : Addr} {od_Far an_Far : Option Addr} {sl_Far : Array (Option Value)} {oc_Far kV_Far dc_Far pm_Far cd_Far ct_Far : Value}
    (i_Far : PySem.W.findIn K (.ref aFar) "__init__" = some (some (.ref f_Far)))
    (if_Far : PySem.W.isFn K (.ref f_Far) = true)
    {T_Far : Addr} {oT_Far : Value} {dT_Far : Option Addr} {iT_Far : List Value} {mT_Far : Nat} {sT_Far : Array (Option Value)}
    (l_Far : K.lookup f_Far = some ⟨oc_Far, od_Far, .func (PySem.W.fnOf "__init__" "Far.__init__" (defArgs s_Far__init) (defBody s_Far__init) (defScope s_Far__init) (.ref T_Far) kV_Far dc_Far pm_Far an_Far cd_Far ct_Far), sl_Far⟩)
    (c_Far : PySem.W.codeIn K cd_Far "Far.__init__" = true)
    (k_Far : PySem.W.keepIn K (.ref f_Far) = true)
    (t_Far : K.lookup T_Far = some ⟨oT_Far, dT_Far, .seq iT_Far.toArray mT_Far, sT_Far⟩)
    (v_Far : Vals [.non] iT_Far)
    {f_Far_is_shown : Addr} {od_Far_is_shown an_Far_is_shown : Option Addr} {sl_Far_is_shown : Array (Option Value)} {oc_Far_is_shown kV_Far_is_shown dc_Far_is_shown pm_Far_is_shown cd_Far_is_shown ct_Far_is_shown : Value}
    (i_Far_is_shown : PySem.W.findIn K (.ref aFar) "is_shown" = some (some (.ref f_Far_is_shown)))
    (if_Far_is_shown : PySem.W.isFn K (.ref f_Far_is_shown) = true)
    (l_Far_is_shown : K.lookup f_Far_is_shown = some ⟨oc_Far_is_shown, od_Far_is_shown, .func (PySem.W.fnOf "is_shown" "Far.is_shown" (defArgs s_Far_is_shown) (defBody s_Far_is_shown) (defScope s_Far_is_shown) .none kV_Far_is_shown dc_Far_is_shown pm_Far_is_shown an_Far_is_shown cd_Far_is_shown ct_Far_is_shown), sl_Far_is_shown⟩)
    (c_Far_is_shown : PySem.W.codeIn K cd_Far_is_shown "Far.is_shown" = true)
    (k_Far_is_shown : PySem.W.keepIn K (.ref f_Far_is_shown) = true)
    {f_Far_take : Addr} {od_Far_take an_Far_take : Option Addr} {sl_Far_take : Array (Option Value)} {oc_Far_take kV_Far_take dc_Far_take pm_Far_take cd_Far_take ct_Far_take : Value}
    (i_Far_take : PySem.W.findIn K (.ref aFar) "take" = some (some (.ref f_Far_take)))
    (if_Far_take : PySem.W.isFn K (.ref f_Far_take) = true)
    (l_Far_take : K.lookup f_Far_take = some ⟨oc_Far_take, od_Far_take, .func (PySem.W.fnOf "take" "Far.take" (defArgs s_Far_take) (defBody s_Far_take) (defScope s_Far_take) .none kV_Far_take dc_Far_take pm_Far_take an_Far_take cd_Far_take ct_Far_take), sl_Far_take⟩)
    (c_Far_take : PySem.W.codeIn K cd_Far_take "Far.take" = true)
    (k_Far_take : PySem.W.keepIn K (.ref f_Far_take) = true)
    {f_Far_held : Addr} {od_Far_held an_Far_held : Option Addr} {sl_Far_held : Array (Option Value)} {oc_Far_held kV_Far_held dc_Far_held pm_Far_held cd_Far_held ct_Far_held : Value}
    {p_Far_held : Addr} {rest_Far_held : List Value}
    (i_Far_held : PySem.W.findIn K (.ref aFar) "held" = some (some (.ref p_Far_held)))
    (pg_Far_held : PySem.W.specialIn K (.ref p_Far_held) "__get__" = some (some (.builtin "property.__get__")))
    (pt_Far_held : PySem.W.takesIn K (.ref p_Far_held) = some true)
    (pr_Far_held : PySem.W.recIn K p_Far_held "property" = some (.ref f_Far_held :: rest_Far_held))
    (l_Far_held : K.lookup f_Far_held = some ⟨oc_Far_held, od_Far_held, .func (PySem.W.fnOf "held" "Far.held" (defArgs s_Far_held) (defBody s_Far_held) (defScope s_Far_held) .none kV_Far_held dc_Far_held pm_Far_held an_Far_held cd_Far_held ct_Far_held), sl_Far_held⟩)
    (c_Far_held : PySem.W.codeIn K cd_Far_held "Far.held" = true)
    (k_Far_held : PySem.W.keepIn K (.ref f_Far_held) = true)
    (na_aWord_number : PySem.W.findIn K (.ref aWord) "number" = some none)
    (na_aWord_slot : PySem.W.findIn K (.ref aWord) "slot" = some none)
    (na_aWord_ground : PySem.W.findIn K (.ref aWord) "ground" = some none)
    (na_aWord_keep : PySem.W.findIn K (.ref aWord) "keep" = some none)
    (na_aFar_modulus : PySem.W.findIn K (.ref aFar) "modulus" = some none)
    (na_aFar_had : PySem.W.findIn K (.ref aFar) "had" = some none)
    {tk_LAST_SLOT : Tok}
    (a_LAST_SLOT : PySem.W.nsIn K mainGlobals "LAST_SLOT" = some (some (.int 2 tk_LAST_SLOT)))
    (z_int : PySem.W.nsIn K mainGlobals "int" = some none)
    (z_len : PySem.W.nsIn K mainGlobals "len" = some none)
    (z_abs : PySem.W.nsIn K mainGlobals "abs" = some none)
    (z_repr : PySem.W.nsIn K mainGlobals "repr" = some none)
    (z_range : PySem.W.nsIn K mainGlobals "range" = some none)
    (z_min : PySem.W.nsIn K mainGlobals "min" = some none)
    (z_max : PySem.W.nsIn K mainGlobals "max" = some none)
    (z_bool : PySem.W.nsIn K mainGlobals "bool" = some none)
    (z_isinstance : PySem.W.nsIn K mainGlobals "isinstance" = some none)
    (z_tuple : PySem.W.nsIn K mainGlobals "tuple" = some none)
    {f_law_box : Addr} {od_law_box an_law_box : Option Addr} {sl_law_box : Array (Option Value)} {oc_law_box kV_law_box dc_law_box pm_law_box cd_law_box ct_law_box : Value}
    (a_law_box : PySem.W.nsIn K mainGlobals "_law_box" = some (some (.ref f_law_box)))
    (l_law_box : K.lookup f_law_box = some ⟨oc_law_box, od_law_box, .func (PySem.W.fnOf "_law_box" "_law_box" (defArgs s_law_box) (defBody s_law_box) (defScope s_law_box) .none kV_law_box dc_law_box pm_law_box an_law_box cd_law_box ct_law_box), sl_law_box⟩)
    (c_law_box : PySem.W.codeIn K cd_law_box "_law_box" = true)
    (k_law_box : PySem.W.keepIn K (.ref f_law_box) = true)
    {f_law_take : Addr} {od_law_take an_law_take : Option Addr} {sl_law_take : Array (Option Value)} {oc_law_take kV_law_take dc_law_take pm_law_take cd_law_take ct_law_take : Value}
    (a_law_take : PySem.W.nsIn K mainGlobals "_law_take" = some (some (.ref f_law_take)))
    (l_law_take : K.lookup f_law_take = some ⟨oc_law_take, od_law_take, .func (PySem.W.fnOf "_law_take" "_law_take" (defArgs s_law_take) (defBody s_law_take) (defScope s_law_take) .none kV_law_take dc_law_take pm_law_take an_law_take cd_law_take ct_law_take), sl_law_take⟩)
    (c_law_take : PySem.W.codeIn K cd_law_take "_law_take" = true)
    (k_law_take : PySem.W.keepIn K (.ref f_law_take) = true)
    {f_law_pick : Addr} {od_law_pick an_law_pick : Option Addr} {sl_law_pick : Array (Option Value)} {oc_law_pick kV_law_pick dc_law_pick pm_law_pick cd_law_pick ct_law_pick : Value}
    (a_law_pick : PySem.W.nsIn K mainGlobals "_law_pick" = some (some (.ref f_law_pick)))
    (l_law_pick : K.lookup f_law_pick = some ⟨oc_law_pick, od_law_pick, .func (PySem.W.fnOf "_law_pick" "_law_pick" (defArgs s_law_pick) (defBody s_law_pick) (defScope s_law_pick) .none kV_law_pick dc_law_pick pm_law_pick an_law_pick cd_law_pick ct_law_pick), sl_law_pick⟩)
    (c_law_pick : PySem.W.codeIn K cd_law_pick "_law_pick" = true)
    (k_law_pick : PySem.W.keepIn K (.ref f_law_pick) = true)
    {f_law_is_shown : Addr} {od_law_is_shown an_law_is_shown : Option Addr} {sl_law_is_shown : Array (Option Value)} {oc_law_is_shown kV_law_is_shown dc_law_is_shown pm_law_is_shown cd_law_is_shown ct_law_is_shown : Value}
    (a_law_is_shown : PySem.W.nsIn K mainGlobals "_law_is_shown" = some (some (.ref f_law_is_shown)))
    (l_law_is_shown : K.lookup f_law_is_shown = some ⟨oc_law_is_shown, od_law_is_shown, .func (PySem.W.fnOf "_law_is_shown" "_law_is_shown" (defArgs s_law_is_shown) (defBody s_law_is_shown) (defScope s_law_is_shown) .none kV_law_is_shown dc_law_is_shown pm_law_is_shown an_law_is_shown cd_law_is_shown ct_law_is_shown), sl_law_is_shown⟩)
    (c_law_is_shown : PySem.W.codeIn K cd_law_is_shown "_law_is_shown" = true)
    (k_law_is_shown : PySem.W.keepIn K (.ref f_law_is_shown) = true)
    {f_law_heard : Addr} {od_law_heard an_law_heard : Option Addr} {sl_law_heard : Array (Option Value)} {oc_law_heard kV_law_heard dc_law_heard pm_law_heard cd_law_heard ct_law_heard : Value}
    (a_law_heard : PySem.W.nsIn K mainGlobals "_law_heard" = some (some (.ref f_law_heard)))
    (l_law_heard : K.lookup f_law_heard = some ⟨oc_law_heard, od_law_heard, .func (PySem.W.fnOf "_law_heard" "_law_heard" (defArgs s_law_heard) (defBody s_law_heard) (defScope s_law_heard) .none kV_law_heard dc_law_heard pm_law_heard an_law_heard cd_law_heard ct_law_heard), sl_law_heard⟩)
    (c_law_heard : PySem.W.codeIn K cd_law_heard "_law_heard" = true)
    (k_law_heard : PySem.W.keepIn K (.ref f_law_heard) = true)
    {f_law : Addr} {od_law an_law : Option Addr} {sl_law : Array (Option Value)} {oc_law kV_law dc_law pm_law cd_law ct_law : Value}
    (a_law : PySem.W.nsIn K mainGlobals "law" = some (some (.ref f_law)))
    (l_law : K.lookup f_law = some ⟨oc_law, od_law, .func (PySem.W.fnOf "law" "law" (defArgs s_law) (defBody s_law) (defScope s_law) .none kV_law dc_law pm_law an_law cd_law ct_law), sl_law⟩)
    (c_law : PySem.W.codeIn K cd_law "law" = true)
    (k_law : PySem.W.keepIn K (.ref f_law) = true)
    {f_is_integer : Addr} {od_is_integer an_is_integer : Option Addr} {sl_is_integer : Array (Option Value)} {oc_is_integer kV_is_integer dc_is_integer pm_is_integer cd_is_integer ct_is_integer : Value}
    (a_is_integer : PySem.W.nsIn K mainGlobals "is_integer" = some (some (.ref f_is_integer)))
    (l_is_integer : K.lookup f_is_integer = some ⟨oc_is_integer, od_is_integer, .func (PySem.W.fnOf "is_integer" "is_integer" (defArgs s_is_integer) (defBody s_is_integer) (defScope s_is_integer) .none kV_is_integer dc_is_integer pm_is_integer an_is_integer cd_is_integer ct_is_integer), sl_is_integer⟩)
    (c_is_integer : PySem.W.codeIn K cd_is_integer "is_integer" = true)
    (k_is_integer : PySem.W.keepIn K (.ref f_is_integer) = true)
    {f_is_from : Addr} {od_is_from an_is_from : Option Addr} {sl_is_from : Array (Option Value)} {oc_is_from kV_is_from dc_is_from pm_is_from cd_is_from ct_is_from : Value}
    (a_is_from : PySem.W.nsIn K mainGlobals "is_from" = some (some (.ref f_is_from)))
    (l_is_from : K.lookup f_is_from = some ⟨oc_is_from, od_is_from, .func (PySem.W.fnOf "is_from" "is_from" (defArgs s_is_from) (defBody s_is_from) (defScope s_is_from) .none kV_is_from dc_is_from pm_is_from an_is_from cd_is_from ct_is_from), sl_is_from⟩)
    (c_is_from : PySem.W.codeIn K cd_is_from "is_from" = true)
    (k_is_from : PySem.W.keepIn K (.ref f_is_from) = true)
    {f_is_number : Addr} {od_is_number an_is_number : Option Addr} {sl_is_number : Array (Option Value)} {oc_is_number kV_is_number dc_is_number pm_is_number cd_is_number ct_is_number : Value}
    (a_is_number : PySem.W.nsIn K mainGlobals "is_number" = some (some (.ref f_is_number)))
    (l_is_number : K.lookup f_is_number = some ⟨oc_is_number, od_is_number, .func (PySem.W.fnOf "is_number" "is_number" (defArgs s_is_number) (defBody s_is_number) (defScope s_is_number) .none kV_is_number dc_is_number pm_is_number an_is_number cd_is_number ct_is_number), sl_is_number⟩)
    (c_is_number : PySem.W.codeIn K cd_is_number "is_number" = true)
    (k_is_number : PySem.W.keepIn K (.ref f_is_number) = true)
    {f_by_modulus : Addr} {od_by_modulus an_by_modulus : Option Addr} {sl_by_modulus : Array (Option Value)} {oc_by_modulus kV_by_modulus dc_by_modulus pm_by_modulus cd_by_modulus ct_by_modulus : Value}
    (a_by_modulus : PySem.W.nsIn K mainGlobals "by_modulus" = some (some (.ref f_by_modulus)))
    (l_by_modulus : K.lookup f_by_modulus = some ⟨oc_by_modulus, od_by_modulus, .func (PySem.W.fnOf "by_modulus" "by_modulus" (defArgs s_by_modulus) (defBody s_by_modulus) (defScope s_by_modulus) .none kV_by_modulus dc_by_modulus pm_by_modulus an_by_modulus cd_by_modulus ct_by_modulus), sl_by_modulus⟩)
    (c_by_modulus : PySem.W.codeIn K cd_by_modulus "by_modulus" = true)
    (k_by_modulus : PySem.W.keepIn K (.ref f_by_modulus) = true)
    {f_exchanged : Addr} {od_exchanged an_exchanged : Option Addr} {sl_exchanged : Array (Option Value)} {oc_exchanged kV_exchanged dc_exchanged pm_exchanged cd_exchanged ct_exchanged : Value}
    (a_exchanged : PySem.W.nsIn K mainGlobals "exchanged" = some (some (.ref f_exchanged)))
    (l_exchanged : K.lookup f_exchanged = some ⟨oc_exchanged, od_exchanged, .func (PySem.W.fnOf "exchanged" "exchanged" (defArgs s_exchanged) (defBody s_exchanged) (defScope s_exchanged) .none kV_exchanged dc_exchanged pm_exchanged an_exchanged cd_exchanged ct_exchanged), sl_exchanged⟩)
    (c_exchanged : PySem.W.codeIn K cd_exchanged "exchanged" = true)
    (k_exchanged : PySem.W.keepIn K (.ref f_exchanged) = true)
    (hdG : PySem.W.hasDictIn K aGround = true)
    (tyG : PySem.W.typeIn K (.ref aGround) = some (.type "type"))
    (suG : PySem.W.subIn K (.ref aMis) (.ref aGround) = some true)
    (hdW : PySem.W.hasDictIn K aInvWord = true)
    (suW : PySem.W.subIn K (.ref aMis) (.ref aInvWord) = some false) :
    ∀ base : Heap, K.In base → base.Ns mainGlobals mg → DefG P w K mg base CX0 7 "law" ["_law_script"] (spLaw K) := by
  have m_GroundError : mg "GroundError" = some (.ref aGround) := PySem.W.mg_of X G a_GroundError
  have b_GroundError : BaseInit K aGround := ⟨bs_GroundError, br_GroundError, bf_GroundError⟩
  have m_InvalidWord : mg "InvalidWord" = some (.ref aInvWord) := PySem.W.mg_of X G a_InvalidWord
  have at_InvalidWord : ErrAt K mg "InvalidWord" "InvalidWord.__init__" s_InvalidWord__init aInvWord := ⟨m_InvalidWord, ⟨⟨nm_InvalidWord, q_InvalidWord, N_InvalidWord, bs_InvalidWord, _, sn_InvalidWord, sub_InvalidWord, ab_InvalidWord, col_InvalidWord, dd_InvalidWord, m0_InvalidWord, m1_InvalidWord, m2_InvalidWord, m3_InvalidWord, m5_InvalidWord, x_InvalidWord, rfl⟩, sa_InvalidWord, ex_InvalidWord, ty_InvalidWord, kc_InvalidWord⟩, _, _, i_InvalidWord, ti_InvalidWord, fun_mk (st := s_InvalidWord__init) l_InvalidWord c_InvalidWord k_InvalidWord⟩
  have m_Mismatch : mg "Mismatch" = some (.ref aMis) := PySem.W.mg_of X G a_Mismatch
  have at_Mismatch : ErrAt K mg "Mismatch" "Mismatch.__init__" s_Mismatch__init aMis := ⟨m_Mismatch, ⟨⟨nm_Mismatch, q_Mismatch, N_Mismatch, bs_Mismatch, _, sn_Mismatch, sub_Mismatch, ab_Mismatch, col_Mismatch, dd_Mismatch, m0_Mismatch, m1_Mismatch, m2_Mismatch, m3_Mismatch, m5_Mismatch, x_Mismatch, rfl⟩, sa_Mismatch, ex_Mismatch, ty_Mismatch, kc_Mismatch⟩, _, _, i_Mismatch, ti_Mismatch, fun_mk (st := s_Mismatch__init) l_Mismatch c_Mismatch k_Mismatch⟩
  have xc_Mismatch : ExcC K aMis := ⟨xg_Mismatch, xk_Mismatch, ex_Mismatch, xd_Mismatch, xa_Mismatch, xn_Mismatch, xt_Mismatch, xm_Mismatch⟩
  have exm_Mismatch : PySem.W.exmOne K (.ref aMis) (.ref aMis) = some true := PySem.W.exm_ref ex_Mismatch xd_Mismatch ty_Mismatch xs_Mismatch
  have m_Word : mg "Word" = some (.ref aWord) := PySem.W.mg_of X G a_Word
  have cl_Word : Cls K aWord := ⟨pg_Word, hd_Word, po_Word, sa_Word⟩
  have mk_Word : Mk K aWord f_Word := ⟨mk_Word, i_Word, if_Word, kc_Word⟩
  have fd_Word : FunD K "__init__" "Word.__init__" (defArgs s_Word__init) (defBody s_Word__init) (defScope s_Word__init) [.non, .non, .non] [] f_Word _ := ⟨⟨_, _, _, _, _, _, _, _, _, _, rfl, l_Word, c_Word, .inr ⟨by decide, _, _, _, _, rfl, t_Word, rfl, v_Word⟩, .inl rfl⟩, k_Word⟩
  have m_Far : mg "Far" = some (.ref aFar) := PySem.W.mg_of X G a_Far
  have cl_Far : Cls K aFar := ⟨pg_Far, hd_Far, po_Far, sa_Far⟩
  have mk_Far : Mk K aFar f_Far := ⟨mk_Far, i_Far, if_Far, kc_Far⟩
  have fd_Far : FunD K "__init__" "Far.__init__" (defArgs s_Far__init) (defBody s_Far__init) (defScope s_Far__init) [.non] [] f_Far _ := ⟨⟨_, _, _, _, _, _, _, _, _, _, rfl, l_Far, c_Far, .inr ⟨by decide, _, _, _, _, rfl, t_Far, rfl, v_Far⟩, .inl rfl⟩, k_Far⟩
  have at_Far_is_shown : MetAt K aFar "is_shown" "Far.is_shown" s_Far_is_shown := ⟨cl_Far, _, _, ⟨i_Far_is_shown, if_Far_is_shown, k_Far_is_shown⟩, fun_mk (st := s_Far_is_shown) l_Far_is_shown c_Far_is_shown k_Far_is_shown⟩
  have at_Far_take : MetAt K aFar "take" "Far.take" s_Far_take := ⟨cl_Far, _, _, ⟨i_Far_take, if_Far_take, k_Far_take⟩, fun_mk (st := s_Far_take) l_Far_take c_Far_take k_Far_take⟩
  have at_Far_held : PrpAt K aFar "held" "Far.held" s_Far_held := ⟨cl_Far, _, _, _, ⟨i_Far_held, pg_Far_held, pt_Far_held, _, pr_Far_held⟩, fun_mk (st := s_Far_held) l_Far_held c_Far_held k_Far_held⟩
  have m_LAST_SLOT : ∃ t, mg "LAST_SLOT" = some (.int 2 t) := ⟨_, PySem.W.mg_of X G a_LAST_SLOT⟩
  have n_int : mg "int" = none := PySem.W.mg_none_of X G z_int
  have n_len : mg "len" = none := PySem.W.mg_none_of X G z_len
  have n_abs : mg "abs" = none := PySem.W.mg_none_of X G z_abs
  have n_repr : mg "repr" = none := PySem.W.mg_none_of X G z_repr
  have n_range : mg "range" = none := PySem.W.mg_none_of X G z_range
  have n_min : mg "min" = none := PySem.W.mg_none_of X G z_min
  have n_max : mg "max" = none := PySem.W.mg_none_of X G z_max
  have n_bool : mg "bool" = none := PySem.W.mg_none_of X G z_bool
  have n_isinstance : mg "isinstance" = none := PySem.W.mg_none_of X G z_isinstance
  have n_tuple : mg "tuple" = none := PySem.W.mg_none_of X G z_tuple
  have at_law_box : DefAt K mg "_law_box" s_law_box := ⟨_, _, PySem.W.mg_of X G a_law_box, fun_mk (st := s_law_box) l_law_box c_law_box k_law_box⟩
  have at_law_take : DefAt K mg "_law_take" s_law_take := ⟨_, _, PySem.W.mg_of X G a_law_take, fun_mk (st := s_law_take) l_law_take c_law_take k_law_take⟩
  have at_law_pick : DefAt K mg "_law_pick" s_law_pick := ⟨_, _, PySem.W.mg_of X G a_law_pick, fun_mk (st := s_law_pick) l_law_pick c_law_pick k_law_pick⟩
  have at_law_is_shown : DefAt K mg "_law_is_shown" s_law_is_shown := ⟨_, _, PySem.W.mg_of X G a_law_is_shown, fun_mk (st := s_law_is_shown) l_law_is_shown c_law_is_shown k_law_is_shown⟩
  have at_law_heard : DefAt K mg "_law_heard" s_law_heard := ⟨_, _, PySem.W.mg_of X G a_law_heard, fun_mk (st := s_law_heard) l_law_heard c_law_heard k_law_heard⟩
  have at_law : DefAt K mg "law" s_law := ⟨_, _, PySem.W.mg_of X G a_law, fun_mk (st := s_law) l_law c_law k_law⟩
  have at_is_integer : DefAt K mg "is_integer" s_is_integer := ⟨_, _, PySem.W.mg_of X G a_is_integer, fun_mk (st := s_is_integer) l_is_integer c_is_integer k_is_integer⟩
  have at_is_from : DefAt K mg "is_from" s_is_from := ⟨_, _, PySem.W.mg_of X G a_is_from, fun_mk (st := s_is_from) l_is_from c_is_from k_is_from⟩
  have at_is_number : DefAt K mg "is_number" s_is_number := ⟨_, _, PySem.W.mg_of X G a_is_number, fun_mk (st := s_is_number) l_is_number c_is_number k_is_number⟩
  have at_by_modulus : DefAt K mg "by_modulus" s_by_modulus := ⟨_, _, PySem.W.mg_of X G a_by_modulus, fun_mk (st := s_by_modulus) l_by_modulus c_by_modulus k_by_modulus⟩
  have at_exchanged : DefAt K mg "exchanged" s_exchanged := ⟨_, _, PySem.W.mg_of X G a_exchanged, fun_mk (st := s_exchanged) l_exchanged c_exchanged k_exchanged⟩
  have T : Txt K mg aGround aWord aInvWord aMis aFar := ⟨m_GroundError, b_GroundError, m_LAST_SLOT, m_InvalidWord, PySem.W.mg_of X G a_Mismatch, cl_Word, cl_Far, na_aWord_number, na_aWord_slot, na_aWord_ground, na_aWord_keep, na_aFar_modulus, na_aFar_had, exm_Mismatch, xc_Mismatch,
    kit_sub hdG tyG suG xs_Mismatch, kit_sub hdW ty_InvalidWord suW xs_Mismatch, n_int, n_len, n_abs, n_repr, n_range, n_min, n_max, n_bool, n_isinstance, n_tuple⟩
  obtain ⟨ds, vd, bW⟩ := fd_Word.binds1 (ps := ["self", "number", "slot", "ground", "keep"]) 5 3 (by decide) rfl (fun T kV doc pm an cdv ct us its hu hi => match us, its, hu, hi with | [_, _, _, _, _], [_, _, _], _, _ => ⟨_, rfl, rfl⟩)
  obtain ⟨ds2, vd2, bF⟩ := fd_Far.binds1 (ps := ["self", "slots", "modulus"]) 3 1 (by decide) rfl (fun T kV doc pm an cdv ct us its hu hi => match us, its, hu, hi with | [_, _, _], [_], _, _ => ⟨_, rfl, rfl⟩)
  obtain ⟨ds3, vd3, bF1⟩ := fd_Far.binds1 (ps := ["self", "slots", "modulus"]) 2 0 (by decide) rfl (fun T kV doc pm an cdv ct us its hu hi => match us, its, hu, hi with | [_, _], [_], _, _ => ⟨_, rfl, rfl⟩)
  intro base hb1 hb2
  have D_take := ok_take (P := P) (w := w) (base := base) at_law_take T
  have D_pick := ok_pick (P := P) (w := w) (base := base) at_law_pick T D_take
  have D_box := ok_box (P := P) (w := w) (base := base) at_law_box T
  have D_int := ok_is_integer (P := P) (w := w) (base := base) at_is_integer T
  have D_from := ok_is_from (P := P) (w := w) (base := base) at_is_from T D_int
  have D_num := ok_is_number (P := P) (w := w) (base := base) at_is_number T D_int
  have R_inv := ok_InvalidWord (P := P) (w := w) (base := base) at_InvalidWord T
  have R_mis := ok_Mismatch (P := P) (w := w) (base := base) at_Mismatch T
  have F_word := ok_Word (P := P) (w := w) (base := base) fd_Word T D_num D_from R_inv
  have M_word : MakeOk P w K mg base (L2.CX P w) 4 "Word" aWord ["self", "number", "slot", "ground", "keep"] [] (spWord K aWord aInvWord) := ⟨m_Word, _, _, _, mk_Word, F_word, bW, vd⟩
  have F_far := ok_FarI (P := P) (w := w) (base := base) fd_Far T
  have M_far : MakeOk P w K mg base CX0 1 "Far" aFar ["self", "slots", "modulus"] [] (spFarI aFar) := ⟨m_Far, _, _, _, mk_Far, F_far, bF, vd2⟩
  have M_far1 : MakeOk P w K mg base CX0 1 "Far" aFar ["self", "slots", "modulus"] [.non] (spFarI aFar) := ⟨m_Far, _, _, _, mk_Far, F_far, bF1, vd3⟩
  have D_bm := ok_by_modulus (P := P) (w := w) (base := base) at_by_modulus T
  have D_ex := ok_exchanged (P := P) (w := w) (base := base) at_exchanged T
  have M_sh := ok_is_shown (P := P) (w := w) (base := base) at_Far_is_shown T D_bm
  have P_held := ok_held (P := P) (w := w) (base := base) at_Far_held T
  have M_take := ok_far_take (P := P) (w := w) (base := base) at_Far_take T M_sh D_ex R_mis
  have D_ls := ok_lshown (P := P) (w := w) (base := base) at_law_is_shown T
  have D_heard := ok_heard at_law_heard T M_take
  exact ok_law at_law T D_box D_take D_pick D_ls D_heard M_word M_far M_far1 P_held
end
end Hg
end L2

open PySem PySem.W PyProof.Rows in
set_option maxRecDepth 100000 in
set_option maxHeartbeats 0 in
theorem PySem.Challenge.cw_heldground_k76_far_ends_alone_holds : PySem.Challenge.rw_heldground_k76_far_ends_alone.Holds := by
  w_on; o_law; k_head; (case hw => w_witness2)
  k_fill
  refine L2.Hg.walk_ofG (l := PySem.Challenge.rw_heldground_k76_far_ends_alone) (n := 63) (k := 7) (x := "_law_script") (sp := L2.Hg.spLaw) rfl (by decide) rfl ⟨rfl, by decide, by decide⟩ (fun w h Y => PySem.W.kIn_of Y) ?F (fun K H a ns hl hS => ⟨a, ns, rfl, hS, hl, fun _ => rfl⟩)
  case F =>
    intro w mg h KX G
    refine' L2.Hg.all_mk KX G ?a_GroundError ?bs_GroundError ?br_GroundError ?bf_GroundError ?a_InvalidWord ?x_InvalidWord ?sa_InvalidWord ?ex_InvalidWord ?ty_InvalidWord ?kc_InvalidWord ?i_InvalidWord ?ti_InvalidWord ?l_InvalidWord ?c_InvalidWord ?k_InvalidWord ?a_Mismatch ?x_Mismatch ?sa_Mismatch ?ex_Mismatch ?ty_Mismatch ?kc_Mismatch ?i_Mismatch ?ti_Mismatch ?l_Mismatch ?c_Mismatch ?k_Mismatch ?xg_Mismatch ?xk_Mismatch ?xd_Mismatch ?xa_Mismatch ?xn_Mismatch ?xt_Mismatch ?xm_Mismatch ?xs_Mismatch ?a_Word ?pg_Word ?hd_Word ?po_Word ?sa_Word ?mk_Word ?kc_Word ?i_Word ?if_Word ?l_Word ?c_Word ?k_Word ?t_Word ?v_Word ?a_Far ?pg_Far ?hd_Far ?po_Far ?sa_Far ?mk_Far ?kc_Far ?i_Far ?if_Far ?l_Far ?c_Far ?k_Far ?t_Far ?v_Far ?i_Far_is_shown ?if_Far_is_shown ?l_Far_is_shown ?c_Far_is_shown ?k_Far_is_shown ?i_Far_take ?if_Far_take ?l_Far_take ?c_Far_take ?k_Far_take ?i_Far_held ?pg_Far_held ?pt_Far_held ?pr_Far_held ?l_Far_held ?c_Far_held ?k_Far_held ?na_aWord_number ?na_aWord_slot ?na_aWord_ground ?na_aWord_keep ?na_aFar_modulus ?na_aFar_had ?a_LAST_SLOT ?z_int ?z_len ?z_abs ?z_repr ?z_range ?z_min ?z_max ?z_bool ?z_isinstance ?z_tuple ?a_law_box ?l_law_box ?c_law_box ?k_law_box ?a_law_take ?l_law_take ?c_law_take ?k_law_take ?a_law_pick ?l_law_pick ?c_law_pick ?k_law_pick ?a_law_is_shown ?l_law_is_shown ?c_law_is_shown ?k_law_is_shown ?a_law_heard ?l_law_heard ?c_law_heard ?k_law_heard ?a_law ?l_law ?c_law ?k_law ?a_is_integer ?l_is_integer ?c_is_integer ?k_is_integer ?a_is_from ?l_is_from ?c_is_from ?k_is_from ?a_is_number ?l_is_number ?c_is_number ?k_is_number ?a_by_modulus ?l_by_modulus ?c_by_modulus ?k_by_modulus ?a_exchanged ?l_exchanged ?c_exchanged ?k_exchanged ?hdG ?tyG ?suG ?hdW ?suW
    (case a_GroundError => k_is)
    (case bs_GroundError => k_is)
    (case br_GroundError => k_is)
    (case bf_GroundError => k_is)
    (case a_InvalidWord => k_is)
    (case x_InvalidWord => k_is)
    (case sa_InvalidWord => k_is)
    (case ex_InvalidWord => k_is)
    (case ty_InvalidWord => k_is)
    (case kc_InvalidWord => k_is)
    (case i_InvalidWord => k_is)
    (case ti_InvalidWord => k_is)
    (case l_InvalidWord => k_is)
    (case c_InvalidWord => k_is)
    (case k_InvalidWord => k_is)
    (case a_Mismatch => k_is)
    (case x_Mismatch => k_is)
    (case sa_Mismatch => k_is)
    (case ex_Mismatch => k_is)
    (case ty_Mismatch => k_is)
    (case kc_Mismatch => k_is)
    (case i_Mismatch => k_is)
    (case ti_Mismatch => k_is)
    (case l_Mismatch => k_is)
    (case c_Mismatch => k_is)
    (case k_Mismatch => k_is)
    (case xg_Mismatch => k_is)
    (case xk_Mismatch => k_is)
    (case xd_Mismatch => k_is)
    (case xa_Mismatch => k_is)
    (case xn_Mismatch => k_is)
    (case xt_Mismatch => k_is)
    (case xm_Mismatch => k_is)
    (case xs_Mismatch => k_is)
    (case a_Word => k_is)
    (case pg_Word => k_is)
    (case hd_Word => k_is)
    (case po_Word => k_is)
    (case sa_Word => k_is)
    (case mk_Word => k_is)
    (case kc_Word => k_is)
    (case i_Word => k_is)
    (case if_Word => k_is)
    (case l_Word => k_is)
    (case c_Word => k_is)
    (case k_Word => k_is)
    (case t_Word => k_is)
    (case v_Word => repeat (first | exact .nil | refine .cons (by first | rfl | exact ⟨_, rfl⟩) ?_))
    (case a_Far => k_is)
    (case pg_Far => k_is)
    (case hd_Far => k_is)
    (case po_Far => k_is)
    (case sa_Far => k_is)
    (case mk_Far => k_is)
    (case kc_Far => k_is)
    (case i_Far => k_is)
    (case if_Far => k_is)
    (case l_Far => k_is)
    (case c_Far => k_is)
    (case k_Far => k_is)
    (case t_Far => k_is)
    (case v_Far => repeat (first | exact .nil | refine .cons (by first | rfl | exact ⟨_, rfl⟩) ?_))
    (case i_Far_is_shown => k_is)
    (case if_Far_is_shown => k_is)
    (case l_Far_is_shown => k_is)
    (case c_Far_is_shown => k_is)
    (case k_Far_is_shown => k_is)
    (case i_Far_take => k_is)
    (case if_Far_take => k_is)
    (case l_Far_take => k_is)
    (case c_Far_take => k_is)
    (case k_Far_take => k_is)
    (case i_Far_held => k_is)
    (case pg_Far_held => k_is)
    (case pt_Far_held => k_is)
    (case pr_Far_held => k_is)
    (case l_Far_held => k_is)
    (case c_Far_held => k_is)
    (case k_Far_held => k_is)
    (case na_aWord_number => k_is)
    (case na_aWord_slot => k_is)
    (case na_aWord_ground => k_is)
    (case na_aWord_keep => k_is)
    (case na_aFar_modulus => k_is)
    (case na_aFar_had => k_is)
    (case a_LAST_SLOT => k_is)
    (case z_int => k_is)
    (case z_len => k_is)
    (case z_abs => k_is)
    (case z_repr => k_is)
    (case z_range => k_is)
    (case z_min => k_is)
    (case z_max => k_is)
    (case z_bool => k_is)
    (case z_isinstance => k_is)
    (case z_tuple => k_is)
    (case a_law_box => k_is)
    (case l_law_box => k_is)
    (case c_law_box => k_is)
    (case k_law_box => k_is)
    (case a_law_take => k_is)
    (case l_law_take => k_is)
    (case c_law_take => k_is)
    (case k_law_take => k_is)
    (case a_law_pick => k_is)
    (case l_law_pick => k_is)
    (case c_law_pick => k_is)
    (case k_law_pick => k_is)
    (case a_law_is_shown => k_is)
    (case l_law_is_shown => k_is)
    (case c_law_is_shown => k_is)
    (case k_law_is_shown => k_is)
    (case a_law_heard => k_is)
    (case l_law_heard => k_is)
    (case c_law_heard => k_is)
    (case k_law_heard => k_is)
    (case a_law => k_is)
    (case l_law => k_is)
    (case c_law => k_is)
    (case k_law => k_is)
    (case a_is_integer => k_is)
    (case l_is_integer => k_is)
    (case c_is_integer => k_is)
    (case k_is_integer => k_is)
    (case a_is_from => k_is)
    (case l_is_from => k_is)
    (case c_is_from => k_is)
    (case k_is_from => k_is)
    (case a_is_number => k_is)
    (case l_is_number => k_is)
    (case c_is_number => k_is)
    (case k_is_number => k_is)
    (case a_by_modulus => k_is)
    (case l_by_modulus => k_is)
    (case c_by_modulus => k_is)
    (case k_by_modulus => k_is)
    (case a_exchanged => k_is)
    (case l_exchanged => k_is)
    (case c_exchanged => k_is)
    (case k_exchanged => k_is)
    (case hdG => k_is)
    (case tyG => k_is)
    (case suG => k_is)
    (case hdW => k_is)
    (case suW => k_is)
