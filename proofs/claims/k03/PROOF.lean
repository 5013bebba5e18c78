import PyProof.Rows.All
import Wide.All
import OpenK.AllK
import Wide.FinOn
import HandS.ForMost
import HandS.ForExc
import HandS.ExcInit
import HandS.IsInst
import HandS.ExcIs
import PyProof.Rows.NestShow
import HandS.Wide
import HandS.Steps
import HandS.Defaults
import PyProof.ReprLen
import PyProof.FitsInt
import HandS.Property
import HandS.TupMul
import HandS.Star
import HandS.CallSlots
import HandS.Style
import HandS.Walk
import HandS.ExcField
import HandS.DictComp
import HandS.SortInts
import PySem.Challenge.RW_heldground_k03_sets_refused
section
set_option Elab.async false
set_option linter.all false
set_option maxRecDepth 100000
set_option maxHeartbeats 4000000
/-! Own errors of the package: the base's `__init__` called by the class's name, an error without arguments, an error with one field. -/
namespace L2
namespace Hg
open PySem PySem.Spec PyProof.Rows

/-- the base class at G has ValueError's own `__init__` -/
structure BaseInit (K : PySem.W.Frag) (G : Addr) : Prop where
  sp : PySem.W.specialIn K (.ref G) "__getattribute__" = some (some (.builtin "type.__getattribute__"))
  rd : PySem.W.readsIn K G (.type "type") = true
  fc : PySem.W.findCls K (.ref G) (.type "type") "__init__" = some (.val (.builtin "ValueError.__init__"))

section
variable {X : Cx} {e : Expr} {es : List Expr} {ta : TA} {p p1 p2 pos : Pos} {G C fI : Addr} {g x : Str}
theorem pe_ginit {pl : Sem Bool} (hg : Gl X g) (hm : X.mg g = some (.ref G)) (B : BaseInit X.K G) (ha : PA X (e :: es) ta)
    (hdb : (g == ("__debug__" : Str)) = false := by decide)
    (hc : eval (.Call (.Attribute (.Name g p1) "__init__" p2) (e :: es) [] pos) X.env = (do
      let ov ← eval (.Name g p1) X.env
      standAt p2.atName
      let (f, first) ← holding [ov] (getMethod ov "__init__" pl)
      callWith pos f first (backTo pos (starEach (e :: es) X.env)) (backToKw pos (keywordEach [] X.env))) := by rfl)
    (he : starEach (e :: es) X.env = (false, eval e X.env) :: starEach es X.env := by rfl)
    (hpl : (backTo pos (starEach es X.env)).any (·.1) = false := by rfl) :
    PE X (.Call (.Attribute (.Name g p1) "__init__" p2) (e :: es) [] pos) (tVeI X.K ta) := by
  refine ⟨fun pins s σ H Q I h => ?_⟩
  refine PySem.W.methodCall_KW (ld_glob I hg hm ?_ hdb) hc
  refine PySem.W.method_cls I.kIn B.sp (PySem.W.cls_value I.kIn B.rd B.fc (by decide +kernel) ?_)
  show wpAny _ _ (callWith pos (Value.builtin "ValueError.__init__") [] (backTo pos (starEach (e :: es) X.env)) []) _ _ _
  refine PyProof.Rows.callWith_method1 (thn (ha.run pos pins _ σ H _ (I.tok _) h) fun us s1 hq => ?_) he hpl
  obtain ⟨vs, H1, I1, r1, a, C, ws, ev, hl, T, ea, q⟩ := hq
  subst ev
  cases r1 with
  | @cons _ u0 _ ur ra rr =>
    obtain rfl : u0 = Value.ref a := ra
    have hz : ur.length ≤ sizeLine := by
      rw [← Paired.length rr, sizeLine_eq]; omega
    exact oinit_ok T I1 ea hz fun s' J => ⟨.non, H1, J, rfl, q⟩

/-- C(), the class's own `__init__` stores nothing -/
def tMkN (C : Addr) (sp : Sp) : St → Hp → XK → Prop := fun σ H Q => ∀ a, H a = none →
  sp [.ref a] (upd H a (exo a C none)) (fun v H2 => v = .non ∧ H2 a = some (exo a C none) ∧ Q (.ref C) none (del H2 a)) (fun _ _ _ => False)

theorem upd_del {H : Hp} {a : Addr} {o : HO} (h : H a = none) : del (upd H a o) a = H := by
  funext b
  unfold del
  by_cases hb : b = a
  · subst hb; rw [if_pos rfl, h]
  · rw [if_neg hb, upd_ne hb]

theorem mk_endN {pins : List (Addr × Obj)} {σ : St} {H1 H2 : Hp} {Q : XK} {hp hp2 h2 : Heap} {g1 g2 : Array GenState} {d1 d2 : Drawn} {t1 t2 : Nat} {os1 os2 : OsState} {a : Addr}
    (T : Raises X (.ref C)) (I1 : Inv X pins σ H1 ⟨hp, g1, d1, t1, os1⟩) (ha : hp.objs.size ≤ a)
    (k : ∀ b o, hp.get? b = some o → hp2.get? b = some o)
    (un : Un (frs X.stack) [] (upd H1 a (exo a C none)) H2 hp2 h2) (hok : HOk X.prog X.w H2 h2) (ho : os2 = os1) (hb : AllBare g2)
    (ea : H2 a = some (exo a C none)) (q : Q (.ref C) none (del H2 a)) : MkP X pins σ Q (.ref a) ⟨h2, g2, d2, t2, os2⟩ := by
  obtain ⟨t0, hoe⟩ := exo_at hok ea
  have hn : H1 a = none := I1.hok.fresh ha
  obtain ⟨Gh, gA, gB⟩ := restrict h2 fun b => decide (b ≠ a)
  have gk : ∀ b, b ≠ a → Gh.get? b = h2.get? b := fun b hb => gA b (decide_eq_true hb)
  have ge : Gh.get? a = none := gB a (by simp)
  have nha : ∀ {b : Addr} {o : Obj}, hp.get? b = some o → b ≠ a := fun {b o} z =>
    Nat.ne_of_lt (Nat.lt_of_lt_of_le (Heap.lt_size z) ha)
  have up : ∀ {b : Addr}, b ≠ a → H1 b = none → upd H1 a (exo a C none) b = none := fun {b} hb n => by
    rw [upd_ne hb]; exact n
  have U : Un (frs X.stack) [] H1 (del H2 a) hp Gh :=
    { keep := fun b o z n hf hx => by
        rw [gk b (nha z)]
        exact un.keep b o (k b o z) (up (nha z) n) hf hx
      slot := fun b o z n hf hx => by
        rw [gk b (nha z)]
        exact un.slot b o (k b o z) (up (nha z) n) hf hx
      free := fun b o z n hx => by
        rw [del_ne (nha z)]
        exact un.free b o (k b o z) (up (nha z) n) hx
      there := fun b o z hx => by
        rw [gk b (nha z)]
        exact un.there b o (k b o z) hx
      tups := fun b xs z => by
        rw [del_ne (ne_of_none z hn)]
        exact un.tups b xs ((upd_ne (ne_of_none z hn)).trans z)
      frzs := fun b o v z => by
        rw [del_ne (ne_of_none z hn)]
        exact un.frzs b o v ((upd_ne (ne_of_none z hn)).trans z)
      tbls := fun b ps z => by
        rw [del_ne (ne_of_none z hn)]
        exact un.tbls b ps ((upd_ne (ne_of_none z hn)).trans z) }
  have hok3 : HOk X.prog X.w (del H2 a) Gh := fun b o z => by
    have hba : b ≠ a := fun w => by rw [w, del_same] at z; cases z
    rw [del_ne hba] at z
    have noa : ∀ {c : Addr}, H2 c = some (.own b) → c ≠ a := fun {c} hc => at_ne ea hc exo_own
    refine (hok b o z).stay (fun c v hc y => ?_) (fun c hc => ?_) (fun c xs hc => ?_)
    · have hca : c ≠ a := by
        rcases hc with hc | hc
        · rw [hc]; exact hba
        · exact noa hc
      rw [gk c hca]; exact y
    · rw [del_ne (noa hc)]; exact hc
    · rw [del_ne (at_ne ea hc exo_tup)]; exact hc
  have J : Inv X pins σ (del H2 a) ⟨Gh, g2, d2, t2, os2⟩ := I1.call' (ch := []) ho U hok3 hb fun b z => absurd z (by simp)
  refine ⟨a, _, _, ⟨Gh, g2, d2, t2, os2⟩, _, .ref C, none, rfl, J, fun b o z => ?_, ge, hoe, ⟨rfl, rfl⟩, rfl, rfl, del_same, rfl, hb, T, q⟩
  by_cases hba : b = a
  · rw [hba] at z
    have z' : Gh.get? a = some o := z
    rw [ge] at z'; cases z'
  · exact (gk b hba).symm.trans z

theorem pmk_oexN {CX : CXT} {k : Nat} {fd : FuncData} {ps : List Str} {sp : Sp} (T : OexC X.K C)
    (iC : PySem.W.findIn X.K (.ref C) "__init__" = some (some (.ref fI))) (tI : PySem.W.typeIn X.K (.ref fI) = some (.type "function"))
    (F1 : FnOk X.prog X.w X.K X.mg X.base CX k fI fd ps sp) (hr : Room (k + 1) X.A) (hb : Binds X.K fd ps [])
    (hx : Passes CX X (fun _ _ _ => False)) (hg : Gl X x) (hm : X.mg x = some (.ref C))
    (hdb : (x == ("__debug__" : Str)) = false := by decide) : PMk X (.Call (.Name x p) [] [] pos) (tMkN C sp) := by
  intro pins s σ H Q I h
  obtain ⟨nm, q, N, bs, bm, sn, sub, ab, col, dd, k0, k1, k2, k3, k5, hC, hbm⟩ := T.cls
  refine wpAny_Call_Name_kw (ld_glob I hg hm ?_ hdb)
  refine PySem.W.callWith_K0 I.kIn T.kC ?_
  show wpAny _ _ (call (.ref C) []) _ _ _
  obtain ⟨hp, gs, dr, tk, os⟩ := s
  have hsz : hp.objs.size ≤ hp.objs.size + 1 := Nat.le_succ _
  have hn : H (hp.objs.size + 1) = none := I.hok.fresh hsz
  have hq := h (hp.objs.size + 1) hn
  have kk : ∀ b o, hp.get? b = some o → ((hp.push (PySem.W.kdv_tup [])).push (PySem.HandSPX.excO C hp.objs.size)).get? b = some o :=
    fun b o z => Heap.get?_push_of_some _ (Heap.get?_push_of_some _ z)
  have hget : ((hp.push (PySem.W.kdv_tup [])).push (PySem.HandSPX.excO C hp.objs.size)).get? (hp.objs.size + 1) = some (PySem.HandSPX.excO C hp.objs.size) := by heap_get
  have I2 : Inv X pins σ (upd H (hp.objs.size + 1) (exo (hp.objs.size + 1) C none)) ⟨(hp.push (PySem.W.kdv_tup [])).push (PySem.HandSPX.excO C hp.objs.size), gs, dr, tk, os⟩ :=
    I.laid (t' := tk) (a := hp.objs.size + 1) (o := exo (hp.objs.size + 1) C none) (h' := (hp.push (PySem.W.kdv_tup [])).push (PySem.HandSPX.excO C hp.objs.size)) kk hsz (exo_ok hget)
  have r2 : Vals [V.ref (hp.objs.size + 1)] [Value.ref (hp.objs.size + 1)] := .cons rfl .nil
  have hl : ([Value.ref (hp.objs.size + 1)] ++ []).length = ps.length := by
    have z := r2.length
    rw [F1.len _ _ _ _ hq] at z
    exact z.symm
  refine wpAny_call (PySem.HandSPX.call_own F.excBase_ValueError (fun Y => PySem.HandSPX.refsVE_contains Y bm hbm) (I.kIn _ _ hC) (PySem.W.looks_findIn I.kIn iC) (fun self => PySem.W.bind_fn I.kIn self tI) (Nat.zero_le _)
    (codeAny_mono (F1.run _ X.stack _ _ ⟨[Value.ref (hp.objs.size + 1)], []⟩ [Value.ref (hp.objs.size + 1)] _ _ (fun _ _ _ => False) (hr.make C [] []) (I2.env0.make C [] []) (hb _ [Value.ref (hp.objs.size + 1)] I2.kIn hl) r2 hq) fun r s' hq' => ?_))
  cases r with
  | error er => exact hx pins σ _ _ er s' I2 hq'
  | ok fl =>
    cases fl with
    | ret u =>
      obtain ⟨v, H2, os2, bare2, un2, hok2, rv, ev, ea, q2⟩ := hq'
      subst ev
      obtain ⟨h2, g2, d2, t2, os'⟩ := s'
      exact ⟨rv, mk_endN (raises_own T.exC T.tyC) I hsz kk un2 hok2 os2 bare2 ea q2⟩
    | next => exact False.elim hq'
    | brk => exact False.elim hq'
    | cont => exact False.elim hq'
end

/-! ### promises of the errors' `__init__` -/
/-- no field -/
def spInitN (K : PySem.W.Frag) (C : Addr) : Sp := fun vs H Q _ => ∃ a, vs = [.ref a] ∧ OexC K C ∧ H a = some (exo a C none) ∧ Q .non H
/-- one field f -/
def spInitF (K : PySem.W.Frag) (C : Addr) (f : Str) : Sp := fun vs H Q _ => ∃ a x, vs = [.ref a, x] ∧ OexC K C ∧ PySem.W.findIn K (.ref C) f = some none ∧ H a = some (exo a C none) ∧
  ∀ dx, H dx = none → dx ≠ a → Q .non (upd (upd H dx (exd dx [(f, x)])) a (exo a C (some dx)))
theorem upd_three {H : Hp} {a d : Addr} {o1 o2 o3 o4 : HO} (h : H a = none) (hd : d ≠ a) : upd (del (upd (upd (upd H a o1) d o2) a o3) a) d o4 = upd H d o4 := by
  funext b
  by_cases hb : b = d
  · subst hb; rw [upd_same, upd_same]
  · rw [upd_ne hb, upd_ne hb]
    by_cases hba : b = a
    · subst hba; rw [del_same, h]
    · rw [del_ne hba, upd_ne hba, upd_ne hb, upd_ne hba]
section
variable {K : PySem.W.Frag} {C : Addr} {f : Str} {σ : St} {H : Hp} {Q : XK}
/-- C() read -/
theorem r_mkN (T : OexC K C) (k : Q (.ref C) none H) : tMkN C (spInitN K C) σ H Q := by
  intro a ha
  refine ⟨a, rfl, T, upd_same, rfl, upd_same, ?_⟩
  rw [upd_del ha]
  exact k
/-- C(x) read -/
theorem r_mkF {x : V} {ta : TA} (T : OexC K C) (hf : PySem.W.findIn K (.ref C) f = some none)
    (h : ta σ H fun vs H1 => ∃ x, vs = [x] ∧ ∀ d, H1 d = none → Q (.ref C) (some d) (upd H1 d (.xd [(f, x)])))
    (mono : ∀ {P P' : List V → Hp → Prop}, (∀ vs H, P vs H → P' vs H) → ta σ H P → ta σ H P') : tMkO C (spInitF K C f) [] ta σ H Q := by
  refine mono (fun vs H1 hq => ?_) h
  obtain ⟨x, rfl, q⟩ := hq
  refine ⟨(by show 1 ≤ 1000; decide), fun a ha => ?_⟩
  refine ⟨a, x, rfl, T, hf, upd_same, fun dx hdx ne => ⟨rfl, dx, [(f, x)], upd_same, ?_, ?_, ?_⟩⟩
  · rw [upd_ne ne, upd_same]
  · rw [upd_ne ne] at hdx; exact hdx
  · rw [upd_three ha ne]
    rw [upd_ne ne] at hdx
    exact q dx hdx
end
end Hg
end L2
end

section
set_option Elab.async false
set_option linter.all false
set_option maxRecDepth 100000
set_option maxHeartbeats 4000000
/-! Promises that hold where no repr is under way (guards empty), and repr of data. -/
namespace L2
namespace Hg
open PySem PySem.Spec PyProof.Rows

/-- a def's promise, asked where no guard is set -/
structure FnG (P : Program) (w : World) (K : PySem.W.Frag) (mg : Str → Option Value) (base : Heap) (CX : CXT) (k : Nat) (f : Addr) (fd : FuncData) (ps : List Str) (sp : Sp) : Prop where
  len : ∀ vs H Q E, sp vs H Q E → vs.length = ps.length
  run : ∀ (A : Around) (outer : List Env) (s : Shared) (H : Hp) (args : Args) (us : List Value) (vs : List V) (Q : VK) (E : XK),
    A.guards = some [] → Room k A → Env0 P w K mg base A outer s H → BindsTo s fd args (ps.zip us) → Vals vs us → sp vs H Q E →
    codeAny (model P w) A (.call (.ref f) args) (CR CX outer P w H s Q E) s

section
variable {P : Program} {w : World} {K : PySem.W.Frag} {mg : Str → Option Value} {base : Heap} {CX : CXT} {j k : Nat} {f : Addr} {fd : FuncData} {ps : List Str} {sp : Sp}
theorem _root_.L2.FnOk.g (F : FnOk P w K mg base CX k f fd ps sp) : FnG P w K mg base CX k f fd ps sp :=
  ⟨F.len, fun A outer s H args us vs Q E _ => F.run A outer s H args us vs Q E⟩

theorem fn_ofG {name qual : Str} {params : Arguments} {body : List Stmt} {scope : Scope} {dV kV doc pm cdv ct oc : Value} {an od : Option Addr}
    {osl : Array (Option Value)} {N : List Str} (lk : K.lookup f = some ⟨oc, od, .func (PySem.W.fnOf name qual params body scope dV kV doc pm an cdv ct), osl⟩)
    (hcd : PySem.W.codeIn K cdv qual = true) (S : FnScope N ps scope)
    (len : ∀ vs H Q E, sp vs H Q E → vs.length = ps.length)
    (hbody : ∀ (A : Around) (outer : List Env) (s : Shared) (H : Hp) (vs : List V) (Q : VK) (E : XK), A.guards = some [] →
      Room k (A.deeper (envOfC qual scope s.heap.objs.size f cdv)) → sp vs H Q E →
      ∃ t, PSs (cxOf CX P w K mg base N qual scope f cdv A outer s H E) body t ∧ t { nx := fun _ H' => Q .non H', rt := Q } (start N vs) H) :
    FnG P w K mg base CX (k + 1) f (PySem.W.fnOf name qual params body scope dV kV doc pm an cdv ct) ps sp := by
  constructor
  · exact len
  intro A outer s H args us vs Q E hgd hr e0 hb r hsp
  have hl := len _ _ _ _ hsp
  have old : ∀ b o, base.get? b = some o → s.heap.get? b = some o := fun b o z => (e0.bs b o z).1
  have KX : K.In s.heap := e0.mod.kin.keeps old
  have lim : s.heap.NoLimit := e0.mod.nolimit.keeps old
  have hkind : ∀ y ∈ ps.zip us, scope.names.lookup y.1 = some .local ∨
      (scope.names.lookup y.1 = some .cell ∧ ((cellsFrom (s.heap.objs.size + 1) scope.names []).lookup y.1).isSome = true) := by
    rintro ⟨n, v⟩ hy
    rcases S.par n (List.of_mem_zip hy).1 with q | q
    · exact Or.inl q
    · exact Or.inr ⟨q, PySem.W.cellsFrom_some _ _ _ (.inl q)⟩
  refine codeAny_call_function hr.depth (KX _ _ lk) rfl S.co S.gen rfl (PySem.W.codeRec_of KX hcd) (hb _ _ _ _ ?_)
  refine wpAny_newFunctionEnv_cells S.kind hkind fun env he s1 x => ?_
  subst he
  refine ⟨lim.keeps x.toInCall.keep, codeAny_func ?_⟩
  obtain ⟨t, ht, hq⟩ := hbody A outer s H vs Q E hgd (hr.deeper _) hsp
  have I : Inv (cxOf CX P w K mg base N qual scope f cdv A outer s H E) [] (start N vs) H s1 := inv_start S hr.hd e0 hl r x
  have fin : ∀ {s' : Shared} {σ' : St} {H' : Hp} {v : V} {u : Value}, Inv (cxOf CX P w K mg base N qual scope f cdv A outer s H E) [] σ' H' s' →
      RelV v u → Q v H' → CE outer P w H s Q u s' := fun J rv q => ⟨_, _, J.os, J.bare, J.base, J.hok, rv, q⟩
  refine wpAny_mono (ht.run [] s1 (start N vs) H _ I hq) (fun fl s' hs => ?_) fun e s' hs => hs
  cases fl with
  | ret u =>
    obtain ⟨v, σ', H', J, rv, q⟩ := hs
    exact fin J rv q
  | next =>
    obtain ⟨σ', H', J, q⟩ := hs
    exact fin (v := V.non) (u := Value.none) J rfl q
  | brk =>
    obtain ⟨_, _, _, q⟩ := hs
    cases q
  | cont =>
    obtain ⟨_, _, _, q⟩ := hs
    cases q

/-- a def of the text, by its body; no error leaves it -/
theorem okG {x qual : Str} {st : Stmt} {N : List Str} (F : Fun K x qual st f fd) (S : FnScope N ps (defScope st)) (len : ∀ vs H Q E, sp vs H Q E → vs.length = ps.length)
    (hbody : ∀ (cdv : Value) (A : Around) (outer : List Env) (s : Shared) (H : Hp) (vs : List V) (Q : VK) (E : XK), A.guards = some [] →
      Room k (A.deeper (envOfC qual (defScope st) s.heap.objs.size f cdv)) → sp vs H Q E →
      ∃ t, PSs (cxOf CX0 P w K mg base N qual (defScope st) f cdv A outer s H E).nox (defBody st) t ∧ t { nx := fun _ H' => Q .non H', rt := Q } (start N vs) H) :
    FnG P w K mg base CX0 (k + 1) f fd ps sp := by
  obtain ⟨oc, od, kV, doc, pm, an, cdv, ct, osl, rfl, lk, hcd⟩ := F.ex
  refine fn_ofG lk hcd S len fun A outer s H vs Q E hg hr hsp => ?_
  obtain ⟨t, h, q⟩ := hbody cdv A outer s H vs Q E hg hr hsp
  exact ⟨t, h.nox, q⟩
end

section
variable {X : Cx} {CX : CXT} {k : Nat} {f C : Addr} {fd : FuncData} {ps : List Str} {sp : Sp} {dvs : List V} {ds : List Value} {E : XK} {x m : Str} {p pos apos : Pos} {e o : Expr} {es : List Expr} {ta : TE} {t : TA}
theorem run_fnG {pins : List (Addr × Obj)} {σ : St} {H : Hp} {s : Shared} {Q : VK} {us : List Value} {vs : List V} (F : FnG X.prog X.w X.K X.mg X.base CX k f fd ps sp)
    (hg : X.A.guards = some []) (hr : Room k X.A) (hb : Binds X.K fd ps ds) (hd : Vals dvs ds) (hx : Passes CX X E)
    (I : Inv X pins σ H s) (r : Vals vs us) (h : sp (vs ++ dvs) H Q E) : wpAny (model X.prog X.w) X.A (call (.ref f) us) (EP X pins σ Q) X.xe s := by
  have r2 : Vals (vs ++ dvs) (us ++ ds) := r.append hd
  have hl : (us ++ ds).length = ps.length := by
    rw [← r2.length]
    exact F.len _ _ _ _ h
  have main := F.run X.A X.stack s H ⟨us, []⟩ (us ++ ds) (vs ++ dvs) Q E hg hr I.env0 (hb s us I.kIn hl) r2 h
  refine wpAny_call (codeAny_mono main fun r s' hq => ?_)
  cases r with
  | error er => exact hx pins σ H s er s' I hq
  | ok fl =>
    cases fl with
    | ret u => exact I.after hq
    | next => exact False.elim hq
    | brk => exact False.elim hq
    | cont => exact False.elim hq
theorem pe_callG (F : FnG X.prog X.w X.K X.mg X.base CX k f fd ps sp) (hgd : X.A.guards = some []) (hr : Room k X.A) (hg : Gl X x) (hm : X.mg x = some (.ref f)) (hk : PySem.W.keepIn X.K (.ref f) = true)
    (hb : Binds X.K fd ps ds) (hd : Vals dvs ds) (hx : Passes CX X E) (ha : PA X (e :: es) t) (hdb : (x == ("__debug__" : Str)) = false := by decide)
    (he : starEach (e :: es) X.env = (false, eval e X.env) :: starEach es X.env := by rfl) (hpl : (backTo pos (starEach es X.env)).any (·.1) = false := by rfl) :
    PE X (.Call (.Name x p) (e :: es) [] pos) (tCall sp dvs E t) := by
  refine ⟨fun pins s σ H Q I h => wpAny_Call_Name_kw (ld_glob I hg hm ?_ hdb)⟩
  exact PySem.W.callWith_K (h₀ := X.base) I.ok.mod.kin hk (thn (ha.run pos pins s σ H _ I h) fun us s1 ⟨vs, H1, I1, r, q⟩ => ⟨I1.kIn, run_fnG F hgd hr hb hd hx I1 r q⟩) he hpl
theorem pe_callG0 (F : FnG X.prog X.w X.K X.mg X.base CX k f fd ps sp) (hgd : X.A.guards = some []) (hr : Room k X.A) (hg : Gl X x) (hm : X.mg x = some (.ref f)) (hk : PySem.W.keepIn X.K (.ref f) = true)
    (hb : Binds X.K fd ps ds) (hd : Vals dvs ds) (hx : Passes CX X E) (hdb : (x == ("__debug__" : Str)) = false := by decide) : PE X (.Call (.Name x p) [] [] pos) (tCall sp dvs E tNil) := by
  refine ⟨fun pins s σ H Q I h => wpAny_Call_Name_kw (ld_glob I hg hm ?_ hdb)⟩
  exact PySem.W.callWith_K0 I.kIn hk (run_fnG (us := []) F hgd hr hb hd hx I .nil h)

/-- repr of data -/
def rRepr (K : PySem.W.Frag) : List V → Hp → VK → Prop := fun vs H Q => ∃ x d, vs = [x] ∧ Dp K H x d ∧ d.showable = true ∧ d.hasDict = false ∧ d.depth ≤ 60 ∧ d.shown.length ≤ sizeLine ∧ Q (.str d.shown) H
theorem call_repr (hgd : X.A.guards = some []) (hr : X.A.units + 64 < cLine) : CallR X (.builtin "repr") (rRepr X.K) := by
  intro pins s σ H vs us Q I r h
  obtain ⟨x, d, rfl, hd, hs, hn, hz, hl, q⟩ := h
  obtain ⟨u, rfl, rx⟩ := vals1 r
  obtain ⟨as, rd⟩ := Dp.reads I d x u hd rx
  cases d with
  | none => cases rd; exact PySem.P.repr_of_none ⟨.str _, H, I.tok _, ⟨_, rfl⟩, q⟩
  | bool b => cases rd; exact PySem.P.repr_of_bool ⟨.str _, H, I.tok _, ⟨_, rfl⟩, q⟩
  | int i => cases rd; exact PySem.P.repr_of_int (by simpa [PyData.showable] using hs) ⟨.str _, H, I.tok _, ⟨_, rfl⟩, q⟩
  | str y => cases rd; exact PySem.P.repr_of_str ⟨.str _, H, I.tok _, ⟨_, rfl⟩, q⟩ hl
  | list xs =>
    have hh := hd
    cases hh
    cases (show u = Value.ref _ from rx)
    exact repr_of_reads' rd hs (PyData.noDict_hsm hn) hgd (by omega) (fun _ _ z => z) (fun h' u tk hk => ⟨.str _, H, I.kept (t' := tk) hk, ⟨u, rfl⟩, q⟩) hl
  | tuple xs =>
    have hh := hd
    cases hh
    cases (show u = Value.ref _ from rx)
    exact repr_of_reads' rd hs (PyData.noDict_hsm hn) hgd (by omega) (fun _ _ z => z) (fun h' u tk hk => ⟨.str _, H, I.kept (t' := tk) hk, ⟨u, rfl⟩, q⟩) hl
  | dict _ => cases hn
end
end Hg
end L2
end

section
set_option Elab.async false
set_option linter.all false
set_option maxRecDepth 100000
set_option maxHeartbeats 4000000
/-! One rule an operator, for all the kinds that the package uses; readings in steps. -/
namespace L2
namespace Hg
open PySem PySem.Spec PyProof.Rows

/-! ### operators by values -/
def uAddI : R2 := rI0 fun i j => .int (i + j)
def uAddS : R2 := fun x y H Q => ∃ i j, x = .str i ∧ y = .str j ∧ i.length + j.length ≤ sizeLine ∧ Q (.str (i ++ j)) H
def uAdd (K : PySem.W.Frag) : R2 := fun x y H Q => uAddI x y H Q ∨ uAddS x y H Q ∨ rCat x y H Q ∨ rCatT K x y H Q
def uSub : R2 := rI0 fun i j => .int (i - j)
def uMul : R2 := fun x y H Q => rI CMul (fun i j => .int (i * j)) x y H Q ∨ rI CMulW (fun i j => .int (i * j)) x y H Q ∨ rRep x y H Q
def uDiv : R2 := fun x y H Q => rI CDiv (fun i j => .int (i / j)) x y H Q ∨ rI CDivW (fun i j => .int (i / j)) x y H Q
def uMod : R2 := rI (fun _ j => 0 < j) fun i j => .int (i % j)
def uPow : R2 := rI CPow fun i j => .int (i ^ j.toNat)
def uLt : R2 := rI0 fun i j => .bl (decide (i < j))
def uLe : R2 := rI0 fun i j => .bl (decide (i ≤ j))
def uGt : R2 := rI0 fun i j => .bl (decide (j < i))
def uGe : R2 := rI0 fun i j => .bl (decide (j ≤ i))
def uEq (K : PySem.W.Frag) : R2 := fun x y H Q => rEq x y H Q ∨ rEqD K x y H Q
def uNe (K : PySem.W.Frag) : R2 := fun x y H Q => rNe x y H Q ∨ rNeD K x y H Q
def uIn (K : PySem.W.Frag) : R2 := fun x y H Q => rIn K false x y H Q ∨ rInS x y H Q
def uNotIn (K : PySem.W.Frag) : R2 := fun x y H Q => rIn K true x y H Q ∨ rNotInS x y H Q
section
variable {X : Cx}
theorem o_add (K : PySem.W.Frag) (hK : X.K = K := by rfl) : OpR X (binaryOp .Add) (uAdd K) := hK ▸ OpR.or op_add (OpR.or op_add_str (OpR.or op_cat op_catT))
theorem o_sub : OpR X (binaryOp .Sub) uSub := op_sub
theorem o_mul : OpR X (binaryOp .Mult) uMul := OpR.or op_mul (OpR.or op_mulW op_rep)
theorem o_div : OpR X (binaryOp .FloorDiv) uDiv := OpR.or op_fdiv op_fdivW
theorem o_mod : OpR X (binaryOp .Mod) uMod := op_mod
theorem o_pow : OpR X (binaryOp .Pow) uPow := op_pow
theorem o_lt : OpR X (compareOp .Lt) uLt := op_lt
theorem o_le : OpR X (compareOp .LtE) uLe := op_le
theorem o_gt : OpR X (compareOp .Gt) uGt := op_gt
theorem o_ge : OpR X (compareOp .GtE) uGe := op_ge
theorem o_eq (K : PySem.W.Frag) (hu : X.A.units + 64 < cLine) (hK : X.K = K := by rfl) : OpR X (compareOp .Eq) (uEq K) := hK ▸ OpR.or op_eq (op_eqD hu)
theorem o_ne (K : PySem.W.Frag) (hu : X.A.units + 64 < cLine) (hK : X.K = K := by rfl) : OpR X (compareOp .NotEq) (uNe K) := hK ▸ OpR.or op_ne (op_neD hu)
theorem o_in (K : PySem.W.Frag) (hK : X.K = K := by rfl) : OpR X (compareOp .In) (uIn K) := hK ▸ OpR.or op_in_seq op_inS
theorem o_notIn (K : PySem.W.Frag) (hK : X.K = K := by rfl) : OpR X (compareOp .NotIn) (uNotIn K) := hK ▸ OpR.or op_notIn_seq op_notInS
theorem o_is : OpR X (compareOp .Is) rIsN := op_isN1
theorem o_isNot : OpR X (compareOp .IsNot) rNotN := op_notN1
theorem ix_u (K : PySem.W.Frag) (hK : X.K = K := by rfl) : IxR X (rIx K) := hK ▸ ix_seq
end

/-! ### calls of built-ins by values -/
def uLen (K : PySem.W.Frag) : List V → Hp → VK → Prop := fun xs H Q => (∃ x n, xs = [x] ∧ LenV K x H n ∧ Q (.int n) H) ∨ ∃ a kvs, xs = [V.ref a] ∧ H a = some (.dK kvs) ∧ Q (.int kvs.length) H
def uAbs : List V → Hp → VK → Prop := fun xs H Q => ∃ i, xs = [.int i] ∧ Q (.int (if i < 0 then -i else i)) H
def uMin2 : List V → Hp → VK → Prop := fun xs H Q => ∃ i j, xs = [.int i, .int j] ∧ Q (.int (if j < i then j else i)) H
def uMax2 : List V → Hp → VK → Prop := fun xs H Q => ∃ i j, xs = [.int i, .int j] ∧ Q (.int (if j > i then j else i)) H
def uInt : List V → Hp → VK → Prop := fun xs H Q => ((∃ i, xs = [.int i] ∧ Q (.int i) H) ∨ ∃ k, xs = [.bl k] ∧ Q (.int (if k then 1 else 0)) H) ∨ ∃ a n, xs = [.str a] ∧ PySem.intText? a = some n ∧ a.length ≤ 640 ∧ Q (.int n) H
def uList (K : PySem.W.Frag) : List V → Hp → VK → Prop := fun xs H Q => ∃ p ys, xs = [.ref p] ∧ (SqL K H p ys ∨ SqT K H p ys) ∧ ∀ l, H l = none → Q (.ref l) (upd H l (.lst ys))
def uTuple (K : PySem.W.Frag) : List V → Hp → VK → Prop := fun xs H Q => ∃ p ys, xs = [.ref p] ∧ ((SqL K H p ys ∧ ∀ l, H l = none → Q (.ref l) (upd H l (.tup ys))) ∨ (SqT K H p ys ∧ Q (.ref p) H))
section
variable {X : Cx}
theorem c_len (K : PySem.W.Frag) (hK : X.K = K := by rfl) : CallR X (.builtin "len") (uLen K) := hK ▸ CallR.or call_len call_lenD
theorem c_abs : CallR X (.builtin "abs") uAbs := call_abs
theorem c_min2 (hc : X.calm = true) : CallR X (.builtin "min") uMin2 := call_min2 hc
theorem c_max2 (hc : X.calm = true) : CallR X (.builtin "max") uMax2 := call_max2 hc
theorem c_int : CallR X (.type "int") uInt := CallR.or call_int1 call_int_str
theorem c_list (K : PySem.W.Frag) (hK : X.K = K := by rfl) : CallR X (.type "list") (uList K) := hK ▸ call_list_of
theorem c_tuple (K : PySem.W.Frag) (hK : X.K = K := by rfl) : CallR X (.type "tuple") (uTuple K) := hK ▸ call_tuple_of
theorem c_isi (K : PySem.W.Frag) (hK : X.K = K := by rfl) : CallR X (.builtin "isinstance") (rIsi K) := hK ▸ call_isi
theorem c_isiT (K : PySem.W.Frag) (hK : X.K = K := by rfl) : CallR X (.builtin "isinstance") (rIsiT K) := hK ▸ call_isiT
theorem c_repr (K : PySem.W.Frag) (hgd : X.A.guards = some []) (hr : X.A.units + 64 < cLine) (hK : X.K = K := by rfl) : CallR X (.builtin "repr") (rRepr K) := hK ▸ call_repr hgd hr
theorem c_sum (K : PySem.W.Frag) (hc : X.calm = true) (hK : X.K = K := by rfl) : CallR X (.builtin "sum") (rSum K) := hK ▸ cr_sum hc
theorem c_all (K : PySem.W.Frag) (hc : X.calm = true) (hK : X.K = K := by rfl) : CallR X (.builtin "all") (rAll K) := hK ▸ cr_all hc
theorem c_any (K : PySem.W.Frag) (hc : X.calm = true) (hK : X.K = K := by rfl) : CallR X (.builtin "any") (rAny K) := hK ▸ cr_any hc
end

/-! ### names of the module -/
section
variable {X : Cx} {x : Str} {pos : Pos}
theorem pe_gI {i : Int} (hg : Gl X x) (hm : ∃ t, X.mg x = some (.int i t)) (hd : (x == ("__debug__" : Str)) = false := by decide) : PE X (.Name x pos) (tC (.int i)) :=
  let ⟨_, h⟩ := hm
  pe_glob hg h ⟨_, rfl⟩ hd
theorem pe_gS {z : Str} (hg : Gl X x) (hm : ∃ t, X.mg x = some (.str z t)) (hd : (x == ("__debug__" : Str)) = false := by decide) : PE X (.Name x pos) (tC (.str z)) :=
  let ⟨_, h⟩ := hm
  pe_glob hg h ⟨_, rfl⟩ hd
theorem pe_gR {a : Addr} (hg : Gl X x) (hm : X.mg x = some (.ref a)) (hd : (x == ("__debug__" : Str)) = false := by decide) : PE X (.Name x pos) (tC (.ref a)) :=
  pe_glob hg hm rfl hd
theorem pe_bT {T : String} (hg : Gl X x) (hm : X.mg x = none) (hv : bootBuiltins x = some (.type T)) (hn : x ≠ "__name__" := by decide) (hd : (x == ("__debug__" : Str)) = false := by decide) : PE X (.Name x pos) (tC (.ty T)) :=
  pe_bltn hg hm hv rfl hn hd
end

/-! ### the written part by its name -/
section
variable {X : Cx} {a : Expr} {ta : TE} {K : PySem.W.Frag}
theorem pt_tr (K : PySem.W.Frag) (ha : PE X a ta) (he : ∀ whole, isTrue a X.env whole = (do let v ← whole; standAt a.pos; holding [v] (truthy v)) := by intro _; rfl) (hK : X.K = K := by rfl) :
    PT X a (fun σ H Q => ta σ H fun x H' => ∃ k, TruV K x H' k ∧ Q k H') := hK ▸ pt_truth ha he
theorem pe_fl {e : Expr} {f : Str} {pos : Pos} (K : PySem.W.Frag) (ha : PE X e ta) (hb : attributeBase e f X.env (eval e X.env) = eval e X.env := by rfl) (hK : X.K = K := by rfl) : PE X (.Attribute e f pos) (tFld K ta f) := hK ▸ pe_fld ha hb
theorem ps_fl {o value : Expr} {f : Str} {pos' pos : Pos} {tv : TE} (K : PySem.W.Frag) (ho : PE X o ta) (hv : PE X value tv) (hs : swapsWith value (some (.Attribute o f pos')) pos.line X.env = pure false := by rfl) (hK : X.K = K := by rfl) :
    PS X (.Assign [.Attribute o f pos'] value pos) (sFld K ta tv f) := hK ▸ ps_fld ho hv hs
end

section
variable {X : Cx} {tg e : Expr} {t : TE}
theorem pi_l (K : PySem.W.Frag) (ha : PE X e t) (hK : X.K = K := by rfl) : PI X tg e (iList K t) := hK ▸ pi_list ha
theorem pg_l {es : List Expr} {k n : Nat} {t : TGs} {pos : Pos} (K : PySem.W.Frag) (hc : X.calm = true) (h : PGs X es t) (hn : (assignEach es X.env).length = n := by rfl) (hst : (assignEach es X.env).findIdx? (·.1) = none := by rfl) (hK : X.K = K := by rfl) :
    PG X (.Tuple es k pos) (gLst K n t) := hK ▸ pg_lst hc h hn hst
theorem pg_t {es : List Expr} {k n : Nat} {t : TGs} {pos : Pos} (K : PySem.W.Frag) (hc : X.calm = true) (h : PGs X es t) (hn : (assignEach es X.env).length = n := by rfl) (hst : (assignEach es X.env).findIdx? (·.1) = none := by rfl) (hK : X.K = K := by rfl) :
    PG X (.Tuple es k pos) (gTup K n t) := hK ▸ pg_tup hc h hn hst
theorem pi_t (K : PySem.W.Frag) (ha : PE X e t) (hK : X.K = K := by rfl) : PI X tg e (iTup K t) := hK ▸ pi_tup ha
end
/-! ### errors that pass -/
section
variable {X : Cx}
theorem passF {P : Program} {w : World} : Passes (L2.CX P w) X E0 := by
  intro pins σ H s e s' I c
  obtain ⟨a, B, H', cls, d, _, _, _, _, _, _, _, h⟩ := c
  exact h.elim
theorem passT {E : XK} (tk : Takes X (fun cls d _ H => E cls d H)) : Passes (L2.CX X.prog X.w) X E := passes_call tk fun _ _ _ _ z => z
variable {CX : CXT} {k : Nat} {f C : Addr} {fd : FuncData} {ps : List Str} {sp : Sp} {dvs : List V} {ds : List Value} {E : St → XK} {x m : Str} {p pos apos : Pos} {e o : Expr} {es : List Expr} {ta : TE} {t : TA}
/-- C(..) where what is raised is wished at the slots -/
def tMakeS (C : Addr) (sp : Sp) (dvs : List V) (E : St → XK) (t : TA) : TE := fun σ H Q => t σ H fun vs H1 => ∀ x dx, H1 x = none → H1 dx = none → dx ≠ x →
  sp (.ref x :: (vs ++ dvs)) (upd (upd H1 dx (.own x)) x (.ins C dx [])) (fun v H2 => v = .non ∧ Q (.ref x) H2) (E σ)
theorem run_makeS {pins : List (Addr × Obj)} {σ : St} {H : Hp} {s : Shared} {Q : VK} {us : List Value} {vs : List V} (M : Mk X.K C f) (F : FnOk X.prog X.w X.K X.mg X.base CX k f fd ps sp) (hr : Room (k + 1) X.A)
    (hb : Binds X.K fd ps ds) (hd : Vals dvs ds) (hx : PassesAt CX X σ (E σ)) (I : Inv X pins σ H s) (r : Vals vs us)
    (h : ∀ x dx, H x = none → H dx = none → dx ≠ x → sp (.ref x :: (vs ++ dvs)) (upd (upd H dx (.own x)) x (.ins C dx [])) (fun v H2 => v = .non ∧ Q (.ref x) H2) (E σ)) :
    wpAny (model X.prog X.w) X.A (call (.ref C) us) (EP X pins σ Q) X.xe s := by
  have hq := h (s.heap.objs.size + 1) s.heap.objs.size (I.hok.fresh (Nat.le_succ _)) (I.hok.fresh (Nat.le_refl _)) (Nat.ne_of_lt (Nat.lt_succ_self _))
  have I2 := Inv.made (C := C) I
  have r2 : Vals (V.ref (s.heap.objs.size + 1) :: (vs ++ dvs)) (Value.ref (s.heap.objs.size + 1) :: (us ++ ds)) := .cons rfl (r.append hd)
  have hl : (Value.ref (s.heap.objs.size + 1) :: us ++ ds).length = ps.length := by
    have z := r2.length
    rw [F.len _ _ _ _ hq] at z
    exact z.symm
  have main := F.run _ X.stack _ _ ⟨Value.ref (s.heap.objs.size + 1) :: us, []⟩ (Value.ref (s.heap.objs.size + 1) :: (us ++ ds)) _ _ (E σ) (hr.make C us [])
    (I2.env0.make C us []) (hb _ (Value.ref (s.heap.objs.size + 1) :: us) I2.kIn hl) r2 hq
  refine wpAny_call (make_map (f := f) I.kIn M.makes M.init (beq_iff_eq.mp M.fn) (codeAny_mono main fun r s' hq' => ?_))
  cases r with
  | error er => exact hx pins _ _ er s' I2 hq'
  | ok fl =>
    cases fl with
    | ret u =>
      obtain ⟨v, H', I3, rv, ev, q3⟩ := I2.after hq'
      subst ev
      exact ⟨rv, ⟨V.ref (s.heap.objs.size + 1), H', I3, rfl, q3⟩⟩
    | next => exact False.elim hq'
    | brk => exact False.elim hq'
    | cont => exact False.elim hq'
theorem pe_makeS (M : Mk X.K C f) (F : FnOk X.prog X.w X.K X.mg X.base CX k f fd ps sp) (hr : Room (k + 1) X.A) (hg : Gl X x) (hm : X.mg x = some (.ref C)) (hb : Binds X.K fd ps ds) (hd : Vals dvs ds) (hx : ∀ σ, PassesAt CX X σ (E σ))
    (ha : PA X (e :: es) t) (hdb : (x == ("__debug__" : Str)) = false := by decide) (he : starEach (e :: es) X.env = (false, eval e X.env) :: starEach es X.env := by rfl) (hpl : (backTo pos (starEach es X.env)).any (·.1) = false := by rfl) :
    PE X (.Call (.Name x p) (e :: es) [] pos) (tMakeS C sp dvs E t) := by
  refine ⟨fun pins s σ H Q I h => wpAny_Call_Name_kw (ld_glob I hg hm ?_ hdb)⟩
  exact PySem.W.callWith_K (h₀ := X.base) I.ok.mod.kin M.kp (thn (ha.run pos pins s σ H _ I h) fun us s1 ⟨vs, H1, I1, r, q⟩ => ⟨I1.kIn, run_makeS M F hr hb hd (hx σ) I1 r q⟩) he hpl
end
end Hg
end L2
end

section
set_option Elab.async false
set_option linter.all false
set_option maxRecDepth 100000
set_option maxHeartbeats 4000000
/-! Readings, one step each (each is a reading's own definition, turned into a rule to be applied backwards). -/
namespace L2
namespace Hg
open PySem PySem.Spec PyProof.Rows
section
variable {K : PySem.W.Frag} {σ : St} {H : Hp} {Q : VK} {QB : Bool → Hp → Prop} {QL : List V → Hp → Prop} {QS : St → Hp → Prop} {D : Ends} {v x y : V} {i j : Nat} {ta tb tc te : TE} {t u : TT} {tl tr : TA} {ts t1 t2 : TS}
theorem sz {n : Nat} (h : n ≤ 100000) : n ≤ sizeLine := Nat.le_trans h (by decide)
theorem szl {n : Nat} (h : Nat.ble n 100000 = true) : n ≤ sizeLine := sz (Nat.le_of_ble_eq_true h)
theorem szlt {n : Nat} (h : Nat.ble n 100000 = true) : n < sizeLine := Nat.lt_of_le_of_lt (Nat.le_of_ble_eq_true h) (by decide : 100000 < sizeLine)
theorem at_upd {p q : Addr} {o u : HO} (n : q ≠ p) (h : H q = some o) : upd H p u q = some o := (upd_ne n).trans h
theorem free_upd {p q : Addr} {o : HO} (h : upd H p o q = none) : H q = none ∧ q ≠ p := by
  by_cases e : q = p
  · subst e; rw [upd_same] at h; cases h
  · exact ⟨(upd_ne e).symm.trans h, e⟩
/-! ### expressions -/
theorem r_var (h : σ[i]? = some (some v)) (k : Q v H) : tVar i σ H Q := ⟨v, h, k⟩
theorem r_c (k : Q v H) : tC v σ H Q := k
theorem r_op {r : R2} (k : ta σ H fun x H1 => tb σ H1 fun y H2 => r x y H2 Q) : tOp r ta tb σ H Q := k
theorem r_un {r : V → Hp → VK → Prop} (k : ta σ H fun x H1 => r x H1 Q) : tUn r ta σ H Q := k
theorem r_neg {a : Int} (k : Q (.int (-a)) H) : (rU fun i => .int (-i)) (.int a) H Q := ⟨a, rfl, k⟩
theorem r_cb {r : List V → Hp → VK → Prop} (k : tl σ H fun vs H1 => r vs H1 Q) : tCB r tl σ H Q := k
theorem r_nil (k : QL [] H) : tNil σ H QL := k
theorem r_cons (k : ta σ H fun x H1 => tr σ H1 fun xs H2 => QL (x :: xs) H2) : tCons ta tr σ H QL := k
theorem r_call {sp : Sp} {dvs : List V} {E : XK} (k : tl σ H fun vs H1 => sp (vs ++ dvs) H1 Q E) : tCall sp dvs E tl σ H Q := k
theorem r_callS {sp : Sp} {E : St → XK} (k : tl σ H fun vs H1 => sp vs H1 Q (E σ)) : tCallS sp E tl σ H Q := k
theorem r_tup (k : tl σ H fun xs H1 => xs.length ≤ sizeLine ∧ ∀ p, H1 p = none → Q (.ref p) (upd H1 p (.tup xs))) : tTup tl σ H Q := k
theorem r_lst (k : tl σ H fun xs H1 => xs.length ≤ sizeLine ∧ ∀ p, H1 p = none → Q (.ref p) (upd H1 p (.lst xs))) : tLst tl σ H Q := k
theorem r_if (k : t σ H fun c H1 => if c = true then ta σ H1 Q else tb σ H1 Q) : tIf t ta tb σ H Q := k
theorem r_test (k : te σ H fun x H' => ∃ c, x = .bl c ∧ QB c H') : tTest te σ H QB := k
theorem r_B (k : te σ H fun x H' => ∃ c, x = .bl c ∧ QB c H') : tB te σ H QB := k
theorem r_bl {b : Bool} {R : Bool → Prop} (k : R b) : ∃ c, V.bl b = .bl c ∧ R c := ⟨b, rfl, k⟩
theorem r_tru {b : Bool} {R : Bool → Prop} (k : R b) : ∃ c, TruV K (.bl b) H c ∧ R c := ⟨b, rfl, k⟩
theorem r_and (k : t σ H fun c H1 => if c = true then u σ H1 QB else QB false H1) : tAnd t u σ H QB := k
theorem r_or (k : t σ H fun c H1 => if c = true then QB true H1 else u σ H1 QB) : tOr t u σ H QB := k
theorem r_not (k : t σ H fun c H1 => QB (!c) H1) : tNot t σ H QB := k
theorem r_andV (k : ta σ H fun x H1 => ∃ c, x = .bl c ∧ if c = true then tb σ H1 Q else Q (.bl false) H1) : tAndV ta tb σ H Q := k
theorem r_orV (k : ta σ H fun x H1 => ∃ c, x = .bl c ∧ if c = true then Q (.bl true) H1 else tb σ H1 Q) : tOrV ta tb σ H Q := k
theorem r_notV (k : ta σ H fun x H1 => ∃ c, x = .bl c ∧ Q (.bl (!c)) H1) : tNotV ta σ H Q := k
theorem r_chain {r r' : R2} (k : ta σ H fun x H1 => tb σ H1 fun y H2 => r x y H2 fun z H3 => ∃ c, z = .bl c ∧ (if c = true then tc σ H3 fun w H4 => r' y w H4 Q else Q (.bl false) H3)) : tChain r r' ta tb tc σ H Q := k
theorem r_ite {c : Bool} {A B : Prop} (h1 : c = true → A) (h2 : c = false → B) : if c = true then A else B := by
  cases c with
  | true => exact h1 rfl
  | false => exact h2 rfl
theorem r_T {A B : Prop} (h : A) : if true = true then A else B := h
theorem r_F {A B : Prop} (h : B) : if false = true then A else B := h
theorem r_nT {A B : Prop} (h : A) : if (!false) = true then A else B := h
theorem r_nF {A B : Prop} (h : B) : if (!true) = true then A else B := h
theorem r_Td {c : Prop} [Decidable c] {A B : Prop} (hc : c) (h : A) : if decide c = true then A else B := by rw [decide_eq_true hc]; exact h
theorem r_Fd {c : Prop} [Decidable c] {A B : Prop} (hc : ¬ c) (h : B) : if decide c = true then A else B := by rw [decide_eq_false hc]; exact h
theorem r_id {c : Prop} [Decidable c] {A B : Prop} (h1 : c → A) (h2 : ¬ c → B) : if decide c = true then A else B := by
  by_cases h : c
  · exact r_Td h (h1 h)
  · exact r_Fd h (h2 h)
/-! ### operators by values -/
theorem r_I0 {g : Int → Int → V} {a b : Int} (k : Q (g a b) H) : rI0 g (.int a) (.int b) H Q := ⟨a, b, rfl, rfl, k⟩
theorem r_I {C : Int → Int → Prop} {g : Int → Int → V} {a b : Int} (c : C a b) (k : Q (g a b) H) : rI C g (.int a) (.int b) H Q := ⟨a, b, rfl, rfl, c, k⟩
theorem r_addI {a b : Int} (k : Q (.int (a + b)) H) : uAdd K (.int a) (.int b) H Q := .inl ⟨a, b, rfl, rfl, k⟩
theorem r_addS {a b : Str} (z : a.length + b.length ≤ sizeLine) (k : Q (.str (a ++ b)) H) : uAdd K (.str a) (.str b) H Q := .inr (.inl ⟨a, b, rfl, rfl, z, k⟩)
theorem r_addL {a b : Addr} {xs ys : List V} (ha : H a = some (.lst xs)) (hb : H b = some (.lst ys)) (z : xs.length + ys.length ≤ sizeLine) (k : ∀ p, H p = none → Q (.ref p) (upd H p (.lst (xs ++ ys)))) : uAdd K (.ref a) (.ref b) H Q :=
  .inr (.inr (.inl ⟨a, b, xs, ys, rfl, rfl, ha, hb, z, k⟩))
theorem r_addT {a b : Addr} {xs ys : List V} (ha : SqT K H a xs) (hb : SqT K H b ys) (ne : xs ≠ []) (z : xs.length + ys.length ≤ sizeLine) (k0 : ys = [] → Q (.ref a) H) (k : ys ≠ [] → ∀ p, H p = none → Q (.ref p) (upd H p (.tup (xs ++ ys)))) : uAdd K (.ref a) (.ref b) H Q :=
  .inr (.inr (.inr ⟨a, b, xs, ys, rfl, rfl, ha, hb, ne, z, k0, k⟩))
theorem r_sub {a b : Int} (k : Q (.int (a - b)) H) : uSub (.int a) (.int b) H Q := ⟨a, b, rfl, rfl, k⟩
theorem r_mul {a b : Int} (c : CMul a b) (k : Q (.int (a * b)) H) : uMul (.int a) (.int b) H Q := .inl ⟨a, b, rfl, rfl, c, k⟩
theorem r_mulW {a b : Int} (c : CMulW a b) (k : Q (.int (a * b)) H) : uMul (.int a) (.int b) H Q := .inr (.inl ⟨a, b, rfl, rfl, c, k⟩)
theorem r_rep {a : Addr} {n : Int} {xs : List V} (ha : H a = some (.lst xs)) (h0 : -(2 ^ 63) ≤ n) (h1 : n < 2 ^ 63) (z : xs.length * n.toNat ≤ sizeLine) (k : ∀ p, H p = none → Q (.ref p) (upd H p (.lst (List.replicate n.toNat xs).flatten))) : uMul (.ref a) (.int n) H Q :=
  .inr (.inr ⟨a, n, xs, rfl, rfl, ha, h0, h1, z, k⟩)
theorem cmulL {a b : Int} (h : -(2 ^ 64) < a ∧ a < 2 ^ 64) : CMul a b := .inl h
theorem cmulR {a b : Int} (h : -(2 ^ 64) < b ∧ b < 2 ^ 64) : CMul a b := .inr h
theorem r_div {a b : Int} (h0 : 0 < b) (h1 : b < 1073741824) (k : Q (.int (a / b)) H) : uDiv (.int a) (.int b) H Q := .inl ⟨a, b, rfl, rfl, ⟨h0, h1⟩, k⟩
theorem r_divW {a b : Int} (c : CDivW a b) (k : Q (.int (a / b)) H) : uDiv (.int a) (.int b) H Q := .inr ⟨a, b, rfl, rfl, c, k⟩
theorem r_mod {a b : Int} (h0 : 0 < b) (k : Q (.int (a % b)) H) : uMod (.int a) (.int b) H Q := ⟨a, b, rfl, rfl, h0, k⟩
theorem r_pow {a b : Int} (c : CPow a b) (k : Q (.int (a ^ b.toNat)) H) : uPow (.int a) (.int b) H Q := ⟨a, b, rfl, rfl, c, k⟩
theorem r_lt {a b : Int} (k : Q (.bl (decide (a < b))) H) : uLt (.int a) (.int b) H Q := ⟨a, b, rfl, rfl, k⟩
theorem r_le {a b : Int} (k : Q (.bl (decide (a ≤ b))) H) : uLe (.int a) (.int b) H Q := ⟨a, b, rfl, rfl, k⟩
theorem r_gt {a b : Int} (k : Q (.bl (decide (b < a))) H) : uGt (.int a) (.int b) H Q := ⟨a, b, rfl, rfl, k⟩
theorem r_ge {a b : Int} (k : Q (.bl (decide (b ≤ a))) H) : uGe (.int a) (.int b) H Q := ⟨a, b, rfl, rfl, k⟩
theorem r_eq (s : scal x y = true) (k : Q (.bl (decide (x = y))) H) : uEq K x y H Q := .inl ⟨s, k⟩
theorem r_eqD {d e : PyData} (hd : Dp K H x d) (he : Dp K H y e) (sd : SeqAt.shaped d = true) (se : SeqAt.shaped e = true) (k : Q (.bl (PyData.eqv d e)) H) : uEq K x y H Q := .inr ⟨d, e, hd, he, sd, se, k⟩
theorem r_ne (s : scal x y = true) (k : Q (.bl (!decide (x = y))) H) : uNe K x y H Q := .inl ⟨s, k⟩
theorem r_neD {d e : PyData} (hd : Dp K H x d) (he : Dp K H y e) (sd : SeqAt.shaped d = true) (se : SeqAt.shaped e = true) (k : Q (.bl (!PyData.eqv d e)) H) : uNe K x y H Q := .inr ⟨d, e, hd, he, sd, se, k⟩
theorem r_isN (k : Q (.bl (decide (x = .non))) H) : rIsN x .non H Q := ⟨rfl, k⟩
theorem r_notN (k : Q (.bl (!decide (x = .non))) H) : rNotN x .non H Q := ⟨rfl, k⟩
theorem r_inQ {p : Addr} {xs : List V} (h : SqL K H p xs ∨ SqT K H p xs) (fx : flatV x = true) (fs : xs.all flatV = true) (k : Q (.bl (inV x xs)) H) : uIn K x (.ref p) H Q := .inl ⟨p, xs, rfl, h, fx, fs, k⟩
theorem r_inS {c : Nat} {z : Str} (k : Q (.bl (decide (c ∈ z.cps.toList))) H) : uIn K (.str ⟨#[c]⟩) (.str z) H Q := .inr ⟨c, z, rfl, rfl, k⟩
theorem r_ninQ {p : Addr} {xs : List V} (h : SqL K H p xs ∨ SqT K H p xs) (fx : flatV x = true) (fs : xs.all flatV = true) (k : Q (.bl (!inV x xs)) H) : uNotIn K x (.ref p) H Q := .inl ⟨p, xs, rfl, h, fx, fs, k⟩
/-- xs[i] of a list that stands in H (ixL), of any list or tuple that may be read -/
theorem r_ixL {p : Addr} {n : Int} {xs : List V} (h : SqL K H p xs) (ha : atI xs n = some v) (k : Q v H) : rIx K (.ref p) (.int n) H Q := .inl ⟨p, xs, n, v, rfl, rfl, h, ha, k⟩
theorem r_ixT {p : Addr} {n : Int} {xs : List V} (h : SqT K H p xs) (ha : atI xs n = some v) (k : Q v H) : rIx K (.ref p) (.int n) H Q := .inr (.inl ⟨p, xs, n, v, rfl, rfl, h, ha, k⟩)
theorem r_ixS {z : Str} {n : Int} {c : Nat} (h : z.length ≤ sizeLine) (ha : atI z.cps.toList n = some c) (k : Q (.str ⟨#[c]⟩) H) : rIx K (.str z) (.int n) H Q := .inr (.inr ⟨z, n, c, rfl, rfl, h, ha, k⟩)
/-! ### built-ins by values -/
theorem r_lenL {p : Addr} {xs : List V} (h : SqL K H p xs) (k : Q (.int (xs.length : Nat)) H) : uLen K [.ref p] H Q := .inl ⟨_, _, rfl, .inl ⟨xs, h, rfl⟩, k⟩
theorem r_lenT {p : Addr} {xs : List V} (h : SqT K H p xs) (k : Q (.int (xs.length : Nat)) H) : uLen K [.ref p] H Q := .inl ⟨_, _, rfl, .inr ⟨xs, h, rfl⟩, k⟩
theorem r_lenS {z : Str} (h : z.length ≤ sizeLine) (k : Q (.int (z.length : Nat)) H) : uLen K [.str z] H Q := .inl ⟨_, _, rfl, ⟨h, rfl⟩, k⟩
theorem r_lenD {p : Addr} {kvs : List (Key × V)} (h : H p = some (.dK kvs)) (k : Q (.int (kvs.length : Nat)) H) : uLen K [.ref p] H Q := .inr ⟨p, kvs, rfl, h, k⟩
theorem r_abs {a : Int} (k : Q (.int (if a < 0 then -a else a)) H) : uAbs [.int a] H Q := ⟨a, rfl, k⟩
theorem r_min2 {a b : Int} (k : Q (.int (if b < a then b else a)) H) : uMin2 [.int a, .int b] H Q := ⟨a, b, rfl, k⟩
theorem r_max2 {a b : Int} (k : Q (.int (if b > a then b else a)) H) : uMax2 [.int a, .int b] H Q := ⟨a, b, rfl, k⟩
theorem r_intI {a : Int} (k : Q (.int a) H) : uInt [.int a] H Q := .inl (.inl ⟨a, rfl, k⟩)
theorem r_intB {b : Bool} (k : Q (.int (if b then 1 else 0)) H) : uInt [.bl b] H Q := .inl (.inr ⟨b, rfl, k⟩)
theorem r_list {p : Addr} {xs : List V} (h : SqL K H p xs ∨ SqT K H p xs) (k : ∀ l, H l = none → Q (.ref l) (upd H l (.lst xs))) : uList K [.ref p] H Q := ⟨p, xs, rfl, h, k⟩
theorem r_tupL {p : Addr} {xs : List V} (h : SqL K H p xs) (k : ∀ l, H l = none → Q (.ref l) (upd H l (.tup xs))) : uTuple K [.ref p] H Q := ⟨p, xs, rfl, .inl ⟨h, k⟩⟩
theorem r_tupT {p : Addr} {xs : List V} (h : SqT K H p xs) (k : Q (.ref p) H) : uTuple K [.ref p] H Q := ⟨p, xs, rfl, .inr ⟨h, k⟩⟩
theorem r_isi {c : V} {t u : Value} {b : Bool} (hc : ClsV c u) (ht : TyX K H x t) (hk : PySem.W.kitOne K t u = some b) (k : Q (.bl b) H) : rIsi K [x, c] H Q := ⟨x, c, t, u, b, rfl, hc, ht, hk, k⟩
theorem r_repr {d : PyData} (hd : Dp K H x d) (hs : d.showable = true) (hn : d.hasDict = false) (hz : d.depth ≤ 60) (hl : d.shown.length ≤ sizeLine) (k : Q (.str d.shown) H) : rRepr K [x] H Q := ⟨x, d, rfl, hd, hs, hn, hz, hl, k⟩
/-! ### statements -/
theorem r_seq (k : t1 { D with nx := t2 D } σ H) : tSeq t1 t2 D σ H := k
theorem r_next (k : D.nx σ H) : tNext D σ H := k
theorem r_asg {g : TG} (k : te σ H fun x H1 => g x σ H1 D.nx) : tAsg te g D σ H := k
theorem r_gName (k : QS (σ.set i (some v)) H) : gName i v σ H QS := k
theorem r_gSub {to ti : TE} {s : TSet} (k : to σ H fun o H1 => ti σ H1 fun i H2 => s o i v H2 fun H3 => QS σ H3) : gSub to ti s v σ H QS := k
theorem r_setL {p : Addr} {n : Int} {xs : List V} {m : Nat} {QH : Hp → Prop} (h : H p = some (.lst xs)) (hi : ixN xs.length n = some m) (k : QH (upd H p (.lst (xs.set m v)))) : rSetL (.ref p) (.int n) v H QH := ⟨p, xs, n, m, rfl, rfl, h, hi, k⟩
theorem r_ret (k : te σ H D.rt) : tRet te D σ H := k
theorem r_ifS (k : t σ H fun b H1 => if b = true then t1 D σ H1 else t2 D σ H1) : tIfS t t1 t2 D σ H := k
theorem r_drop (k : te σ H fun _ H1 => D.nx σ H1) : tDrop te D σ H := k
theorem r_for {wi : TI} {g : TG} (k : wi σ H fun J H1 => ∃ W : Nat → Nat → St → Hp → Prop, (∃ m, W 0 m σ H1) ∧ ∀ i m σ H, W i m σ H →
  (J.stop i H ∧ D.nx σ H) ∨ (J.go i H ∧ ∃ N : St → Hp → Prop, (∀ σ' H', N σ' H' → ∃ m', m' < m ∧ W (i + 1) m' σ' H') ∧ ∀ x H', J.yld i H x H' → g x σ H' fun σ2 H2 => ts { D with nx := N, ct := N, bk := D.nx } σ2 H2)) : tFor wi g ts D σ H := k
/-- for k in range(n) -/
theorem r_forR {tl : TA} {n : Int} {g : TG} (Pv : Nat → St → Hp → Prop) (h : tl σ H fun vs H1 => vs = [.int n] ∧ -(2 ^ 62) ≤ n ∧ n < 2 ^ 62 ∧ Pv 0 σ H1)
    (mono : ∀ {P P' : List V → Hp → Prop}, (∀ vs H, P vs H → P' vs H) → tl σ H P → tl σ H P')
    (hs : ∀ i σ H, i < n.toNat → Pv i σ H → g (.int (i : Nat)) σ H fun σ2 H2 => ts { D with nx := Pv (i + 1), ct := Pv (i + 1), bk := D.nx } σ2 H2)
    (hd : ∀ σ H, Pv n.toNat σ H → D.nx σ H) : tFor (iRng1 tl) g ts D σ H := by
  refine mono (fun vs H1 q => ?_) h
  obtain ⟨rfl, h1, h2, q⟩ := q
  refine ⟨n, rfl, h1, h2, for_range (lo := 0) (n := n.toNat) Pv q (fun i σ H hi p => ?_) hd⟩
  rw [Int.zero_add]
  exact hs i σ H hi p
end
end Hg
end L2
end

section
set_option Elab.async false
set_option linter.all false
set_option maxRecDepth 100000
set_option maxHeartbeats 4000000
/-! A def of the text as one hypothesis: where it stands (DefAt), what it keeps (DefOk, DefG); classes and errors likewise; boxes of draws. -/
namespace L2
namespace Hg
open PySem PySem.Spec PyProof.Rows

structure DefAt (K : PySem.W.Frag) (mg : Str → Option Value) (x : Str) (st : Stmt) : Prop where
  ex : ∃ f fd, mg x = some (.ref f) ∧ Fun K x x st f fd
def DefOk (P : Program) (w : World) (K : PySem.W.Frag) (mg : Str → Option Value) (base : Heap) (CX : CXT) (k : Nat) (x : Str) (ps : List Str) (sp : Sp) : Prop :=
  ∃ f fd, mg x = some (.ref f) ∧ PySem.W.keepIn K (.ref f) = true ∧ FnOk P w K mg base CX k f fd ps sp ∧ Binds K fd ps []
def DefG (P : Program) (w : World) (K : PySem.W.Frag) (mg : Str → Option Value) (base : Heap) (CX : CXT) (k : Nat) (x : Str) (ps : List Str) (sp : Sp) : Prop :=
  ∃ f fd, mg x = some (.ref f) ∧ PySem.W.keepIn K (.ref f) = true ∧ FnG P w K mg base CX k f fd ps sp ∧ Binds K fd ps []
abbrev BindsBy (st : Stmt) (x : Str) (ps : List Str) : Prop := ∀ (kV doc pm : Value) (an : Option Addr) (cdv ct : Value) (us : List Value), us.length = ps.length →
  bindArgs (PySem.W.fnOf x x (defArgs st) (defBody st) (defScope st) .none kV doc pm an cdv ct) ⟨us, []⟩ = pure (ps.zip us)
section
variable {P : Program} {w : World} {K : PySem.W.Frag} {mg : Str → Option Value} {base : Heap} {k : Nat} {x : Str} {st : Stmt} {N ps : List Str} {sp : Sp}
theorem DefAt.ok (F : DefAt K mg x st) (S : FnScope N ps (defScope st)) (hb : BindsBy st x ps) (len : ∀ vs H Q E, sp vs H Q E → vs.length = ps.length)
    (hbody : ∀ (f : Addr) (cdv : Value) (A : Around) (outer : List Env) (s : Shared) (H : Hp) (vs : List V) (Q : VK) (E : XK), Room k (A.deeper (envOfC x (defScope st) s.heap.objs.size f cdv)) → sp vs H Q E →
      ∃ t, PSs (cxOf CX0 P w K mg base N x (defScope st) f cdv A outer s H E).nox (defBody st) t ∧ t { nx := fun _ H' => Q .non H', rt := Q } (start N vs) H) : DefOk P w K mg base CX0 (k + 1) x ps sp := by
  obtain ⟨f, fd, hm, F⟩ := F.ex
  exact ⟨f, fd, hm, F.kp, F.ok S len fun cdv A outer s H vs Q E hr h => hbody f cdv A outer s H vs Q E hr h, F.binds hb⟩
theorem DefAt.okX (F : DefAt K mg x st) (S : FnScope N ps (defScope st)) (hb : BindsBy st x ps) (len : ∀ vs H Q E, sp vs H Q E → vs.length = ps.length)
    (hbody : ∀ (f : Addr) (cdv : Value) (A : Around) (outer : List Env) (s : Shared) (H : Hp) (vs : List V) (Q : VK) (E : XK), Room k (A.deeper (envOfC x (defScope st) s.heap.objs.size f cdv)) → sp vs H Q E →
      ∃ t, PSs (cxOf (L2.CX P w) P w K mg base N x (defScope st) f cdv A outer s H E) (defBody st) t ∧ t { nx := fun _ H' => Q .non H', rt := Q } (start N vs) H) : DefOk P w K mg base (L2.CX P w) (k + 1) x ps sp := by
  obtain ⟨f, fd, hm, F⟩ := F.ex
  exact ⟨f, fd, hm, F.kp, F.okX S len fun cdv A outer s H vs Q E hr h => hbody f cdv A outer s H vs Q E hr h, F.binds hb⟩
theorem DefAt.okG (F : DefAt K mg x st) (S : FnScope N ps (defScope st)) (hb : BindsBy st x ps) (len : ∀ vs H Q E, sp vs H Q E → vs.length = ps.length)
    (hbody : ∀ (f : Addr) (cdv : Value) (A : Around) (outer : List Env) (s : Shared) (H : Hp) (vs : List V) (Q : VK) (E : XK), A.guards = some [] → Room k (A.deeper (envOfC x (defScope st) s.heap.objs.size f cdv)) → sp vs H Q E →
      ∃ t, PSs (cxOf CX0 P w K mg base N x (defScope st) f cdv A outer s H E).nox (defBody st) t ∧ t { nx := fun _ H' => Q .non H', rt := Q } (start N vs) H) : DefG P w K mg base CX0 (k + 1) x ps sp := by
  obtain ⟨f, fd, hm, F⟩ := F.ex
  exact ⟨f, fd, hm, F.kp, Hg.okG F S len fun cdv A outer s H vs Q E hg hr h => hbody f cdv A outer s H vs Q E hg hr h, F.binds hb⟩
end
section
variable {X : Cx} {CX : CXT} {k : Nat} {ps : List Str} {sp : Sp} {E : XK} {x : Str} {p pos : Pos} {e : Expr} {es : List Expr} {t : TA}
theorem pe_callD (F : DefOk X.prog X.w X.K X.mg X.base CX k x ps sp) (hr : Room k X.A) (hx : Passes CX X E) (hg : Gl X x) (ha : PA X (e :: es) t) (hdb : (x == ("__debug__" : Str)) = false := by decide)
    (he : starEach (e :: es) X.env = (false, eval e X.env) :: starEach es X.env := by rfl) (hpl : (backTo pos (starEach es X.env)).any (·.1) = false := by rfl) : PE X (.Call (.Name x p) (e :: es) [] pos) (tCall sp [] E t) :=
  let ⟨_, _, hm, hk, G, hb⟩ := F
  pe_call G hr hg hm hk hb .nil hx ha hdb he hpl
theorem pe_callD0 (F : DefOk X.prog X.w X.K X.mg X.base CX k x ps sp) (hr : Room k X.A) (hx : Passes CX X E) (hg : Gl X x) (hdb : (x == ("__debug__" : Str)) = false := by decide) : PE X (.Call (.Name x p) [] [] pos) (tCall sp [] E tNil) :=
  let ⟨_, _, hm, hk, G, hb⟩ := F
  pe_call0 G hr hg hm hk hb .nil hx hdb
theorem pe_callDG (F : DefG X.prog X.w X.K X.mg X.base CX k x ps sp) (hgd : X.A.guards = some []) (hr : Room k X.A) (hx : Passes CX X E) (hg : Gl X x) (ha : PA X (e :: es) t) (hdb : (x == ("__debug__" : Str)) = false := by decide)
    (he : starEach (e :: es) X.env = (false, eval e X.env) :: starEach es X.env := by rfl) (hpl : (backTo pos (starEach es X.env)).any (·.1) = false := by rfl) : PE X (.Call (.Name x p) (e :: es) [] pos) (tCall sp [] E t) :=
  let ⟨_, _, hm, hk, G, hb⟩ := F
  pe_callG G hgd hr hg hm hk hb .nil hx ha hdb he hpl
theorem pe_callDG0 (F : DefG X.prog X.w X.K X.mg X.base CX k x ps sp) (hgd : X.A.guards = some []) (hr : Room k X.A) (hx : Passes CX X E) (hg : Gl X x) (hdb : (x == ("__debug__" : Str)) = false := by decide) : PE X (.Call (.Name x p) [] [] pos) (tCall sp [] E tNil) :=
  let ⟨_, _, hm, hk, G, hb⟩ := F
  pe_callG0 G hgd hr hg hm hk hb .nil hx hdb
end

/-! ### errors -/
/-- the error class x at C: its own `__init__` st, over the base G named g -/
structure ErrAt (K : PySem.W.Frag) (mg : Str → Option Value) (x q : Str) (st : Stmt) (C : Addr) : Prop where
  hm : mg x = some (.ref C)
  cl : OexC K C
  it : ∃ f fd, PySem.W.findIn K (.ref C) "__init__" = some (some (.ref f)) ∧ PySem.W.typeIn K (.ref f) = some (.type "function") ∧ Fun K "__init__" q st f fd
structure BaseAt (K : PySem.W.Frag) (mg : Str → Option Value) (g : Str) (G : Addr) : Prop where
  hm : mg g = some (.ref G)
  bi : BaseInit K G
/-- what making such an error keeps -/
def ErrOk (P : Program) (w : World) (K : PySem.W.Frag) (mg : Str → Option Value) (base : Heap) (k : Nat) (x : Str) (C : Addr) (ps : List Str) (sp : Sp) : Prop :=
  mg x = some (.ref C) ∧ OexC K C ∧ ∃ f fd, PySem.W.findIn K (.ref C) "__init__" = some (some (.ref f)) ∧ PySem.W.typeIn K (.ref f) = some (.type "function") ∧ FnOk P w K mg base CX0 k f fd ps sp ∧ Binds K fd ps []
abbrev BindsAs (st : Stmt) (x q : Str) (ps : List Str) : Prop := ∀ (kV doc pm : Value) (an : Option Addr) (cdv ct : Value) (us : List Value), us.length = ps.length →
  bindArgs (PySem.W.fnOf x q (defArgs st) (defBody st) (defScope st) .none kV doc pm an cdv ct) ⟨us, []⟩ = pure (ps.zip us)
section
variable {P : Program} {w : World} {K : PySem.W.Frag} {mg : Str → Option Value} {base : Heap} {k : Nat} {x q : Str} {st : Stmt} {C : Addr} {N ps : List Str} {sp : Sp}
theorem ErrAt.ok (F : ErrAt K mg x q st C) (S : FnScope N ps (defScope st)) (hb : BindsAs st "__init__" q ps) (len : ∀ vs H Q E, sp vs H Q E → vs.length = ps.length)
    (hbody : ∀ (f : Addr) (cdv : Value) (A : Around) (outer : List Env) (s : Shared) (H : Hp) (vs : List V) (Q : VK) (E : XK), Room k (A.deeper (envOfC q (defScope st) s.heap.objs.size f cdv)) → sp vs H Q E →
      ∃ t, PSs (cxOf CX0 P w K mg base N q (defScope st) f cdv A outer s H E).nox (defBody st) t ∧ t { nx := fun _ H' => Q .non H', rt := Q } (start N vs) H) : ErrOk P w K mg base (k + 1) x C ps sp := by
  obtain ⟨f, fd, hi, ht, F1⟩ := F.it
  exact ⟨F.hm, F.cl, f, fd, hi, ht, F1.ok S len fun cdv A outer s H vs Q E hr h => hbody f cdv A outer s H vs Q E hr h, F1.binds hb⟩
end
section
variable {X : Cx} {k : Nat} {ps : List Str} {sp : Sp} {x : Str} {p pos : Pos} {C : Addr} {e : Expr} {es : List Expr} {ta : TA}
theorem pmkN (F : ErrOk X.prog X.w X.K X.mg X.base k x C ps sp) (hr : Room (k + 1) X.A) (hg : Gl X x) (hdb : (x == ("__debug__" : Str)) = false := by decide) : PMk X (.Call (.Name x p) [] [] pos) (tMkN C sp) :=
  let ⟨hm, T, _, _, iC, tI, F1, hb⟩ := F
  pmk_oexN T iC tI F1 hr hb (fun _ _ _ _ _ _ _ c => c.elim) hg hm hdb
theorem pmkF (F : ErrOk X.prog X.w X.K X.mg X.base k x C ps sp) (hr : Room (k + 1) X.A) (hg : Gl X x) (ha : PA X (e :: es) ta) (hdb : (x == ("__debug__" : Str)) = false := by decide)
    (he : starEach (e :: es) X.env = (false, eval e X.env) :: starEach es X.env := by rfl) (hpl : (backTo pos (starEach es X.env)).any (·.1) = false := by rfl) : PMk X (.Call (.Name x p) (e :: es) [] pos) (tMkO C sp [] ta) :=
  let ⟨hm, T, _, _, iC, tI, F1, hb⟩ := F
  pmk_oex T iC tI F1 hr hb .nil (fun _ _ _ _ _ _ _ c => c.elim) hg hm ha hdb he hpl
end

/-! ### classes -/
/-- the class x at C -/
structure ClsAt (K : PySem.W.Frag) (mg : Str → Option Value) (x : Str) (C : Addr) : Prop where
  hm : mg x = some (.ref C)
  cl : Cls K C
  mks : PySem.W.makesIn K C = true
  kp : PySem.W.keepIn K (.ref C) = true
/-- making an instance of x -/
def MakeOk (P : Program) (w : World) (K : PySem.W.Frag) (mg : Str → Option Value) (base : Heap) (CX : CXT) (k : Nat) (x : Str) (C : Addr) (ps : List Str) (dvs : List V) (sp : Sp) : Prop :=
  mg x = some (.ref C) ∧ ∃ f fd ds, Mk K C f ∧ FnOk P w K mg base CX k f fd ps sp ∧ Binds K fd ps ds ∧ Vals dvs ds
section
variable {X : Cx} {CX : CXT} {k : Nat} {ps : List Str} {dvs : List V} {sp : Sp} {E : XK} {ES : St → XK} {x : Str} {p pos : Pos} {C : Addr} {e : Expr} {es : List Expr} {t : TA}
theorem pe_makeD (F : MakeOk X.prog X.w X.K X.mg X.base CX k x C ps dvs sp) (hr : Room (k + 1) X.A) (hx : Passes CX X E) (hg : Gl X x) (ha : PA X (e :: es) t) (hdb : (x == ("__debug__" : Str)) = false := by decide)
    (he : starEach (e :: es) X.env = (false, eval e X.env) :: starEach es X.env := by rfl) (hpl : (backTo pos (starEach es X.env)).any (·.1) = false := by rfl) : PE X (.Call (.Name x p) (e :: es) [] pos) (tMake C sp dvs E t) :=
  let ⟨hm, _, _, _, M, G, hb, hd⟩ := F
  pe_make M G hr hg hm hb hd hx ha hdb he hpl
theorem pe_makeD0 (F : MakeOk X.prog X.w X.K X.mg X.base CX k x C ps dvs sp) (hr : Room (k + 1) X.A) (hx : Passes CX X E) (hg : Gl X x) (hdb : (x == ("__debug__" : Str)) = false := by decide) : PE X (.Call (.Name x p) [] [] pos) (tMake C sp dvs E tNil) :=
  let ⟨hm, _, _, _, M, G, hb, hd⟩ := F
  pe_make0 M G hr hg hm hb hd hx hdb
theorem pe_makeDS (F : MakeOk X.prog X.w X.K X.mg X.base CX k x C ps dvs sp) (hr : Room (k + 1) X.A) (hx : ∀ σ, PassesAt CX X σ (ES σ)) (hg : Gl X x) (ha : PA X (e :: es) t) (hdb : (x == ("__debug__" : Str)) = false := by decide)
    (he : starEach (e :: es) X.env = (false, eval e X.env) :: starEach es X.env := by rfl) (hpl : (backTo pos (starEach es X.env)).any (·.1) = false := by rfl) : PE X (.Call (.Name x p) (e :: es) [] pos) (tMakeS C sp dvs ES t) :=
  let ⟨hm, _, _, _, M, G, hb, hd⟩ := F
  pe_makeS M G hr hg hm hb hd hx ha hdb he hpl
end

/-! ### boxes of draws -/
/-- at b a list of three ints -/
def BoxAt (H : Hp) (b : Addr) : Prop := ∃ x y z : Int, H b = some (.lst [.int x, .int y, .int z])
/-- what was tracked stays, but for b, which is a box -/
structure Bx (b : Addr) (H H' : Hp) : Prop where
  keep : ∀ x o, x ≠ b → H x = some o → H' x = some o
  box : BoxAt H' b
theorem Bx.refl {b : Addr} {H : Hp} (h : BoxAt H b) : Bx b H H := ⟨fun _ _ _ z => z, h⟩
theorem Bx.trans {b : Addr} {H H1 H2 : Hp} (h : Bx b H H1) (g : Bx b H1 H2) : Bx b H H2 := ⟨fun x o n z => g.keep x o n (h.keep x o n z), g.box⟩
theorem Bx.upd {b p : Addr} {H H1 : Hp} {o : HO} (h : Bx b H H1) (hp : H1 p = none) : Bx b H (upd H1 p o) := by
  refine ⟨fun x u n z => ?_, ?_⟩
  · have q := h.keep x u n z
    rw [upd_ne (ne_of_none q hp)]; exact q
  · obtain ⟨x, y, z, q⟩ := h.box
    exact ⟨x, y, z, by rw [upd_ne (ne_of_none q hp)]; exact q⟩
theorem Bx.updD {b p : Addr} {H H1 : Hp} {o : HO} (h : Bx b H H1) (hp : H p = none) (n : p ≠ b) : Bx b H (L2.upd H1 p o) := by
  refine ⟨fun x u ne z => at_upd (ne_of_none z hp) (h.keep x u ne z), ?_⟩
  obtain ⟨x, y, z, q⟩ := h.box
  exact ⟨x, y, z, at_upd (Ne.symm n) q⟩
theorem Bx.set {b : Addr} {H H1 : Hp} (h : Bx b H H1) (x y z : Int) : Bx b H (L2.upd H1 b (.lst [.int x, .int y, .int z])) := ⟨fun a o n q => (upd_ne n).trans (h.keep a o n q), x, y, z, upd_same⟩
theorem BoxAt.upd {b p : Addr} {H : Hp} {o : HO} (h : BoxAt H b) (hp : H p = none) : BoxAt (upd H p o) b := ((Bx.refl h).upd hp).box
theorem BoxAt.ne {b p : Addr} {H : Hp} {o : HO} (h : BoxAt H b) (hp : H p = some o) (d : ∀ x y z : Int, o ≠ .lst [.int x, .int y, .int z]) : p ≠ b := by
  intro e
  subst e
  obtain ⟨x, y, z, q⟩ := h
  rw [hp] at q
  exact d x y z (Option.some.inj q)
theorem BoxAt.some {b : Addr} {H : Hp} (h : BoxAt H b) : ∃ o, H b = some o := let ⟨_, _, _, q⟩ := h; ⟨_, q⟩
theorem Bx.seqL {K : PySem.W.Frag} {b l : Addr} {H H' : Hp} {xs : List V} (h : Bx b H H') (n : l ≠ b) (q : SqL K H l xs) : SqL K H' l xs := by
  rcases q with (q | ⟨o, q⟩) | q
  · exact .inl (.inl (h.keep _ _ n q))
  · exact .inl (.inr ⟨o, h.keep _ _ n q⟩)
  · exact .inr q
theorem Bx.seqT {K : PySem.W.Frag} {b l : Addr} {H H' : Hp} {xs : List V} (h : Bx b H H') (n : l ≠ b) (q : SqT K H l xs) : SqT K H' l xs := by
  rcases q with (q | ⟨o, q⟩) | q
  · exact .inl (.inl (h.keep _ _ n q))
  · exact .inl (.inr ⟨o, h.keep _ _ n q⟩)
  · exact .inr q
theorem Bx.free {b p : Addr} {H H' : Hp} (h : Bx b H H') (hp : H' p = none) : H p = none := by
  cases e : H p with
  | none => rfl
  | some o =>
    by_cases n : p = b
    · subst n
      obtain ⟨x, y, z, q⟩ := h.box
      rw [hp] at q; cases q
    · rw [h.keep p o n e] at hp; cases hp
theorem Bx.seqF {K : PySem.W.Frag} {b l : Addr} {H H' : Hp} {xs : List V} (h : Bx b H H') (n : H b = none) (q : SqL K H l xs) : SqL K H' l xs := by
  rcases q with (q | ⟨o, q⟩) | q
  · exact .inl (.inl (h.keep _ _ (ne_of_none q n) q))
  · exact .inl (.inr ⟨o, h.keep _ _ (ne_of_none q n) q⟩)
  · exact .inr q
/-- a draw -/
def spTake : Sp := fun vs H Q _ => ∃ (b : Addr) (m : Int), vs = [.ref b, .int m] ∧ BoxAt H b ∧ 1 ≤ m ∧ m < 1000000000 ∧
  ∀ (d : Int) (H' : Hp), 0 ≤ d → d < m → Bx b H H' → Q (.int d) H'
/-- a pick -/
def spPick (K : PySem.W.Frag) : Sp := fun vs H Q _ => ∃ (b l : Addr) (xs : List V), vs = [.ref b, .ref l] ∧ BoxAt H b ∧ (SqL K H l xs ∨ SqT K H l xs) ∧ l ≠ b ∧ 1 ≤ xs.length ∧ xs.length < 1000000 ∧
  ∀ (v : V) (H' : Hp), v ∈ xs → Bx b H H' → Q v H'
/-- a new box -/
def spBox (K : PySem.W.Frag) : Sp := fun vs H Q _ => ∃ (a : Addr) (ns : List Int) (k c : Int), vs = [.ref a, .int k, .int c] ∧ SqL K H a (ns.map V.int) ∧ 0 ≤ k ∧ k < 1000000 ∧ 0 ≤ c ∧ c < 1000000 ∧ ns.length ≤ 1000 ∧
  ∀ (b : Addr) (H' : Hp), H b = none → Bx b H H' → Q (.ref b) H'
end Hg
end L2
end

section
set_option Elab.async false
set_option linter.all false
set_option maxRecDepth 100000
set_option maxHeartbeats 400000
/-! Any values: None, bools, ints, texts, lists, tuples; their kinds, their data; what stays. -/
namespace L2
namespace Hg
open PySem PySem.Spec PyProof.Rows

/-- any value of a kind that isinstance can tell -/
inductive Kd (K : PySem.W.Frag) (H : Hp) : V → Prop
  | non : Kd K H .non
  | bl (b : Bool) : Kd K H (.bl b)
  | int (i : Int) : Kd K H (.int i)
  | str (x : Str) : Kd K H (.str x)
  | lst {a : Addr} {xs : List V} : SqL K H a xs → Kd K H (.ref a)
  | tup {a : Addr} {xs : List V} : SqT K H a xs → Kd K H (.ref a)
def isI : V → Bool | .int _ => true | _ => false
def isIB : V → Bool | .int _ => true | .bl _ => true | _ => false
def isB : V → Bool | .bl _ => true | _ => false
def isS : V → Bool | .str _ => true | _ => false
theorem tyx_list {K : PySem.W.Frag} {H : Hp} {a : Addr} {xs : List V} (h : SqL K H a xs) : TyX K H (.ref a) (.type "list") := by
  rcases h with (h | ⟨o, h⟩) | ⟨o, its, n, h, c, _⟩
  · exact .base (.lst h)
  · exact .base (.frz h)
  · exact .kList h c
theorem tyx_tup {K : PySem.W.Frag} {H : Hp} {a : Addr} {xs : List V} (h : SqT K H a xs) : TyX K H (.ref a) (.type "tuple") := by
  rcases h with (h | ⟨o, h⟩) | ⟨o, its, n, h, c, _⟩
  · exact .base (.tup h)
  · exact .fTuple h
  · exact .kTuple h c
section
variable {K : PySem.W.Frag} {H H' : Hp} {v : V}
theorem Kd.isi_int (h : Kd K H v) : ∃ t, TyX K H v t ∧ PySem.W.kitOne K t (.type "int") = some (isIB v) := by
  cases h with
  | non => exact ⟨_, .base .non, kit_ty (a := "NoneType") (by decide +kernel)⟩
  | bl b => exact ⟨_, .base (.bl b), kit_ty (a := "bool") (b := "int") (r := true) (by decide +kernel)⟩
  | int i => exact ⟨_, .base (.int i), kit_ty (a := "int") (b := "int") (r := true) (by decide +kernel)⟩
  | str x => exact ⟨_, .base (.str x), kit_ty (a := "str") (b := "int") (r := false) (by decide +kernel)⟩
  | lst h => exact ⟨_, tyx_list h, kit_ty (a := "list") (b := "int") (r := false) (by decide +kernel)⟩
  | tup h => exact ⟨_, tyx_tup h, kit_ty (a := "tuple") (b := "int") (r := false) (by decide +kernel)⟩
theorem Kd.isi_bool (h : Kd K H v) : ∃ t, TyX K H v t ∧ PySem.W.kitOne K t (.type "bool") = some (isB v) := by
  cases h with
  | non => exact ⟨_, .base .non, kit_ty (a := "NoneType") (by decide +kernel)⟩
  | bl b => exact ⟨_, .base (.bl b), kit_ty (a := "bool") (b := "bool") (r := true) (by decide +kernel)⟩
  | int i => exact ⟨_, .base (.int i), kit_ty (a := "int") (b := "bool") (r := false) (by decide +kernel)⟩
  | str x => exact ⟨_, .base (.str x), kit_ty (a := "str") (b := "bool") (r := false) (by decide +kernel)⟩
  | lst h => exact ⟨_, tyx_list h, kit_ty (a := "list") (b := "bool") (r := false) (by decide +kernel)⟩
  | tup h => exact ⟨_, tyx_tup h, kit_ty (a := "tuple") (b := "bool") (r := false) (by decide +kernel)⟩
theorem Kd.isi_str (h : Kd K H v) : ∃ t, TyX K H v t ∧ PySem.W.kitOne K t (.type "str") = some (isS v) := by
  cases h with
  | non => exact ⟨_, .base .non, kit_ty (a := "NoneType") (by decide +kernel)⟩
  | bl b => exact ⟨_, .base (.bl b), kit_ty (a := "bool") (b := "str") (r := false) (by decide +kernel)⟩
  | int i => exact ⟨_, .base (.int i), kit_ty (a := "int") (b := "str") (r := false) (by decide +kernel)⟩
  | str x => exact ⟨_, .base (.str x), kit_ty (a := "str") (b := "str") (r := true) (by decide +kernel)⟩
  | lst h => exact ⟨_, tyx_list h, kit_ty (a := "list") (b := "str") (r := false) (by decide +kernel)⟩
  | tup h => exact ⟨_, tyx_tup h, kit_ty (a := "tuple") (b := "str") (r := false) (by decide +kernel)⟩
theorem sameT {a : Addr} {xs : List V} (e : Same H H') (h : SqT K H a xs) : SqT K H' a xs := by
  rcases h with (h | ⟨o, h⟩) | h
  · exact .inl (.inl (e _ _ h))
  · exact .inl (.inr ⟨o, e _ _ h⟩)
  · exact .inr h
theorem Kd.mono (e : Same H H') (h : Kd K H v) : Kd K H' v := by
  cases h with
  | non => exact .non
  | bl b => exact .bl b
  | int i => exact .int i
  | str x => exact .str x
  | lst h => exact .lst (e.seq h)
  | tup h => exact .tup (sameT e h)
mutual
theorem Dp.mono (e : Same H H') : ∀ (d : PyData) (v : V), Dp K H v d → Dp K H' v d
  | .none, _, h => by cases h; exact .non
  | .bool b, _, h => by cases h; exact .bl b
  | .int i, _, h => by cases h; exact .int i
  | .str x, _, h => by cases h; exact .str x
  | .list ds, _, h => by
    cases h with
    | lst hs ha => exact .lst (e.seq hs) (DpAll.mono e ds _ ha)
  | .tuple ds, _, h => by
    cases h with
    | tup hs ha => exact .tup (sameT e hs) (DpAll.mono e ds _ ha)
  | .dict _, _, h => by cases h
theorem DpAll.mono (e : Same H H') : ∀ (ds : List PyData) (vs : List V), DpAll K H vs ds → DpAll K H' vs ds
  | [], _, h => by cases h; exact .nil
  | d :: ds, _, h => by
    cases h with
    | cons h1 h2 => exact .cons (Dp.mono e d _ h1) (DpAll.mono e ds _ h2)
end
theorem Dp.kd {d : PyData} (h : Dp K H v d) : Kd K H v := by
  cases h with
  | non => exact .non
  | bl b => exact .bl b
  | int i => exact .int i
  | str x => exact .str x
  | lst h _ => exact .lst h
  | tup h _ => exact .tup h
end
/-! ### the promises of `signs` -/
def fromV (v : V) (a b : Int) : Bool := match v with | .int i => decide (a ≤ i) && decide (i ≤ b) | _ => false
def numV (v : V) : Bool := match v with | .int i => decide (0 ≤ i) | _ => false
def spIsInt (K : PySem.W.Frag) : Sp := fun vs H Q _ => ∃ v, vs = [v] ∧ Kd K H v ∧ Q (.bl (isI v)) H
def spFrom (K : PySem.W.Frag) : Sp := fun vs H Q _ => ∃ v a b, vs = [v, .int a, .int b] ∧ Kd K H v ∧ Q (.bl (fromV v a b)) H
def spIsNum (K : PySem.W.Frag) : Sp := fun vs H Q _ => ∃ v, vs = [v] ∧ Kd K H v ∧ Q (.bl (numV v)) H
theorem isI_of (v : V) : (isIB v && !isB v) = isI v := by cases v <;> rfl
theorem isI_int {v : V} (h : isI v = true) : ∃ i, v = .int i := by
  cases v <;> first | exact ⟨_, rfl⟩ | cases h
/-! ### what stays of a heap but for a box -/
theorem same_del (H : Hp) (b : Addr) : Same (del H b) H := fun a o h => by
  unfold del at h
  split at h
  · cases h
  · exact h
theorem Bx.same {b : Addr} {H H' : Hp} (h : Bx b H H') : Same (del H b) (del H' b) := fun a o q => by
  unfold del at q ⊢
  split at q
  · cases q
  · rename_i n
    rw [if_neg n]
    exact h.keep a o n q
theorem same_new {H : Hp} {p : Addr} {o : HO} (h : H p = none) : Same H (upd H p o) := fun a u q => at_upd (ne_of_none q h) q
theorem bx_of_same {b : Addr} {H H' : Hp} (hb : BoxAt H b) (h : Same H H') : Bx b H H' :=
  ⟨fun a o _ q => h a o q, let ⟨x, y, z, q⟩ := hb; ⟨x, y, z, h _ _ q⟩⟩
theorem del_at {H : Hp} {a b : Addr} {o : HO} (n : a ≠ b) (h : H a = some o) : del H b a = some o := (del_ne n).trans h
/-! ### data that may be shown -/
/-- v is data of depth at most k, whose text has at most n signs -/
structure Sh (K : PySem.W.Frag) (H : Hp) (v : V) (d : PyData) (k n : Nat) : Prop where
  dp : Dp K H v d
  sw : d.showable = true
  nd : d.hasDict = false
  cl : d.canLay0 = true
  dpt : d.depth ≤ k
  len : d.shown.length ≤ n
section
variable {K : PySem.W.Frag} {H H' : Hp} {v : V} {d : PyData} {k k' n n' : Nat}
theorem Sh.mono (e : Same H H') (h : Sh K H v d k n) : Sh K H' v d k n := ⟨Dp.mono e _ _ h.dp, h.sw, h.nd, h.cl, h.dpt, h.len⟩
theorem Sh.up (h : Sh K H v d k n) (hk : k ≤ k') (hn : n ≤ n') : Sh K H v d k' n' := ⟨h.dp, h.sw, h.nd, h.cl, Nat.le_trans h.dpt hk, Nat.le_trans h.len hn⟩
theorem Sh.shaped (h : Sh K H v d k n) (hk : k ≤ 64) : SeqAt.shaped d = true := by
  unfold SeqAt.shaped
  rw [h.cl, decide_eq_true (Nat.le_trans h.dpt hk)] <;> rfl
theorem Sh.repr {Q : VK} (h : Sh K H v d k n) (hk : k ≤ 60) (hn : n ≤ 100000) (q : Q (.str d.shown) H) : rRepr K [v] H Q :=
  r_repr h.dp h.sw h.nd (Nat.le_trans h.dpt hk) (sz (Nat.le_trans h.len hn)) q
theorem sh_non : Sh K H .non .none 0 10 := ⟨.non, rfl, rfl, rfl, Nat.le_refl _, by decide +kernel⟩
theorem sh_bl (b : Bool) : Sh K H (.bl b) (.bool b) 0 10 := ⟨.bl b, rfl, rfl, rfl, Nat.le_refl _, by cases b <;> decide +kernel⟩
theorem sh_int {i : Int} (h : i.natAbs < 10 ^ 38) : Sh K H (.int i) (.int i) 0 40 := by
  refine ⟨.int i, ?_, rfl, rfl, Nat.le_refl _, ?_⟩
  · show decide (i.natAbs.log2 < 1920) = true
    refine decide_eq_true ?_
    by_cases h0 : i.natAbs = 0
    · rw [h0]; decide
    · refine (Nat.log2_lt h0).mpr (Nat.lt_trans h (by decide +kernel))
  · show (Str.ofString (toString i)).length ≤ 40
    have e := int_text_length_le10 (k := 38) (by decide) h
    refine Nat.le_trans ?_ (Nat.le_trans e (by decide))
    exact Nat.le_of_eq (PySem.ofString_length _)
theorem sh_str {x : Str} (ok : PyData.canLay0 (.str x) = true) (h : (reprText x).length ≤ n) : Sh K H (.str x) (.str x) 0 n := ⟨.str x, rfl, rfl, ok, Nat.le_refl _, h⟩
theorem sh_all {vs : List V} {ds : List PyData} (h : Paired (fun v d => Sh K H v d k n) vs ds) : DpAll K H vs ds ∧ PyData.showableAll ds = true ∧ PyData.hasDictAll ds = false ∧ PyData.canLayAll0 ds = true ∧ PyData.depthAll ds ≤ k ∧
    ((PyData.shownAll ds).map (·.length)).sum ≤ vs.length * n ∧ ds.length = vs.length ∧ (PyData.shownAll ds).length = vs.length := by
  induction h with
  | nil => exact ⟨.nil, rfl, rfl, rfl, Nat.zero_le _, Nat.zero_le _, rfl, rfl⟩
  | cons h _ ih =>
    obtain ⟨i1, i2, i3, i4, i5, i6, i7, i8⟩ := ih
    refine ⟨.cons h.dp i1, ?_, ?_, ?_, ?_, ?_, ?_, ?_⟩
    · simp only [PyData.showableAll, h.sw, i2, Bool.and_self]
    · simp only [PyData.hasDictAll, h.nd, i3, Bool.or_self]
    · simp only [PyData.canLayAll0, h.cl, i4, Bool.and_self]
    · simp only [PyData.depthAll]; exact Nat.max_le.mpr ⟨h.dpt, i5⟩
    · simp only [PyData.shownAll, List.map_cons, List.sum_cons, List.length_cons]
      have := h.len
      rw [Nat.succ_mul]
      omega
    · simp only [List.length_cons, i7]
    · simp only [PyData.shownAll, List.length_cons, i8]
theorem sh_tup {a : Addr} {vs : List V} {ds : List PyData} {m : Nat} (h : SqT K H a vs) (hp : Paired (fun v d => Sh K H v d k n) vs ds) (hl : vs.length * n + 2 * vs.length + 3 ≤ m) : Sh K H (.ref a) (.tuple ds) (k + 1) m := by
  obtain ⟨i1, i2, i3, i4, i5, i6, i7, i8⟩ := sh_all hp
  refine ⟨.tup h i1, ?_, ?_, ?_, ?_, ?_⟩
  · simp only [PyData.showable, i2]
  · simp only [PyData.hasDict, i3]
  · simp only [PyData.canLay0, i4]
  · simp only [PyData.depth]; omega
  · simp only [PyData.shown]
    have q := tupleText_len_le (PyData.shownAll ds)
    rw [i8] at q
    omega
theorem sh_lst {a : Addr} {vs : List V} {ds : List PyData} {m : Nat} (h : SqL K H a vs) (hp : Paired (fun v d => Sh K H v d k n) vs ds) (hl : vs.length * n + 2 * vs.length + 3 ≤ m) : Sh K H (.ref a) (.list ds) (k + 1) m := by
  obtain ⟨i1, i2, i3, i4, i5, i6, i7, i8⟩ := sh_all hp
  refine ⟨.lst h i1, ?_, ?_, ?_, ?_, ?_⟩
  · simp only [PyData.showable, i2]
  · simp only [PyData.hasDict, i3]
  · simp only [PyData.canLay0, i4]
  · simp only [PyData.depth]; omega
  · simp only [PyData.shown]
    have q := listText_len_le (PyData.shownAll ds)
    rw [i8] at q
    omega
end
/-! ### isinstance of a caught error -/
def rIsG (K : PySem.W.Frag) (a : Addr) (cls : Value) (d : Option Addr) : List V → Hp → VK → Prop := fun xs H Q => ∃ D : Addr, cls = .ref D ∧ d = none ∧ ExcC K D ∧ rIsE K D a xs H Q
theorem c_isG {X : Cx} {a : Addr} {cls : Value} {d : Option Addr} {oe : Obj} {pn : List (Addr × Obj)} (K : PySem.W.Frag) (hz : Zc cls d oe) (hf : ∃ vs, oe.data = .fields vs) (hK : X.K = K := by rfl) :
    CallR (X.suite a ((a, oe) :: pn)) (.builtin "isinstance") (rIsG K a cls d) := by
  subst hK
  intro pins s σ H xs us Q I r h
  obtain ⟨D, rfl, rfl, C, h⟩ := h
  exact call_isE C hz hf pins s σ H xs us Q I r h
theorem r_isG {K : PySem.W.Frag} {a D G : Addr} {b : Bool} {H : Hp} {Q : VK} (C : ExcC K D) (e : PySem.W.kitOne K (.ref D) (.ref G) = some b) (k : Q (.bl b) H) : rIsG K a (.ref D) none [.ref a, .ref G] H Q :=
  ⟨D, rfl, rfl, C, .ref G, .ref G, b, rfl, fun u h => h, e, k⟩
/-! ### fields -/
section
variable {K : PySem.W.Frag} {H : Hp} {Q : VK} {σ : St} {D : Ends} {ta tv : TE} {f : Str} {a C dx : Addr} {fs : List (Str × V)} {v : V}
theorem r_sFld (k : tv σ H fun y H1 => ta σ H1 fun x H2 => ∃ a C dx fs, x = .ref a ∧ H2 a = some (.ins C dx fs) ∧ Cls K C ∧ NoAttr K C f ∧ fs.length < 1000 ∧ D.nx σ (upd H2 a (.ins C dx (putF f y fs)))) : sFld K ta tv f D σ H := k
theorem r_put {R : Hp → Prop} (h : H a = some (.ins C dx fs)) (c : Cls K C) (n : NoAttr K C f) (z : fs.length < 1000) (k : R (upd H a (.ins C dx (putF f v fs)))) :
    ∃ a' C' dx' fs', V.ref a = .ref a' ∧ H a' = some (.ins C' dx' fs') ∧ Cls K C' ∧ NoAttr K C' f ∧ fs'.length < 1000 ∧ R (upd H a' (.ins C' dx' (putF f v fs'))) := ⟨a, C, dx, fs, rfl, h, c, n, z, k⟩
theorem r_fld (k : ta σ H fun x H1 => ∃ a C dx fs v, x = .ref a ∧ H1 a = some (.ins C dx fs) ∧ Cls K C ∧ NoAttr K C f ∧ fs.lookup f = some v ∧ Q v H1) : tFld K ta f σ H Q := k
theorem r_get {R : V → Prop} (h : H a = some (.ins C dx fs)) (c : Cls K C) (n : NoAttr K C f) (l : fs.lookup f = some v) (k : R v) :
    ∃ a' C' dx' fs' v', V.ref a = .ref a' ∧ H a' = some (.ins C' dx' fs') ∧ Cls K C' ∧ NoAttr K C' f ∧ fs'.lookup f = some v' ∧ R v' := ⟨a, C, dx, fs, v, rfl, h, c, n, l, k⟩
end
theorem putF_len {f : Str} {v : V} (l : List (Str × V)) : (putF f v l).length ≤ l.length + 1 := length_putF f v l
/-! ### dicts -/
section
variable {σ : St} {H : Hp} {Q : VK} {D : Ends} {td ty tv : TE}
theorem r_disp {trs : List (TE × TE)} (k : ∀ p, H p = none → tPairs trs σ (upd H p (.dK [])) fun ps H2 => H2 p = some (.dK []) ∧ ∃ kvs : List (Key × V), ps = kvs.map (fun kv => (kV kv.1, kv.2)) ∧ kvs.length ≤ 15 ∧ Q (.ref p) (upd H2 p (.dK (mergeK [] kvs)))) : tDisp trs σ H Q := k
theorem r_pairs {QP : List (V × V) → Hp → Prop} {r : List (TE × TE)} (k : td σ H fun x H1 => tv σ H1 fun y H2 => tPairs r σ H2 fun ps H3 => QP ((x, y) :: ps) H3) : tPairs ((td, tv) :: r) σ H QP := k
theorem r_pairs0 {QP : List (V × V) → Hp → Prop} (k : QP [] H) : tPairs [] σ H QP := k
theorem r_dput (k : tv σ H fun v H1 => td σ H1 fun x H2 => ty σ H2 fun y H3 => ∃ a H4, x = .ref a ∧ DPut H3 a y v H4 ∧ D.nx σ H4) : sDPut td ty tv D σ H := k
theorem r_dget (k : td σ H fun x H1 => ty σ H1 fun y H2 => ∃ a v, x = .ref a ∧ DGet H2 a y (some v) ∧ Q v H2) : tDGet td ty σ H Q := k
theorem r_dg {p : Addr} {kvs : List (Key × V)} {k : Key} {v : V} {R : V → Prop} (h : H p = some (.dK kvs)) (e : valV kvs k = some v) (q : R v) : ∃ a w, V.ref p = .ref a ∧ DGet H a (kV k) (some w) ∧ R w :=
  ⟨p, v, rfl, by rw [← e]; exact DGet.k h, q⟩
theorem r_dp {p : Addr} {kvs : List (Key × V)} {k : Key} {v : V} {R : Hp → Prop} (h : H p = some (.dK kvs)) (z : kvs.length < sizeLine) (q : R (upd H p (.dK (putK kvs k v)))) : ∃ a H4, V.ref p = .ref a ∧ DPut H a (kV k) v H4 ∧ R H4 :=
  ⟨p, _, rfl, DPut.k h z, q⟩
end
/-! ### loops and comprehensions -/
section
variable {σ : St} {H : Hp} {Q : VK} {D : Ends} {K : PySem.W.Frag}
theorem r_rng1 {ta : TA} {R : It → Hp → Prop} (k : ta σ H fun vs H1 => ∃ j : Int, vs = [.int j] ∧ -(2 ^ 62) ≤ j ∧ j < 2 ^ 62 ∧ R (Itr 0 j.toNat) H1) : iRng1 ta σ H R := k
theorem r_rng2 {ta : TA} {R : It → Hp → Prop} (k : ta σ H fun vs H1 => ∃ i j : Int, vs = [.int i, .int j] ∧ (-(2 ^ 62) ≤ i ∧ i < 2 ^ 62 ∧ -(2 ^ 62) ≤ j ∧ j < 2 ^ 62) ∧ R (Itr i (j - i).toNat) H1) : iRng2 ta σ H R := k
theorem r_iL {tl : TE} {R : It → Hp → Prop} (k : tl σ H fun x H1 => ∃ a, x = .ref a ∧ (∃ xs, SqL K H1 a xs) ∧ R (Itl K a) H1) : iList K tl σ H R := k
theorem r_iT {tl : TE} {R : It → Hp → Prop} (k : tl σ H fun x H1 => ∃ a, x = .ref a ∧ (∃ xs, SqT K H1 a xs) ∧ R (Itt K a) H1) : iTup K tl σ H R := k
theorem r_lc {wi : TI} {g : TG} {tt : TT} {te : TE} {vs : List Nat} (k : wi σ H fun J H1 => ∀ D, H1 D = none → ∃ W : Nat → Nat → Hp → Prop, (∃ m, W 0 m (upd H1 D (.lst []))) ∧ ∀ i m H, W i m H →
  (J.stop i H ∧ Q (.ref D) H) ∨ (J.go i H ∧ ∃ Nx : Hp → Prop, (∀ H', Nx H' → ∃ m', m' < m ∧ W (i + 1) m' H') ∧ ∀ x H', J.yld i H x H' → g x (wipe σ vs) H' fun σ2 H2 => wipe σ2 vs = wipe σ vs ∧ tt σ2 H2 fun b H3 =>
    if b = true then te σ2 H3 fun y H4 => ∃ acc, H4 D = some (.lst acc) ∧ acc.length < sizeLine ∧ Nx (upd H4 D (.lst (acc ++ [y]))) else Nx H3)) : tLc wi g tt te vs σ H Q := k
theorem r_gT {n : Nat} {t : TGs} {QS : St → Hp → Prop} {p : Addr} {xs : List V} (h : SqT K H p xs) (e : xs.length = n) (k : t xs σ H QS) : gTup K n t (.ref p) σ H QS := ⟨p, xs, rfl, h, e, k⟩
theorem r_gL {n : Nat} {t : TGs} {QS : St → Hp → Prop} {p : Addr} {xs : List V} (h : SqL K H p xs) (e : xs.length = n) (k : t xs σ H QS) : gLst K n t (.ref p) σ H QS := ⟨p, xs, rfl, h, e, k⟩
theorem r_gCons {t : TG} {u : TGs} {QS : St → Hp → Prop} {v : V} {r : List V} (k : t v σ H fun σ' H' => u r σ' H' QS) : gCons t u (v :: r) σ H QS := ⟨v, r, rfl, k⟩
theorem r_gNil {QS : St → Hp → Prop} (k : QS σ H) : gNil [] σ H QS := ⟨rfl, k⟩
theorem r_yes {QB : Bool → Hp → Prop} (k : QB true H) : tYes σ H QB := k
theorem take_succ {α : Type} : ∀ {l : List α} {i : Nat} {x : α}, l[i]? = some x → l.take (i + 1) = l.take i ++ [x]
  | [], i, x, h => by simp at h
  | a :: l, 0, x, h => by
    simp at h
    subst h
    rfl
  | a :: l, i + 1, x, h => by
    have ih := take_succ (l := l) (i := i) (x := x) (by simpa using h)
    simp only [List.take_succ_cons, ih, List.cons_append]
end
/-! ### what calls raise -/
theorem r_veI {K : PySem.W.Frag} {ta : TA} {σ : St} {H : Hp} {Q : VK} (k : ta σ H fun vs H1 => ∃ (a C : Addr) (ws : List V), vs = .ref a :: ws ∧ ws.length ≤ 1000 ∧ OexC K C ∧ H1 a = some (exo a C none) ∧ Q .non H1) : tVeI K ta σ H Q := k
theorem r_makeS {C : Addr} {sp : Sp} {dvs : List V} {E : St → XK} {t : TA} {σ : St} {H : Hp} {Q : VK} (k : t σ H fun vs H1 => ∀ x dx, H1 x = none → H1 dx = none → dx ≠ x →
  sp (.ref x :: (vs ++ dvs)) (upd (upd H1 dx (.own x)) x (.ins C dx [])) (fun v H2 => v = .non ∧ Q (.ref x) H2) (E σ)) : tMakeS C sp dvs E t σ H Q := k
theorem r_make {C : Addr} {sp : Sp} {dvs : List V} {E : XK} {t : TA} {σ : St} {H : Hp} {Q : VK} (k : t σ H fun vs H1 => ∀ x dx, H1 x = none → H1 dx = none → dx ≠ x →
  sp (.ref x :: (vs ++ dvs)) (upd (upd H1 dx (.own x)) x (.ins C dx [])) (fun v H2 => v = .non ∧ Q (.ref x) H2) E) : tMake C sp dvs E t σ H Q := k
end Hg
end L2
end

section
set_option Elab.async false
set_option linter.all false
set_option maxRecDepth 100000
set_option maxHeartbeats 4000000
/-! Methods and properties of own classes as one hypothesis; tuple * int; what stays of a heap. -/
namespace L2
namespace Hg
open PySem PySem.Spec PyProof.Rows

/-! ### methods -/
structure MetAt (K : PySem.W.Frag) (C : Addr) (m q : Str) (st : Stmt) : Prop where
  cl : Cls K C
  ex : ∃ f fd, Meth K C m f ∧ Fun K m q st f fd
def MetOk (P : Program) (w : World) (K : PySem.W.Frag) (mg : Str → Option Value) (base : Heap) (CX : CXT) (k : Nat) (C : Addr) (m : Str) (ps : List Str) (sp : Sp) : Prop :=
  Cls K C ∧ ∃ f fd, Meth K C m f ∧ FnOk P w K mg base CX k f fd ps sp ∧ Binds K fd ps []
structure PrpAt (K : PySem.W.Frag) (C : Addr) (m q : Str) (st : Stmt) : Prop where
  cl : Cls K C
  ex : ∃ p g fd, PropOf K C m p g ∧ Fun K m q st g fd
def PrpOk (P : Program) (w : World) (K : PySem.W.Frag) (mg : Str → Option Value) (base : Heap) (CX : CXT) (k : Nat) (C : Addr) (m : Str) (sp : Sp) : Prop :=
  Cls K C ∧ ∃ p g fd, PropOf K C m p g ∧ FnOk P w K mg base CX k g fd ["self"] sp ∧ Binds K fd ["self"] []
section
variable {P : Program} {w : World} {K : PySem.W.Frag} {mg : Str → Option Value} {base : Heap} {k : Nat} {m q : Str} {st : Stmt} {C : Addr} {N ps : List Str} {sp : Sp}
theorem MetAt.ok (F : MetAt K C m q st) (S : FnScope N ps (defScope st)) (hb : BindsAs st m q ps) (len : ∀ vs H Q E, sp vs H Q E → vs.length = ps.length)
    (hbody : ∀ (f : Addr) (cdv : Value) (A : Around) (outer : List Env) (s : Shared) (H : Hp) (vs : List V) (Q : VK) (E : XK), Room k (A.deeper (envOfC q (defScope st) s.heap.objs.size f cdv)) → sp vs H Q E →
      ∃ t, PSs (cxOf CX0 P w K mg base N q (defScope st) f cdv A outer s H E).nox (defBody st) t ∧ t { nx := fun _ H' => Q .non H', rt := Q } (start N vs) H) : MetOk P w K mg base CX0 (k + 1) C m ps sp := by
  obtain ⟨f, fd, hm, F1⟩ := F.ex
  exact ⟨F.cl, f, fd, hm, F1.ok S len fun cdv A outer s H vs Q E hr h => hbody f cdv A outer s H vs Q E hr h, F1.binds hb⟩
theorem MetAt.okX (F : MetAt K C m q st) (S : FnScope N ps (defScope st)) (hb : BindsAs st m q ps) (len : ∀ vs H Q E, sp vs H Q E → vs.length = ps.length)
    (hbody : ∀ (f : Addr) (cdv : Value) (A : Around) (outer : List Env) (s : Shared) (H : Hp) (vs : List V) (Q : VK) (E : XK), Room k (A.deeper (envOfC q (defScope st) s.heap.objs.size f cdv)) → sp vs H Q E →
      ∃ t, PSs (cxOf (L2.CX P w) P w K mg base N q (defScope st) f cdv A outer s H E) (defBody st) t ∧ t { nx := fun _ H' => Q .non H', rt := Q } (start N vs) H) : MetOk P w K mg base (L2.CX P w) (k + 1) C m ps sp := by
  obtain ⟨f, fd, hm, F1⟩ := F.ex
  exact ⟨F.cl, f, fd, hm, F1.okX S len fun cdv A outer s H vs Q E hr h => hbody f cdv A outer s H vs Q E hr h, F1.binds hb⟩
theorem PrpAt.ok (F : PrpAt K C m q st) (S : FnScope N ["self"] (defScope st)) (hb : BindsAs st m q ["self"]) (len : ∀ vs H Q E, sp vs H Q E → vs.length = 1)
    (hbody : ∀ (f : Addr) (cdv : Value) (A : Around) (outer : List Env) (s : Shared) (H : Hp) (vs : List V) (Q : VK) (E : XK), Room k (A.deeper (envOfC q (defScope st) s.heap.objs.size f cdv)) → sp vs H Q E →
      ∃ t, PSs (cxOf CX0 P w K mg base N q (defScope st) f cdv A outer s H E).nox (defBody st) t ∧ t { nx := fun _ H' => Q .non H', rt := Q } (start N vs) H) : PrpOk P w K mg base CX0 (k + 1) C m sp := by
  obtain ⟨p, f, fd, hm, F1⟩ := F.ex
  exact ⟨F.cl, p, f, fd, hm, F1.ok S len fun cdv A outer s H vs Q E hr h => hbody f cdv A outer s H vs Q E hr h, F1.binds hb⟩
end
section
variable {X : Cx} {CX : CXT} {k : Nat} {C : Addr} {m : Str} {ps : List Str} {sp : Sp} {E : XK} {ES : St → XK} {o e : Expr} {es : List Expr} {ta : TE} {t : TA} {apos pos : Pos}
theorem pe_metD {pl : Sem Bool} (F : MetOk X.prog X.w X.K X.mg X.base CX k C m ps sp) (hr : Room k X.A) (hx : Passes CX X E) (he : PE X o ta) (ha : PA X (e :: es) t)
    (hst : starEach (e :: es) X.env = (false, eval e X.env) :: starEach es X.env := by rfl) (hpl : (backTo pos (starEach es X.env)).any (·.1) = false := by rfl)
    (ht : eval (.Call (.Attribute o m apos) (e :: es) [] pos) X.env = (do
      let ov ← eval o X.env
      standAt apos.atName
      let (f, first) ← holding [ov] (getMethod ov m pl)
      callWith pos f first (backTo pos (starEach (e :: es) X.env)) (backToKw pos (keywordEach [] X.env))) := by rfl) :
    PE X (.Call (.Attribute o m apos) (e :: es) [] pos) (tMeth C m sp [] E ta t) :=
  let ⟨c, _, _, hm, G, hb⟩ := F
  pe_meth he c hm G hr hb .nil hx ha hst hpl ht
theorem pe_metD0 {pl : Sem Bool} (F : MetOk X.prog X.w X.K X.mg X.base CX k C m ps sp) (hr : Room k X.A) (hx : Passes CX X E) (he : PE X o ta)
    (ht : eval (.Call (.Attribute o m apos) [] [] pos) X.env = (do
      let ov ← eval o X.env
      standAt apos.atName
      let (f, first) ← holding [ov] (getMethod ov m pl)
      callWith pos f first (backTo pos (starEach [] X.env)) (backToKw pos (keywordEach [] X.env))) := by rfl) :
    PE X (.Call (.Attribute o m apos) [] [] pos) (tMeth C m sp [] E ta tNil) :=
  let ⟨c, _, _, hm, G, hb⟩ := F
  pe_meth0 he c hm G hr hb .nil hx ht
/-- o.m(e, ..) where what is raised is wished at the slots -/
def tMetS (C : Addr) (m : Str) (sp : Sp) (E : St → XK) (ta : TE) (t : TA) : TE := fun σ H Q => ta σ H fun x H1 => ∃ a dx fs, x = .ref a ∧ H1 a = some (.ins C dx fs) ∧ fs.lookup m = none ∧
  t σ H1 fun vs H2 => sp (x :: vs) H2 Q (E σ)
theorem pe_metDS {pl : Sem Bool} (F : MetOk X.prog X.w X.K X.mg X.base CX k C m ps sp) (hr : Room k X.A) (hx : ∀ σ, PassesAt CX X σ (ES σ)) (he : PE X o ta) (ha : PA X (e :: es) t)
    (hst : starEach (e :: es) X.env = (false, eval e X.env) :: starEach es X.env := by rfl) (hpl : (backTo pos (starEach es X.env)).any (·.1) = false := by rfl)
    (ht : eval (.Call (.Attribute o m apos) (e :: es) [] pos) X.env = (do
      let ov ← eval o X.env
      standAt apos.atName
      let (f, first) ← holding [ov] (getMethod ov m pl)
      callWith pos f first (backTo pos (starEach (e :: es) X.env)) (backToKw pos (keywordEach [] X.env))) := by rfl) :
    PE X (.Call (.Attribute o m apos) (e :: es) [] pos) (tMetS C m sp ES ta t) := by
  obtain ⟨c, f, fd, hm, G, hb⟩ := F
  refine ⟨fun pins s σ H Q I h => ?_⟩
  refine PySem.W.methodCall_KW (pl := pl) (thn (he.run pins s σ H _ I h) fun u s1 ⟨x, H1, I1, rx, a, dx, fs, ex, ea, l, q⟩ => ?_) ht
  subst ex
  obtain rfl : u = Value.ref a := rx
  refine getmeth_ok I1 ea c hm l ?_
  refine PySem.W.callWith_K (first := [.ref a]) (h₀ := X.base) I.ok.mod.kin hm.kp (thn (ha.run pos pins s1 σ H1 _ I1 q) fun us s2 ⟨vs, H2, I2, r, q2⟩ => ⟨I2.kIn, ?_⟩) hst hpl
  exact run_fnS (us := .ref a :: us) (vs := .ref a :: vs) G hr hb (hx σ) I2 (.cons rfl r) q2
theorem pe_prpD (F : PrpOk X.prog X.w X.K X.mg X.base CX k C m sp) (hr : Room (k + 1) X.A) (hx : Passes CX X.nox E) (he : PE X e ta)
    (hab : attributeBase e m X.env (eval e X.env) = eval e X.env := by rfl) : PE X (.Attribute e m pos) (tProp C sp [] E ta) :=
  let ⟨c, _, _, _, hm, G, hb⟩ := F
  pe_prop he c hm G hr hb .nil hx hab
variable {σ : St} {H : Hp} {Q : VK} {dvs : List V}
theorem r_meth (k : ta σ H fun x H1 => ∃ a dx fs, x = .ref a ∧ H1 a = some (.ins C dx fs) ∧ fs.lookup m = none ∧ t σ H1 fun vs H2 => sp (x :: (vs ++ dvs)) H2 Q E) : tMeth C m sp dvs E ta t σ H Q := k
theorem r_metS (k : ta σ H fun x H1 => ∃ a dx fs, x = .ref a ∧ H1 a = some (.ins C dx fs) ∧ fs.lookup m = none ∧ t σ H1 fun vs H2 => sp (x :: vs) H2 Q (ES σ)) : tMetS C m sp ES ta t σ H Q := k
theorem r_prop (k : ta σ H fun x H1 => ∃ a dx fs, x = .ref a ∧ H1 a = some (.ins C dx fs) ∧ sp (.ref a :: dvs) H1 Q E) : tProp C sp dvs E ta σ H Q := k
theorem r_obj {R : Prop} {a dx : Addr} {fs : List (Str × V)} (h : H a = some (.ins C dx fs)) (l : fs.lookup m = none) (k : R) :
    ∃ a' dx' fs', V.ref a = .ref a' ∧ H a' = some (.ins C dx' fs') ∧ fs'.lookup m = none ∧ R := ⟨a, dx, fs, rfl, h, l, k⟩
theorem r_pobj {R : Addr → Prop} {a dx : Addr} {fs : List (Str × V)} (h : H a = some (.ins C dx fs)) (k : R a) :
    ∃ a' dx' fs', V.ref a = .ref a' ∧ H a' = some (.ins C dx' fs') ∧ R a' := ⟨a, dx, fs, rfl, h, k⟩
/-! ### stars, parallel stores -/
variable {K : PySem.W.Frag} {te : TE} {QL : List V → Hp → Prop} {D : Ends} {i j l : Nat}
theorem r_star (k : te σ H fun x H1 => ∃ p xs, x = V.ref p ∧ (SqT K H1 p xs ∨ SqL K H1 p xs) ∧ t σ H1 fun ys H2 => QL (xs ++ ys) H2) : StX.tStar K te t σ H QL := k
theorem r_st {R : List V → Prop} {p : Addr} {xs : List V} (h : SqT K H p xs ∨ SqL K H p xs) (k : R xs) : ∃ p' xs', V.ref p = V.ref p' ∧ (SqT K H p' xs' ∨ SqL K H p' xs') ∧ R xs' := ⟨p, xs, rfl, h, k⟩
theorem r_par (k : t σ H fun vs H1 => ∃ v w, vs = [v, w] ∧ D.nx ((σ.set i (some v)).set j (some w)) H1) : tPar i j t D σ H := k
theorem r_par3 (k : t σ H fun vs H1 => ∃ u v w, vs = [u, v, w] ∧ D.nx (((σ.set i (some u)).set j (some v)).set l (some w)) H1) : tPar3 i j l t D σ H := k
theorem r_v2 {v w : V} {R : V → V → Prop} (k : R v w) : ∃ v' w', [v, w] = [v', w'] ∧ R v' w' := ⟨v, w, rfl, k⟩
theorem r_v3 {u v w : V} {R : V → V → V → Prop} (k : R u v w) : ∃ u' v' w', [u, v, w] = [u', v', w'] ∧ R u' v' w' := ⟨u, v, w, rfl, k⟩
/-! ### slices -/
variable {r : V → Option Int → Option Int → Hp → VK → Prop} {tl th : TO} {QO : Option Int → Hp → Prop}
theorem r_sl (k : te σ H fun x H1 => tl σ H1 fun l H2 => th σ H2 fun u H3 => r x l u H3 Q) : tSl r te tl th σ H Q := k
theorem r_part (k : te σ H fun x H1 => ∃ i, x = .int i ∧ QO (some i) H1) : tPart te σ H QO := k
theorem r_noPart (k : QO none H) : tNoPart σ H QO := k
theorem r_i {n : Int} {R : Int → Prop} (k : R n) : ∃ i, V.int n = .int i ∧ R i := ⟨n, rfl, k⟩
theorem pa_starK (K : PySem.W.Frag) {X : Cx} {e : Expr} {es : List Expr} {te : TE} {t : TA} {p : Pos} (he : PE X e te) (hr : PA X es t) (hs : starEach (.Starred e p :: es) X.env = (true, eval e X.env) :: starEach es X.env := by rfl) (hK : X.K = K := by rfl) : PA X (.Starred e p :: es) (StX.tStar K te t) := hK ▸ StX.pa_star he hr hs
theorem slT (K : PySem.W.Frag) {X : Cx} (hK : X.K = K := by rfl) : SlR X (rSlT K) := hK ▸ sl_tup
end
/-! ### cuts -/
def tSeqC (t u : TS) : TS := fun D σ H => ∃ P : St → Hp → Prop, t { D with nx := P } σ H ∧ ∀ σ' H', P σ' H' → u D σ' H'
theorem pss_cut {X : Cx} {st : Stmt} {rest : List Stmt} {t u : TS} (h1 : PS X st t) (h2 : PSs X rest u) : PSs X (st :: rest) (tSeqC t u) := by
  refine ⟨fun pins s σ H D I h => ?_⟩
  obtain ⟨P, h, q0⟩ := h
  refine wpAny_execs_cons (thn (h1.run pins s σ H { D with nx := P } I h) fun f s1 q => ?_)
  cases f with
  | next =>
    obtain ⟨σ', H', I', q⟩ := q
    exact h2.run pins s1 σ' H' D I' (q0 _ _ q)
  | ret v => exact q
  | brk => exact q
  | cont => exact q
theorem r_cut {t u : TS} {D : Ends} {σ : St} {H : Hp} (P : St → Hp → Prop) (h : t { D with nx := P } σ H) (k : ∀ σ' H', P σ' H' → u D σ' H') : tSeqC t u D σ H := ⟨P, h, k⟩
def tCut (t : TE) : TE := fun σ H Q => ∃ P : VK, t σ H P ∧ ∀ v H', P v H' → Q v H'
theorem pe_cut {X : Cx} {e : Expr} {t : TE} (h : PE X e t) : PE X e (tCut t) := by
  refine ⟨fun pins s σ H Q I hq => ?_⟩
  obtain ⟨P, hq, q0⟩ := hq
  refine thn (h.run pins s σ H P I hq) fun u s1 ⟨v, H1, I1, r, q⟩ => ⟨v, H1, I1, r, q0 _ _ q⟩
theorem r_cutE {t : TE} {σ : St} {H : Hp} {Q : VK} (P : VK) (h : t σ H P) (k : ∀ v H', P v H' → Q v H') : tCut t σ H Q := ⟨P, h, k⟩
def tCutT (t : TT) : TT := fun σ H Q => ∃ P : Bool → Hp → Prop, t σ H P ∧ ∀ v H', P v H' → Q v H'
theorem pt_cut {X : Cx} {e : Expr} {t : TT} (h : PT X e t) : PT X e (tCutT t) := by
  refine ⟨fun pins s σ H Q I hq => ?_⟩
  obtain ⟨P, hq, q0⟩ := hq
  exact thn (h.run pins s σ H P I hq) fun u s1 ⟨H1, I1, q⟩ => ⟨H1, I1, q0 _ _ q⟩
theorem r_cutT {t : TT} {σ : St} {H : Hp} {Q : Bool → Hp → Prop} (P : Bool → Hp → Prop) (h : t σ H P) (k : ∀ v H', P v H' → Q v H') : tCutT t σ H Q := ⟨P, h, k⟩
/-! ### tuple * int -/
theorem tuple_mul1 (l : Addr) (items : Array Value) (n : Nat) (dd : Option Addr) (sl : Array (Option Value)) (u : Tok) :
    Meets (Builtin.«tuple.__mul__» ⟨[.ref l, .int 1 u], []⟩) (fun _ R s => s.heap.get? l = some { cls := .type "tuple", dict := dd, data := .seq items n, slots := sl } ∧ R (.ok (.ret (Value.ref l))) s) :=
  .of_wp fun prog w A R s h => by
    obtain ⟨hp, g, d, tk, os⟩ := s
    obtain ⟨hl, h⟩ := h
    have f1 := AutoSeq1.idx_int
    have c1 : (items.isEmpty || (1 : Int) == 1) = true := by rw [Bool.or_eq_true]; exact .inr rfl
    have c0 : (decide ((1 : Int) < -(2 ^ 63)) || decide ((1 : Int) ≥ 2 ^ 63)) = false := by decide
    wp_walk using wpAny_loadPart' hl
    repeat (first
      | (refine wpAny_ite_false (decide_eq_false (by rw [c0]; exact Bool.false_ne_true)) ?_; wp_walk using wpAny_loadPart' hl)
      | (refine wpAny_ite_true (decide_eq_true c1) ?_; wp_walk using wpAny_loadPart' hl))
    exact ⟨_, rfl, h⟩
def rRep1 (K : PySem.W.Frag) : R2 := fun x y H Q => ∃ l xs, x = .ref l ∧ y = .int 1 ∧ SqT K H l xs ∧ Q (.ref l) H
theorem op_rep1 {X : Cx} : OpR X (binaryOp .Mult) (rRep1 X.K) := by
  intro pins s σ H x y v u Q I rx ry h
  obtain ⟨l, xs, rfl, rfl, hT, q⟩ := h
  cases rx
  obtain ⟨t, rfl⟩ := ry
  obtain ⟨its, r, ⟨⟨cls, dd, data, sl⟩, ho, hc, n, hd⟩, hs⟩ := I.tuple hT
  simp only at hc hd
  subst hc hd
  refine wpAny_binaryOp_repeat_ref (T := "tuple") (U := "int") (by decide) ⟨_, ho, rfl⟩ (fun s' => typeIs_int s' 1 t) noFill_tuple_mul F.fills_int_mul F.slot_int_rmul repeat_tuple F.slot_int_index.lookup
    (call_meets F.slot_int_rmul (typeIs_int s 1 t) F.entry_int_rmul (F.args_int_rmul_2 _ _) (int_rmul_tuple 1 t l its.toArray n dd sl)
      ⟨ho, rfl, ⟨_, ho, rfl⟩, call_meets F.slot_tuple_mul ⟨_, ho, rfl⟩ F.entry_tuple_mul (F.args_tuple_mul_2 _ _) (tuple_mul1 l its.toArray n dd sl t) ⟨ho, ?_⟩⟩)
  exact ⟨.ref l, H, I, rfl, q⟩
def uMulT (K : PySem.W.Frag) : R2 := fun x y H Q => rRep1 K x y H Q ∨ rRepT K x y H Q
theorem o_mulT (K : PySem.W.Frag) {X : Cx} (hK : X.K = K := by rfl) : OpR X (binaryOp .Mult) (uMulT K) := hK ▸ OpR.or op_rep1 op_repT
theorem flat_one {α : Type} (n : Nat) (x : α) : (List.replicate n [x]).flatten = List.replicate n x := by
  induction n with
  | zero => rfl
  | succ n ih => rw [List.replicate_succ, List.flatten_cons, ih]; rfl
theorem r_mulT1 {K : PySem.W.Frag} {H : Hp} {Q : VK} {l : Addr} {v : V} {k : Int} (h : H l = some (.tup [v])) (h1 : 1 ≤ k) (h2 : k ≤ 1000)
    (q : ∀ (p : Addr) (H' : Hp), Same H H' → H' p = some (.tup (List.replicate k.toNat v)) → Q (.ref p) H') : uMulT K (.ref l) (.int k) H Q := by
  by_cases e : k = 1
  · subst e
    exact .inl ⟨l, _, rfl, rfl, SqT.of h, q l H (fun _ _ z => z) h⟩
  · refine .inr ⟨l, k, _, rfl, rfl, SqT.of h, by simp, by omega, h2, by simp, fun p hp => q p _ (same_new hp) ?_⟩
    rw [upd_same, flat_one]
/-! ### what stays -/
/-- all tuples stay -/
def Tk (H H' : Hp) : Prop := ∀ q xs, H q = some (.tup xs) → H' q = some (.tup xs)
section
variable {H0 H H' H1 H2 : Hp} {p b a : Addr} {o : HO}
theorem Tk.refl : Tk H H := fun _ _ h => h
theorem Tk.trans (h : Tk H H1) (g : Tk H1 H2) : Tk H H2 := fun q xs e => g q xs (h q xs e)
theorem Same.refl : Same H H := fun _ _ h => h
theorem Same.at (s : Same H H1) (h : H p = some o) : H1 p = some o := s p o h
theorem Same.tk (h : Same H H') : Tk H H' := fun q xs e => h q _ e
theorem Bx.tk (h : Bx b H H') (hb : BoxAt H b) : Tk H H' := fun q xs e => h.keep q _ (hb.ne e fun _ _ _ z => nomatch z) e
theorem Tk.new (h : Tk H0 H) (hp : H p = none) : Tk H0 (upd H p o) := fun q xs e => at_upd (ne_of_none (h q xs e) hp) (h q xs e)
theorem Tk.newF (h : Tk H0 H) (hp : H0 p = none) : Tk H0 (upd H p o) := fun q xs e => at_upd (ne_of_none e hp) (h q xs e)
theorem Tk.setL {xs : List V} (h : Tk H0 H) (hp : H p = some (.lst xs)) : Tk H0 (upd H p o) := fun q ys e => by
  have g := h q ys e
  refine at_upd (fun z => ?_) g
  subst z
  rw [hp] at g
  exact nomatch Option.some.inj g
theorem Tk.setI {C dx : Addr} {fs : List (Str × V)} (h : Tk H0 H) (hp : H p = some (.ins C dx fs)) : Tk H0 (upd H p o) := fun q ys e => by
  have g := h q ys e
  refine at_upd (fun z => ?_) g
  subst z
  rw [hp] at g
  exact nomatch Option.some.inj g
theorem Same.updF (s : Same H0 H) (h : H0 p = none) : Same H0 (upd H p o) := fun q u e => at_upd (ne_of_none e h) (s q u e)
theorem Same.new (s : Same H0 H) (h : H p = none) : Same H0 (upd H p o) := fun q u e => at_upd (ne_of_none (s q u e) h) (s q u e)
theorem Same.bx (s : Same H0 H) (hx : Bx b H H') (h : H0 b = none) : Same H0 H' := fun q u e => hx.keep q u (ne_of_none e h) (s q u e)
theorem Same.free (s : Same H0 H) (h : H p = none) : H0 p = none := by
  cases e : H0 p with
  | none => rfl
  | some u => rw [s p u e] at h; cases h
theorem BoxAt.same (h : BoxAt H b) (s : Same H H') : BoxAt H' b := let ⟨x, y, z, q⟩ := h; ⟨x, y, z, s _ _ q⟩
theorem BoxAt.at (h : BoxAt H b) (n : b ≠ p) : BoxAt (L2.upd H p o) b := let ⟨x, y, z, q⟩ := h; ⟨x, y, z, at_upd n q⟩
/-- all stays but x -/
def Kx (x : Addr) (H H' : Hp) : Prop := ∀ q o, q ≠ x → H q = some o → H' q = some o
theorem Kx.at (k : Kx a H H') (n : p ≠ a) (h : H p = some o) : H' p = some o := k p o n h
theorem Kx.refl : Kx a H H := fun _ _ _ h => h
theorem Kx.trans (h : Kx a H H1) (g : Kx a H1 H2) : Kx a H H2 := fun q o n e => g q o n (h q o n e)
theorem Kx.set (h : Kx a H H1) : Kx a H (upd H1 a o) := fun q u n e => at_upd n (h q u n e)
theorem Kx.new (h : Kx a H H1) (hp : H p = none) : Kx a H (upd H1 p o) := fun q u n e => at_upd (ne_of_none e hp) (h q u n e)
theorem Kx.same (h : Kx a H H1) (s : Same H1 H2) : Kx a H H2 := fun q u n e => s q u (h q u n e)
theorem Same.kx (s : Same H0 H) (k : Kx a H H') (h : H0 a = none) : Same H0 H' := fun q u e => k q u (ne_of_none e h) (s q u e)
theorem Kx.tk {C dx : Addr} {fs : List (Str × V)} (k : Kx a H H') (hp : H a = some (.ins C dx fs)) : Tk H H' := fun q ys e => k q _ (fun z => by
  subst z
  rw [hp] at e
  exact nomatch Option.some.inj e) e
theorem BoxAt.fresh (h : BoxAt H b) (hp : H p = none) : b ≠ p := fun e => by
  obtain ⟨x, y, z, q⟩ := h
  rw [e, hp] at q
  exact nomatch q
/-- a pick of a list that was just written -/
theorem r_pickN {K : PySem.W.Frag} {Q : VK} {E : XK} {xs : List V} (h : BoxAt H b) (hp : H p = none) (h1 : 1 ≤ xs.length) (h2 : xs.length < 1000000) (k : ∀ (v : V) (H' : Hp), v ∈ xs → Bx b H H' → Q v H') :
    spPick K [.ref b, .ref p] (upd H p (.lst xs)) Q E :=
  ⟨b, p, xs, rfl, h.upd hp, .inl (SqL.of upd_same), Ne.symm (h.fresh hp), h1, h2, fun v H' hv hx => k v H' hv (((Bx.refl h).upd hp).trans hx)⟩
theorem r_pickT {K : PySem.W.Frag} {Q : VK} {E : XK} {xs : List V} (h : BoxAt H b) (hp : H p = none) (h1 : 1 ≤ xs.length) (h2 : xs.length < 1000000) (k : ∀ (v : V) (H' : Hp), v ∈ xs → Bx b H H' → Q v H') :
    spPick K [.ref b, .ref p] (upd H p (.tup xs)) Q E :=
  ⟨b, p, xs, rfl, h.upd hp, .inr (SqT.of upd_same), Ne.symm (h.fresh hp), h1, h2, fun v H' hv hx => k v H' hv (((Bx.refl h).upd hp).trans hx)⟩
theorem r_take {Q : VK} {E : XK} {m : Int} (h : BoxAt H b) (h1 : 1 ≤ m) (h2 : m < 1000000000) (k : ∀ (d : Int) (H' : Hp), 0 ≤ d → d < m → Bx b H H' → Q (.int d) H') : spTake [.ref b, .int m] H Q E := ⟨b, m, rfl, h, h1, h2, k⟩
theorem ne_kind {u : HO} (h : H p = some o) (g : H a = some u) (n : o ≠ u) : p ≠ a := fun e => by
  subst e
  rw [h] at g
  exact n (Option.some.inj g)
theorem Same.seqL {K : PySem.W.Frag} {l : Addr} {xs : List V} (s : Same H H') (q : SqL K H l xs) : SqL K H' l xs := by
  rcases q with (q | ⟨u, q⟩) | q
  · exact .inl (.inl (s _ _ q))
  · exact .inl (.inr ⟨u, s _ _ q⟩)
  · exact .inr q
end
end Hg
end L2
end

section
set_option Elab.async false
set_option linter.all false
set_option maxRecDepth 100000
set_option maxHeartbeats 4000000
/-! The end of a law's row from a promise that is asked where no guard is set. -/
namespace L2
namespace Hg
open PySem PySem.Spec PyProof.Rows

theorem kit_sub {K : PySem.W.Frag} {C D : Addr} {b : Bool} (hd : PySem.W.hasDictIn K C = true) (ht : PySem.W.typeIn K (.ref C) = some (.type "type")) (h : PySem.W.subIn K (.ref D) (.ref C) = some b) (self : PySem.W.subIn K (.ref D) (.ref D) = some true) : PySem.W.kitOne K (.ref D) (.ref C) = some b := by
  obtain ⟨cd, hc, _⟩ := PySem.W.any_some hd
  have e2 : ((PySem.W.clsIn K C).isSome && PySem.W.typeIn K (.ref C) == some (.type "type")) = true := by rw [hc, ht] <;> rfl
  by_cases e : D = C
  · subst e
    rw [self] at h
    cases h
    show (if ((Value.ref D == Value.ref D) = true) then some true else _) = some true
    rw [if_pos (beq_self_eq_true _)]
  · show (if ((Value.ref D == Value.ref C) = true) then some true else (if ((PySem.W.clsIn K C).isSome && PySem.W.typeIn K (.ref C) == some (.type "type")) = true then PySem.W.subIn K (.ref D) (.ref C) else none)) = some b
    rw [if_neg (fun z => e (by have := beq_iff_eq.mp z; cases this; rfl)), if_pos e2]
    exact h

theorem law_callG {P : Program} {w : World} {K : PySem.W.Frag} {mg mb : Str → Option Value} {k : Nat} {fa a : Addr} {nm x : Str} {sp : Sp} {s₁ : Shared} {vs : List Value} {ns : List Int}
    (KX : K.In s₁.heap) (hns : s₁.heap.Ns mainGlobals mg) (hb : s₁.heap.Ns builtinsNs mb) (hbb : ∀ x : Str, x ≠ "__name__" → mb x = bootBuiltins x) (hlim : s₁.heap.NoLimit) (hg : s₁.gens = #[])
    (ha : s₁.heap.get? a = some { cls := .type "list", data := .seq vs.toArray }) (hi : IntsAre vs ns) (hl : ns.length ≤ sizeLine) (hr : Room k callerA)
    (hmg : mg nm = some (.ref fa)) (F : ∀ base : Heap, K.In base → base.Ns mainGlobals mg → DefG P w K mg base CX0 k nm [x] sp)
    (hsp : ∀ H : Hp, SqL K H a (ns.map V.int) → sp [.ref a] H (fun v _ => v = .bl true) fun _ _ _ => False) :
    codeAny (model P w) callerA (.call (.ref fa) ⟨[.ref a], []⟩) (fun r s' => r = .ok (.ret (.bool true)) ∧ OldK s₁.heap s'.heap ∧ s'.os = s₁.os ∧ AllBare s'.gens) s₁ := by
  have rv := vals_ints hi
  have lenV := hi.length
  have core : ∀ H : Hp, Only H → SqL K H a (ns.map V.int) → HOk P w H s₁.heap → (∀ b, H b ≠ none → b = a) → (H a ≠ none → K.lookup a = none) →
      codeAny (model P w) callerA (.call (.ref fa) ⟨[.ref a], []⟩) (fun r s' => r = .ok (.ret (.bool true)) ∧ OldK s₁.heap s'.heap ∧ s'.os = s₁.os ∧ AllBare s'.gens) s₁ := by
    intro H hO hS hok hA hK
    have only : ∀ {b : Addr}, H b ≠ none → b = a := fun {b} n => hA b n
    have hidK : ∀ {b : Addr} {o : Obj}, s₁.heap.get? b = some o → H b = none → (hidT s₁.heap H).get? b = some o := fun z n => hidT_get z n
    have noDict : ∀ {b : Addr} {o : Obj} {es : Array DictEntry} {ep : Nat}, s₁.heap.get? b = some o → o.data = .dict es ep → H b = none := by
      intro b o es ep z d
      cases q : H b with
      | none => rfl
      | some u =>
        obtain rfl : b = a := only (by rw [q]; simp)
        rw [ha] at z
        cases z
        cases (show Data.seq vs.toArray _ = Data.dict es ep from d)
    have nsK : ∀ {b : Addr} {m : Str → Option Value}, s₁.heap.Ns b m → (hidT s₁.heap H).Ns b m := by
      rintro b m ⟨o, es, ep, z, d, r⟩
      exact ⟨o, es, ep, hidK z (noDict z d), d, r⟩
    have hKb : K.In (hidT s₁.heap H) := by
      intro b o z
      refine hidK (KX b o z) ?_
      cases q : H b with
      | none => rfl
      | some u =>
        obtain rfl : b = a := only (by rw [q]; simp)
        rw [hK (by rw [q]; simp)] at z
        cases z
    have hM : Mod K mg (hidT s₁.heap H) := by
      obtain ⟨mc, h1, h2⟩ := hlim
      exact ⟨hKb, nsK hns, ⟨mb, nsK hb, hbb⟩, ⟨mc, nsK h1, h2⟩⟩
    have e0 : Env0 P w K mg (hidT s₁.heap H) callerA [] s₁ H := by
      refine ⟨rfl, hM, fun b o z => of_hidT z, Nat.le_of_eq (hidT_size _ _), trivial, fun b hb => ?_, hok, .of_eq hg⟩
      cases (show b ∈ ([] : List Addr) from hb)
    obtain ⟨f, fd, hm, _, FG, hbind⟩ := F _ hKb (nsK hns)
    rw [hmg] at hm
    cases hm
    have main := FG.run callerA [] s₁ H ⟨[.ref a], []⟩ [.ref a] [.ref a] _ _ rfl hr e0 (hbind s₁ [.ref a] KX rfl) (.cons rfl .nil) (hsp H hS)
    refine codeAny_mono main fun r s' h => ?_
    cases r with
    | error e => exact False.elim h
    | ok fl =>
      cases fl with
      | next => exact False.elim h
      | brk => exact False.elim h
      | cont => exact False.elim h
      | ret u =>
        obtain ⟨v, H', os, bare, un, hok', r', q⟩ := h
        obtain rfl : v = .bl true := q
        obtain rfl : u = Value.bool true := r'
        refine ⟨rfl, OldK.of_keep fun b o z => ?_, os, bare⟩
        cases q : H b with
        | none => exact un.keep b o z q (fun y => by cases (show b ∈ ([] : List Addr) from y)) (by simp)
        | some u =>
          rcases hO b with y | ⟨ob, xs, y⟩
          · rw [q] at y; cases y
          · obtain ⟨e1, _⟩ := hok b _ y
            obtain ⟨e2, _⟩ := hok' b _ (un.frzs b ob _ y)
            rw [z] at e1
            cases e1
            exact e2
  cases hk : K.lookup a with
  | some o =>
    have z := KX a o hk
    rw [ha] at z
    cases z
    refine core (fun _ => none) (fun _ => .inl rfl) (.inr ⟨_, vs.toArray, _, hk, rfl, rfl, rfl, ?_, by simpa using rv⟩) (fun b u y => ?_) (fun b y => absurd rfl y) fun y => absurd rfl y
    · rw [List.size_toArray, lenV]; exact hl
    · cases (show (none : Option HO) = some u from y)
  | none =>
    let ob : Obj := { cls := .type "list", data := .seq vs.toArray }
    refine core (fun b => if b = a then some (.frz ob (.lst (ns.map V.int))) else none) (fun b => ?_) (.inl (.inr ⟨ob, if_pos rfl⟩)) (fun b u y => ?_) (fun b y => ?_) fun _ => hk
    · by_cases e : b = a
      · exact .inr ⟨_, _, if_pos e⟩
      · exact .inl (if_neg e)
    · by_cases e : b = a
      · have y' := (if_pos e).symm.trans y
        cases y'
        subst e
        exact ⟨ha, by rw [List.length_map]; exact hl, vs, _, rv, ha⟩
      · have y' := (if_neg e).symm.trans y
        cases y'
    · by_cases e : b = a
      · exact e
      · exact absurd (if_neg e) y

theorem walk_ofG {l : PySem.W.OpenLaw} {n k : Nat} {q : Program} {loose : List Str} {XP : (Str → Option Value) → Heap → Prop} {YP : World → Heap → Prop} {d : DefRec} {K : Params → PySem.W.Frag} {sp : PySem.W.Frag → Sp} {x : Str}
    (hn : l.most = some n) (hn2 : n ≤ sizeLine) (hdf : d.params.defaults = []) (hr : Room k callerA)
    (hY : ∀ (w : World) (h : Heap), YP w h → (K w.params).In h)
    (F : ∀ (w : World) (mg : Str → Option Value) (h : Heap), (K w.params).In h → h.Ns mainGlobals mg →
      ∀ base : Heap, (K w.params).In base → base.Ns mainGlobals mg → DefG l.prog w (K w.params) mg base CX0 k d.name [x] (sp (K w.params)))
    (hsp : ∀ (K : PySem.W.Frag) (H : Hp) (a : Addr) (ns : List Int), ns.length ≤ n → SqL K H a (ns.map V.int) → sp K [.ref a] H (fun v _ => v = .bl true) fun _ _ _ => False) :
    PySem.W.WalkO q loose XP YP l.row.toRowW d [] (fun f vs => PySem.call f vs) := by
  refine Att.attach_call hn hdf fun w s₀ s₁ mg mb fa o pm cd doc a vs ns G Y ho hd hcd hmg hobj hints hlen hg => ?_
  exact law_callG (hY w _ Y) G.T.g G.T.b G.T.builtins G.T.nolimit hg hobj hints (Nat.le_trans hlen hn2) hr hmg (F w mg _ (hY w _ Y) G.T.g) fun H hS => hsp (K w.params) H a ns hlen hS
end Hg
end L2
end

section
set_option Elab.async false
set_option linter.all false
set_option maxRecDepth 100000
set_option maxHeartbeats 4000000
/-! Iterables that are a list or a tuple; attributes as targets; dicts: comprehensions, keys, members. -/
namespace L2
namespace Hg
open PySem PySem.Spec PyProof.Rows
def uAt (K : PySem.W.Frag) (x : V) (H1 : Hp) (R : It → Hp → Prop) : Prop := ∃ a, x = .ref a ∧ (((∃ xs, SqL K H1 a xs) ∧ R (Itl K a) H1) ∨ ((∃ xs, SqT K H1 a xs) ∧ R (Itt K a) H1))
/-- a list or a tuple -/
def uIter (K : PySem.W.Frag) (te : TE) : TI := fun σ H R => te σ H fun x H1 => uAt K x H1 R
section
variable {X : Cx} {tg l o : Expr} {tl ta : TE} {f : Str} {pos : Pos}
theorem pi_u (K : PySem.W.Frag) (hl : PE X l tl) (hK : X.K = K := by rfl) : PI X tg l (uIter K tl) := by
  subst hK
  refine ⟨fun pins s σ H R I h => ?_⟩
  refine thn (hl.run pins s σ H _ I h) fun v s1 ⟨x, H1, I1, r1, q1⟩ => ?_
  obtain ⟨a, e, q1⟩ := q1
  subst e
  cases r1
  rcases q1 with ⟨⟨xs, hq⟩, q⟩ | ⟨⟨xs, hq⟩, q⟩
  · obtain ⟨its, rv, p, hz⟩ := I1.list hq
    refine wpAny_pyIter_list p.isList ?_
    refine ⟨s1.heap.objs.size, [s1.heap.objs.size], _, _, H1, rfl, I1.kept (t' := s1.toks) fun b o e => Heap.get?_push_of_some _ e, turn_list a _, ⟨_, Heap.get?_push_size _ rfl, rfl, rfl⟩, fun b hb => ?_, q⟩
    have e : b = s1.heap.objs.size := by simpa using hb
    subst e
    exact I1.fpOk (Nat.le_refl _) (I1.hok.fresh (Nat.le_refl _))
  · obtain ⟨its, rv, p, hz⟩ := I1.tuple hq
    refine wpAny_pyIter_tuple (show s1.heap.IsTuple a its.toArray from p) ?_
    refine ⟨s1.heap.objs.size, [s1.heap.objs.size], _, _, H1, rfl, I1.kept (t' := s1.toks) fun b o e => Heap.get?_push_of_some _ e, turn_tuple a _, ⟨_, Heap.get?_push_size _ rfl, rfl, rfl⟩, fun b hb => ?_, q⟩
    have e : b = s1.heap.objs.size := by simpa using hb
    subst e
    exact I1.fpOk (Nat.le_refl _) (I1.hok.fresh (Nat.le_refl _))
theorem r_iU {K : PySem.W.Frag} {te : TE} {σ : St} {H : Hp} {R : It → Hp → Prop} (k : te σ H fun x H1 => uAt K x H1 R) : uIter K te σ H R := k
/-- the walk over a list or a tuple, told alike -/
theorem r_walk {K : PySem.W.Frag} {H : Hp} {R : It → Hp → Prop} {p : Addr} {xs : List V} (h : SqL K H p xs ∨ SqT K H p xs)
    (k : ∀ (J : It) (G : Hp → Prop), Walk J xs.length G (YAt xs) → G H → (∀ H' H'', Same H' H'' → G H' → G H'') → R J H) :
    uAt K (.ref p) H R := by
  refine ⟨p, rfl, ?_⟩
  rcases h with h | h
  · exact .inl ⟨⟨xs, h⟩, k _ _ walk_list h fun H' H'' s g => Same.seqL s g⟩
  · exact .inr ⟨⟨xs, h⟩, k _ _ walk_tup h fun H' H'' s g => sameT s g⟩
/-! ### o.f as a target -/
def gFld (K : PySem.W.Frag) (ta : TE) (f : Str) : TG := fun v σ H QS => ta σ H fun x H2 => ∃ a C dx fs, x = .ref a ∧ H2 a = some (.ins C dx fs) ∧ Cls K C ∧ NoAttr K C f ∧ fs.length < 1000 ∧ QS σ (upd H2 a (.ins C dx (putF f v fs)))
theorem pg_fld (K : PySem.W.Frag) (ho : PE X o ta) (hK : X.K = K := by rfl) : PG X (.Attribute o f pos) (gFld K ta f) := by
  subst hK
  refine ⟨fun pins s σ H v u Q I r h => ?_⟩
  rw [assign_Attribute]
  refine wpAny_bind (wpAny_holding (thn (ho.run pins s σ H _ I h) fun ov s1 ⟨x, H2, I2, rx, a, C, dx, fs, ex, ea, c, n, l, q2⟩ => ?_))
  subst ex
  obtain rfl : ov = Value.ref a := rx
  refine wpAny_bind (wpAny_standAt (wpAny_bind (wpAny_holding (setattr_ok I2 ea c n l r fun s3 I3 => ?_))))
  exact wpAny_release ⟨σ, _, I3, q2⟩
theorem r_gFld {K : PySem.W.Frag} {v : V} {σ : St} {H : Hp} {QS : St → Hp → Prop} (k : ta σ H fun x H2 => ∃ a C dx fs, x = .ref a ∧ H2 a = some (.ins C dx fs) ∧ Cls K C ∧ NoAttr K C f ∧ fs.length < 1000 ∧ QS σ (upd H2 a (.ins C dx (putF f v fs)))) : gFld K ta f v σ H QS := k
theorem r_putG {K : PySem.W.Frag} {C a dx : Addr} {H : Hp} {fs : List (Str × V)} {R : Addr → Addr → Addr → List (Str × V) → Prop} (h : H a = some (.ins C dx fs)) (c : Cls K C) (n : NoAttr K C f) (z : fs.length < 1000) (k : R a C dx fs) :
    ∃ a' C' dx' fs', V.ref a = .ref a' ∧ H a' = some (.ins C' dx' fs') ∧ Cls K C' ∧ NoAttr K C' f ∧ fs'.length < 1000 ∧ R a' C' dx' fs' := ⟨a, C, dx, fs, rfl, h, c, n, z, k⟩
end
/-! ### dicts -/
section
variable {σ : St} {H : Hp} {Q : VK} {QB : Bool → Hp → Prop} {td ty : TE}
theorem r_lockE {t : TE} {d : Addr} {kvs : List (Key × V)} (h : H d = some (.dK kvs)) (k : ∀ od, t σ (upd H d (.frz od (.dK kvs))) fun v H' => H' d = some (.frz od (.dK kvs)) ∧ Q v (upd H' d (.dK kvs))) : tLockE t σ H Q := ⟨d, _, h, trivial, k⟩
theorem r_keys {R : It → Hp → Prop} (k : td σ H fun x H1 => ∃ d o, x = .ref d ∧ ((∃ kvs, H1 d = some (.frz o (.dK kvs)) ∧ R (Itk d o kvs) H1) ∨ ∃ kvs, H1 d = some (.frz o (.dT kvs)) ∧ R (Itkt d o kvs) H1)) : iKeys td σ H R := k
theorem r_din (k : ty σ H fun y H1 => td σ H1 fun x H2 => ∃ a o, x = .ref a ∧ DGet H2 a y o ∧ Q (.bl o.isSome) H2) : tDIn ty td σ H Q := k
theorem r_dinG {p : Addr} {kvs : List (Key × V)} {k : Key} {R : Option V → Prop} (h : H p = some (.dK kvs)) (q : R (valV kvs k)) : ∃ a o, V.ref p = .ref a ∧ DGet H a (kV k) o ∧ R o := ⟨p, _, rfl, DGet.k h, q⟩
theorem r_dc {wi : TI} {g : TG} {tt : TT} {tk tv : TE} {vs : List Nat} (k : wi σ H fun J H1 => ∀ D, H1 D = none → ∃ W : Nat → Nat → Hp → Prop, (∃ m, W 0 m (upd H1 D (.dK []))) ∧ ∀ i m H, W i m H →
  (J.stop i H ∧ Q (.ref D) H) ∨ (J.go i H ∧ ∃ Nx : Hp → Prop, (∀ H', Nx H' → ∃ m', m' < m ∧ W (i + 1) m' H') ∧ ∀ x H', J.yld i H x H' → g x (wipe σ vs) H' fun σ2 H2 => wipe σ2 vs = wipe σ vs ∧ tt σ2 H2 fun b H3 =>
    if b = true then tk σ2 H3 fun y H4 => tv σ2 H4 fun z H5 => ∃ kvs k, y = kV k ∧ H5 D = some (.dK kvs) ∧ kvs.length < sizeLine ∧ Nx (upd H5 D (.dK (putK kvs k z))) else Nx H3)) : tDc wi g tt tk tv vs σ H Q := k
/-- a dict comprehension over any walk -/
theorem dc_it {J : It} {n : Nat} {G : Hp → Prop} {Y : Nat → Hp → V → Hp → Prop} (w : Walk J n G Y) {g : TG} {tt : TT} {tk tv : TE} {vs : List Nat} {H1 : Hp} {D : Addr} {Qd : Hp → Prop} (Pv : Nat → Hp → Prop) (h0 : Pv 0 (upd H1 D (.dK []))) (hG : ∀ i H, i ≤ n → Pv i H → G H)
    (hs : ∀ i x H H', i < n → Pv i H → Y i H x H' → g x (wipe σ vs) H' fun σ2 H2 => wipe σ2 vs = wipe σ vs ∧ tt σ2 H2 fun b H3 =>
      if b = true then tk σ2 H3 fun y H4 => tv σ2 H4 fun z H5 => ∃ kvs k, y = kV k ∧ H5 D = some (.dK kvs) ∧ kvs.length < sizeLine ∧ Pv (i + 1) (upd H5 D (.dK (putK kvs k z))) else Pv (i + 1) H3) (hd : ∀ H, Pv n H → Qd H) :
    ∃ W : Nat → Nat → Hp → Prop, (∃ m, W 0 m (upd H1 D (.dK []))) ∧ ∀ i m H, W i m H →
      (J.stop i H ∧ Qd H) ∨ (J.go i H ∧ ∃ Nx : Hp → Prop, (∀ H', Nx H' → ∃ m', m' < m ∧ W (i + 1) m' H') ∧ ∀ x H', J.yld i H x H' → g x (wipe σ vs) H' fun σ2 H2 => wipe σ2 vs = wipe σ vs ∧ tt σ2 H2 fun b H3 =>
        if b = true then tk σ2 H3 fun y H4 => tv σ2 H4 fun z H5 => ∃ kvs k, y = kV k ∧ H5 D = some (.dK kvs) ∧ kvs.length < sizeLine ∧ Nx (upd H5 D (.dK (putK kvs k z))) else Nx H3) := by
  refine ⟨fun i m H => m = n - i ∧ i ≤ n ∧ Pv i H, ⟨n, by simp, Nat.zero_le _, h0⟩, ?_⟩
  rintro i m H ⟨rfl, hi, p⟩
  have q := hG i H hi p
  by_cases hlt : i < n
  · refine .inr ⟨w.goes i H hlt q, Pv (i + 1), fun H' p' => ⟨n - (i + 1), by omega, rfl, hlt, p'⟩, fun x H' y => hs i x H H' hlt p (w.yields i H x H' hlt q y)⟩
  · have e : i = n := by omega
    subst e
    exact .inl ⟨w.stops H q, hd H p⟩
end
theorem r_xf {a C : Addr} {cls : Value} {d : Option Addr} {f : Str} {te : TE} {σ : St} {H : Hp} {Q : VK} (k : te σ H fun x H1 => x = .ref a ∧ cls = .ref C ∧ ∃ (dd : Addr) (fs : List (Str × V)) (v : V), d = some dd ∧ H1 dd = some (.xd fs) ∧ fs.lookup f = some v ∧ Q v H1) : tXf a cls d C f te σ H Q := k
theorem r_bm {K : PySem.W.Frag} {T : String} {r : V → List V → Hp → VK → Prop} {to : TE} {t : TA} {σ : St} {H : Hp} {Q : VK} (k : to σ H fun x H1 => tyV K T x H1 ∧ t σ H1 fun xs H2 => r x xs H2 Q) : tBM K T r to t σ H Q := k
theorem r_append {l : Addr} {xs : List V} {y : V} {H : Hp} {Q : VK} (h : H l = some (.lst xs)) (z : xs.length < sizeLine) (k : Q .non (upd H l (.lst (xs ++ [y])))) : rAppend (.ref l) [y] H Q := ⟨l, xs, y, rfl, rfl, h, z, k⟩
/-! ### a name that is a dict comprehension -/
section
variable {X : Cx}
theorem ps_setDc {i : Nat} {y : Str} {py : Pos} {kx vx tg iter : Expr} {ifs : List Expr} {scope : Scope} {own : List (Str × Nat)} {pos spos : Pos} {wi : TI} {g : TG} {tt : TT} {tk tv : TE} (hc : X.calm = true) (hN : X.N.Nodup) (hy : X.N[i]? = some y) (hyl : X.env.scope.names.lookup y = some .local)
    (hsw : swapsWith (.DictComp kx vx [⟨tg, iter, ifs, 0⟩] scope pos) (some (.Name y py)) spos.line X.env = pure true) (hi : PI X tg iter wi) (ok : BlkOk X.N X.env.scope scope own)
    (hg : ∀ (s : Shared) (H : Hp) (C : Addr) (cl : List (Str × Addr)) (fp : List Addr), PG (X.blk s H scope (compEnvC scope cl C X.env) fp) tg g) (ht : ∀ (s : Shared) (H : Hp) (C : Addr) (cl : List (Str × Addr)) (fp : List Addr), PTs (X.blk s H scope (compEnvC scope cl C X.env) fp) ifs tt)
    (hk : ∀ (s : Shared) (H : Hp) (C : Addr) (cl : List (Str × Addr)) (fp : List Addr), PE (X.blk s H scope (compEnvC scope cl C X.env) fp) kx tk)
    (he : ∀ (s : Shared) (H : Hp) (C : Addr) (cl : List (Str × Addr)) (fp : List Addr), PE (X.blk s H scope (compEnvC scope cl C X.env) fp) vx tv) (hs : ∀ x, foldedSetIterable iter X.env x = pure x := by intro _; rfl) :
    PS X (.Assign [.Name y py] (.DictComp kx vx [⟨tg, iter, ifs, 0⟩] scope pos) spos) (tAsg (tDc wi g tt tk tv (own.map (·.2))) (gName i)) := by
  refine ⟨fun pins s σ H D I h => ?_⟩
  rw [exec_Assign_Name_used _ _ _ _ hsw]
  refine wpAny_bind (wpAny_standAt (wpAny_bind ?_))
  show wpAny _ X.A (do let _ ← comprehension (.DictComp kx vx [⟨tg, iter, ifs, 0⟩] scope pos) scope X.env (firstIterPos [⟨tg, iter, ifs, 0⟩] pos) newDict false (eval iter X.env) (some (assign (.Name y py) X.env))) _ _ s
  have h : tDc wi g tt tk tv (own.map (·.2)) σ H (fun x H1 => gName i x σ H1 D.nx) := h
  refine wpAny_bind (thn (dc_core (Qf := fun _ s' => SP X pins D .next s') hc hN I hi ok hg ht hk he hs h fun L C s' m H' I' q hn f => ?_) fun _ s' hq => wpAny_pure (wpAny_pure hq))
  show wpAny _ _ (assign (.Name y py) X.env (.ref L)) _ _ _
  refine wpAny_assign_Name (store_ok2 (v := V.ref L) I' hN hy (.inl hyl) rfl (fun s2 I2 ⟨a, sb, ha⟩ => ?_) (.inr hyl))
  obtain ⟨f0, f1, f2, f3, f4, f5⟩ := f
  have haC : C ≠ a := by
    rcases ha with z | z
    · rw [z]; exact f1
    · exact fun e => f4 y a z e.symm
  refine ⟨m, hn.sameBut sb haC, fun h3 sb3 => ?_⟩
  exact ⟨_, H', I2.turned (t' := s2.toks) (fun b o hb e => (sb3.2 b hb).trans e) f0 f1 f3 f4 f5, q⟩
theorem sw_trueD {k v : Expr} {gs : List Comprehension} {scope : Scope} {pos py : Pos} {y : Str} {l : Nat} {env : Env} (hk : env.scope.kind = .function) (hy : env.scope.names.lookup y = some .local) (hl : (py.line == pos.line) = true)
    (ha : (scope.names.any fun (n, k) => n == y && (k == .local || k == .cell)) = false) : swapsWith (.DictComp k v gs scope pos) (some (.Name y py)) l env = pure true := by
  have ky : env.kindOf y = some .local := hy
  have hb : env.blockKind = .function := by unfold Env.blockKind; rw [hk]; rfl
  unfold swapsWith
  simp only [hb, ky, ha, Expr.pos, hl]
  rfl
end
end Hg
end L2
end
set_option Elab.async false
set_option linter.all false
set_option maxRecDepth 100000
set_option autoImplicit false
set_option maxHeartbeats 200000
namespace L2
namespace Hg
open PySem PySem.Spec PyProof.Rows
local macro_rules | `(tactic| tm_at "r1") => `(tactic| first
  | with_reducible refine' r_seq ?_
  | with_reducible refine' r_asg ?_
  | with_reducible refine' r_gName ?_
  | with_reducible refine' r_op ?_
  | ((with_reducible refine' r_var ?hv ?_); (case hv => rfl))
  | with_reducible refine' r_c ?_
  | with_reducible refine' r_cons ?_
  | with_reducible refine' r_nil ?_
  | with_reducible refine' r_cb ?_
  | with_reducible refine' r_call ?_
  | with_reducible refine' r_callS ?_
  | with_reducible refine' r_ifS ?_
  | with_reducible refine' r_ret ?_
  | with_reducible refine' r_drop ?_
  | with_reducible refine' r_next ?_
  | with_reducible refine' r_test ?_
  | with_reducible refine' r_B ?_
  | with_reducible refine' r_bl ?_
  | with_reducible refine' r_tru ?_
  | with_reducible refine' r_and ?_
  | with_reducible refine' r_or ?_
  | with_reducible refine' r_not ?_
  | with_reducible refine' r_andV ?_
  | with_reducible refine' r_orV ?_
  | with_reducible refine' r_notV ?_
  | with_reducible refine' r_if ?_
  | with_reducible refine' r_chain ?_
  | with_reducible refine' r_un ?_
  | with_reducible refine' r_for ?_
  | with_reducible refine' r_rng1 ?_
  | with_reducible refine' r_rng2 ?_
  | with_reducible refine' r_iL ?_
  | with_reducible refine' r_iT ?_
  | with_reducible refine' r_lc ?_
  | with_reducible refine' r_yes ?_
  | with_reducible refine' r_gCons ?_
  | with_reducible refine' r_gNil ?_
  | with_reducible refine' r_pairs ?_
  | with_reducible refine' r_pairs0 ?_
  | with_reducible refine' r_disp ?_
  | with_reducible refine' r_dput ?_
  | with_reducible refine' r_dget ?_
  | with_reducible refine' r_veI ?_
  | with_reducible refine' r_sFld ?_
  | with_reducible refine' r_fld ?_
  | with_reducible refine' r_makeS ?_
  | with_reducible refine' r_make ?_
  | with_reducible refine' r_lst ?_
  | with_reducible refine' r_tup ?_
  | with_reducible refine' r_addI ?_
  | with_reducible refine' r_sub ?_
  | with_reducible refine' r_lt ?_
  | with_reducible refine' r_le ?_
  | with_reducible refine' r_gt ?_
  | with_reducible refine' r_ge ?_
  | with_reducible refine' r_abs ?_
  | with_reducible refine' r_intI ?_
  | with_reducible refine' r_intB ?_
  | with_reducible refine' r_min2 ?_
  | with_reducible refine' r_max2 ?_
  | with_reducible refine' r_isN ?_
  | with_reducible refine' r_notN ?_
  | with_reducible refine' r_neg ?_
  | ((with_reducible refine' r_mod ?hv ?_); (case hv => decide))
  | ((with_reducible refine' r_mul (cmulL ?hv) ?_); (case hv => decide))
  | ((with_reducible refine' r_mul (cmulR ?hv) ?_); (case hv => decide))
  | ((with_reducible refine' r_pow ?hv ?_); (case hv => refine ⟨?_, ?_, ?_⟩ <;> decide))
  | with_reducible refine' r_T ?_
  | with_reducible refine' r_nT ?_
  | with_reducible refine' r_nF ?_
  | with_reducible refine' r_F ?_
  | with_reducible refine' r_meth ?_
  | with_reducible refine' r_metS ?_
  | with_reducible refine' r_prop ?_
  | with_reducible refine' r_star ?_
  | with_reducible refine' r_par ?_
  | with_reducible refine' r_par3 ?_
  | with_reducible refine' r_v2 ?_
  | with_reducible refine' r_v3 ?_
  | with_reducible refine' r_sl ?_
  | with_reducible refine' r_part ?_
  | with_reducible refine' r_noPart ?_
  | with_reducible refine' r_i ?_
  | with_reducible refine' r_gSub ?_
  | with_reducible refine' r_gFld ?_
  | with_reducible refine' r_xf ?_
  | with_reducible refine' r_bm ?_
  | with_reducible refine' r_iU ?_
  | with_reducible refine' r_keys ?_
  | with_reducible refine' r_din ?_
  | with_reducible refine' r_dc ?_
  | fail)
local macro_rules | `(tactic| tm_at "rd") => `(tactic| repeat tm_at "r1")
local macro_rules | `(tactic| tm_at "hs") => `(tactic| first
  | with_reducible assumption
  | (with_reducible exact upd_same)
  | ((with_reducible show upd _ _ _ _ = _); (with_reducible refine' at_upd ?hn ?ho); (case hn => tm_at "ne"); (case ho => tm_at "hs"))
  | ((with_reducible refine' Bx.keep ?hx _ _ ?hn ?ho); (case hx => with_reducible assumption); (case hn => tm_at "ne"); (case ho => tm_at "hs"))
  | ((with_reducible refine' Same.at ?hx ?ho); (case hx => with_reducible assumption); (case ho => tm_at "hs"))
  | ((with_reducible refine' Kx.at ?hx ?hn ?ho); (case hx => with_reducible assumption); (case hn => tm_at "ne"); (case ho => tm_at "hs"))
  | fail)
local macro_rules | `(tactic| tm_at "ne") => `(tactic| first
  | with_reducible assumption
  | exact Ne.symm (by with_reducible assumption)
  | ((with_reducible refine' ne_of_none ?ha ?hb); (case hb => with_reducible assumption); (case ha => with_reducible assumption))
  | ((with_reducible refine' Ne.symm (ne_of_none ?ha ?hb)); (case hb => with_reducible assumption); (case ha => with_reducible assumption))
  | ((with_reducible refine' ne_of_none ?ha ?hb); (case hb => with_reducible assumption); (case ha => tm_at "hs"))
  | ((with_reducible refine' Ne.symm (ne_of_none ?ha ?hb)); (case hb => with_reducible assumption); (case ha => tm_at "hs"))
  | fail)
local macro_rules | `(tactic| tm_at "fr") => `(tactic| repeat (rename upd _ _ _ _ = Option.none => hfr; have hfr2 := free_upd hfr; clear hfr; obtain ⟨hfr3, hfr4⟩ := hfr2))
local macro_rules | `(tactic| tm_at "sq") => `(tactic| first
  | with_reducible assumption
  | exact SqL.of (by tm_at "hs")
  | exact SqT.of (by tm_at "hs")
  | fail)
local macro_rules | `(tactic| tm_at "r2") => `(tactic| first
  | tm_at "r1"
  | ((with_reducible refine' r_ixL ?ha ?hb ?_); (case ha => tm_at "sq"); (case hb => rfl))
  | ((with_reducible refine' r_ixT ?ha ?hb ?_); (case ha => tm_at "sq"); (case hb => rfl))
  | ((with_reducible refine' r_setL ?ha ?hb ?_); (case ha => tm_at "hs"); (case hb => rfl))
  | ((with_reducible refine' r_lenL ?ha ?_); (case ha => tm_at "sq"))
  | ((with_reducible refine' r_lenT ?ha ?_); (case ha => tm_at "sq"))
  | fail)
local macro_rules | `(tactic| tm_at "go") => `(tactic| repeat tm_at "r2")
local macro_rules | `(tactic| tm_at "fn") => `(tactic| first
  | with_reducible assumption
  | ((with_reducible refine' Same.free ?hs ?hn); (case hn => with_reducible assumption); (case hs => tm_at "sm"))
  | fail)
local macro_rules | `(tactic| tm_at "sm") => `(tactic| first
  | with_reducible assumption
  | with_reducible exact Same.refl
  | ((with_reducible refine' Same.new ?ha ?hb); (case hb => with_reducible assumption); (case ha => tm_at "sm"))
  | ((with_reducible refine' Same.updF ?ha ?hb); (case hb => tm_at "fn"); (case ha => tm_at "sm"))
  | ((with_reducible refine' Same.bx ?ha ?hx ?hb); (case hx => with_reducible assumption); (case hb => tm_at "fn"); (case ha => tm_at "sm"))
  | ((with_reducible refine' Same.kx ?ha ?hx ?hb); (case hx => with_reducible assumption); (case hb => tm_at "fn"); (case ha => tm_at "sm"))
  | ((with_reducible refine' Same.trans ?ha ?hx); (case hx => with_reducible assumption); (case ha => tm_at "sm"))
  | fail)
local macro_rules | `(tactic| tm_at "tk") => `(tactic| first
  | with_reducible assumption
  | with_reducible exact Tk.refl
  | ((with_reducible refine' Tk.new ?ha ?hb); (case hb => with_reducible assumption); (case ha => tm_at "tk"))
  | ((with_reducible refine' Tk.setL ?ha ?hb); (case hb => tm_at "hs"); (case ha => tm_at "tk"))
  | ((with_reducible refine' Tk.setI ?ha ?hb); (case hb => tm_at "hs"); (case ha => tm_at "tk"))
  | ((with_reducible refine' Tk.trans ?ha (Bx.tk ?hx ?hb)); (case hx => with_reducible assumption); (case hb => tm_at "bx"); (case ha => tm_at "tk"))
  | ((with_reducible refine' Tk.trans ?ha (Kx.tk ?hx ?hb)); (case hx => with_reducible assumption); (case hb => tm_at "hs"); (case ha => tm_at "tk"))
  | ((with_reducible refine' Tk.trans ?ha (Same.tk ?hx)); (case hx => with_reducible assumption); (case ha => tm_at "tk"))
  | ((with_reducible refine' Tk.trans ?ha ?hx); (case hx => with_reducible assumption); (case ha => tm_at "tk"))
  | fail)
local macro_rules | `(tactic| tm_at "bx") => `(tactic| first
  | with_reducible assumption
  | ((with_reducible refine' Bx.box ?hx); (case hx => with_reducible assumption))
  | ((with_reducible refine' BoxAt.at ?ha ?hn); (case hn => tm_at "ne"); (case ha => tm_at "bx"))
  | ((with_reducible refine' BoxAt.same ?ha ?hs); (case hs => with_reducible assumption); (case ha => tm_at "bx"))
  | exact ⟨_, _, _, by tm_at "hs"⟩
  | fail)
section
variable {P : Program} {w : World} {K : PySem.W.Frag} {mg : Str → Option Value} {base : Heap} {aGround aNum aInv : Addr}
def top (i : Nat) : Stmt := PySem.Challenge.pw_heldground_k03_sets_refused.main.body.getD i (.Pass ⟨0, 0, 0, 0⟩)
abbrev s_law_box : Stmt := top 23
theorem sc_law_box : FnScope ["_law_script", "_law_k", "_law_own", "_law_cell", "_law_seed"] ["_law_script", "_law_k", "_law_own"] (defScope s_law_box) := ⟨rfl, rfl, rfl, by decide +kernel, rfl, by decide +kernel, by decide +kernel⟩
abbrev s_law_take : Stmt := top 24
theorem sc_law_take : FnScope ["_law_box_here", "_law_many", "_law_raw", "_law_wide", "_law_digit"] ["_law_box_here", "_law_many"] (defScope s_law_take) := ⟨rfl, rfl, rfl, by decide +kernel, rfl, by decide +kernel, by decide +kernel⟩
abbrev s_law_pick : Stmt := top 25
theorem sc_law_pick : FnScope ["_law_box_here", "_law_items"] ["_law_box_here", "_law_items"] (defScope s_law_pick) := ⟨rfl, rfl, rfl, by decide +kernel, rfl, by decide +kernel, by decide +kernel⟩
abbrev s_law_is_number : Stmt := top 26
theorem sc_law_is_number : FnScope ["_law_value", "_law_least"] ["_law_value", "_law_least"] (defScope s_law_is_number) := ⟨rfl, rfl, rfl, by decide +kernel, rfl, by decide +kernel, by decide +kernel⟩
abbrev s_law_are : Stmt := top 27
theorem sc_law_are : FnScope ["_law_value", "_law_least", "_law_most", "_law_one"] ["_law_value", "_law_least", "_law_most"] (defScope s_law_are) := ⟨rfl, rfl, rfl, by decide +kernel, rfl, by decide +kernel, by decide +kernel⟩
abbrev s_law_due : Stmt := top 28
theorem sc_law_due : FnScope ["_law_ones", "_law_since", "_law_period", "_law_rests"] ["_law_ones", "_law_since", "_law_period", "_law_rests"] (defScope s_law_due) := ⟨rfl, rfl, rfl, by decide +kernel, rfl, by decide +kernel, by decide +kernel⟩
abbrev s_law_heard : Stmt := top 29
theorem sc_law_heard : FnScope ["_law_some", "_law_found", "e"] ["_law_some"] (defScope s_law_heard) := ⟨rfl, rfl, rfl, by decide +kernel, rfl, by decide +kernel, by decide +kernel⟩
abbrev s_law : Stmt := top 30
theorem sc_law : FnScope ["_law_script", "_law_rows", "_law_counts", "_law_k", "_law_box_here", "_law_turn", "_law_some"] ["_law_script"] (defScope s_law) := ⟨rfl, rfl, rfl, by decide +kernel, rfl, by decide +kernel, by decide +kernel⟩
abbrev s_is_integer : Stmt := top 9
theorem sc_is_integer : FnScope ["value"] ["value"] (defScope s_is_integer) := ⟨rfl, rfl, rfl, by decide +kernel, rfl, by decide +kernel, by decide +kernel⟩
abbrev s_all_from : Stmt := top 15
theorem sc_all_from : FnScope ["values", "least", "most", "one"] ["values", "least", "most"] (defScope s_all_from) := ⟨rfl, rfl, rfl, by decide +kernel, rfl, by decide +kernel, by decide +kernel⟩
abbrev s_least_period : Stmt := top 17
theorem sc_least_period : FnScope ["period", "rests", "size", "short", "rest"] ["period", "rests"] (defScope s_least_period) := ⟨rfl, rfl, rfl, by decide +kernel, rfl, by decide +kernel, by decide +kernel⟩
abbrev s_least_form : Stmt := top 18
theorem sc_least_form : FnScope ["told", "since", "period", "rests", "known", "number"] ["told", "since", "period", "rests"] (defScope s_least_form) := ⟨rfl, rfl, rfl, by decide +kernel, rfl, by decide +kernel, by decide +kernel⟩
abbrev s_Numbers__init : Stmt := inClass (top 20) 0
theorem sc_Numbers__init : FnScope ["self", "listed", "since", "period", "rests"] ["self", "listed", "since", "period", "rests"] (defScope s_Numbers__init) := ⟨rfl, rfl, rfl, by decide +kernel, rfl, by decide +kernel, by decide +kernel⟩
abbrev s_InvalidNumbers__init : Stmt := inClass (top 3) 0
theorem sc_InvalidNumbers__init : FnScope ["self", "word"] ["self", "word"] (defScope s_InvalidNumbers__init) := ⟨rfl, rfl, rfl, by decide +kernel, rfl, by decide +kernel, by decide +kernel⟩
structure Txt (K : PySem.W.Frag) (mg : Str → Option Value) (aGround aNum aInv : Addr) : Prop where
  m_GroundError : mg "GroundError" = some (.ref aGround)
  b_GroundError : BaseInit K aGround
  m_InvalidNumbers : mg "InvalidNumbers" = some (.ref aInv)
  clN : Cls K aNum
  nL : NoAttr K aNum "listed"
  nS : NoAttr K aNum "since"
  nP : NoAttr K aNum "period"
  nR : NoAttr K aNum "rests"
  xw : PySem.W.findIn K (.ref aInv) "word" = some none
  xf : XfC K aInv
  exm : PySem.W.exmOne K (.ref aInv) (.ref aInv) = some true
  xc : ExcC K aInv
  n_int : mg "int" = none
  n_len : mg "len" = none
  n_abs : mg "abs" = none
  n_repr : mg "repr" = none
  n_range : mg "range" = none
  n_min : mg "min" = none
  n_max : mg "max" = none
  n_bool : mg "bool" = none
  n_isinstance : mg "isinstance" = none
  n_tuple : mg "tuple" = none
  n_list : mg "list" = none
  n_all : mg "all" = none
  n_sorted : mg "sorted" = none
theorem ok_take (F : DefAt K mg "_law_take" s_law_take) (T : Txt K mg aGround aNum aInv) : DefOk P w K mg base CX0 1 "_law_take" ["_law_box_here", "_law_many"] spTake := by
  refine F.ok sc_law_take (fun _ _ _ _ _ _ us hl => match us, hl with | [_, _], _ => rfl) (fun vs H Q E h => ?_) (fun f cdv A outer s H vs Q E hr h => ?_)
  · obtain ⟨b, m, rfl, _⟩ := h
    rfl
  · obtain ⟨b, m, rfl, ⟨x, y, z, hb⟩, m1, m2, k⟩ := h
    refine ⟨_, (pss_cons (ps_if (pt_cmpR o_gt (pe_ix (ix_u K) (pv 0) pe_int (fun _ _ => rfl)) pe_int (nomark _)) (pss_cons (ps_set (i := 4) sc_law_take.nd rfl (Or.inl rfl) (pe_op o_mod (pe_callTy c_int (by rfl) T.n_int (by decide +kernel) (pa_cons (pe_ix (ix_u K) (pv 0) pe_int (fun _ _ => rfl)) pa_nil)) (pv 1)))
  (pss_cons (ps_asg (pe_op o_div (pe_ix (ix_u K) (pv 0) pe_int (fun _ _ => rfl)) (pv 1)) (pg_sub (pv 0) pe_int set_list))
  (pss_one (ps_ret (pv 4)))))
  pss_nil)
  (pss_cons (ps_asg (pe_op (o_add K) (pe_ix (ix_u K) (pv 0) pe_int (fun _ _ => rfl)) pe_int) (pg_sub (pv 0) pe_int set_list))
  (pss_cons (ps_set (i := 2) sc_law_take.nd rfl (Or.inl rfl) (pe_op o_mod (pe_callTy c_int (by rfl) T.n_int (by decide +kernel) (pa_cons (pe_op o_mul (pe_op (o_add K) (pe_ix (ix_u K) (pv 0) pe_int (fun _ _ => rfl)) (pe_op o_mul pe_int (pe_ix (ix_u K) (pv 0) pe_int (fun _ _ => rfl)))) pe_int) pa_nil)) pe_int))
  (pss_cons (ps_asg (pe_op (o_add K) (pe_op o_mod (pe_callTy c_int (by rfl) T.n_int (by decide +kernel) (pa_cons (pe_op (o_add K) (pe_op o_mul (pv 2) pe_int) pe_int) pa_nil)) pe_int) pe_int) (pg_sub (pv 0) pe_int set_list))
  (pss_cons (ps_if (pt_cmpR o_lt (pv 1) (pe_op o_pow pe_int pe_int) (nomark _)) (pss_one (ps_ret (pe_op o_mod (pe_callTy c_int (by rfl) T.n_int (by decide +kernel) (pa_cons (pe_op o_div (pe_op (o_add K) (pe_op o_mul (pv 2) pe_int) (pe_ix (ix_u K) (pv 0) pe_int (fun _ _ => rfl))) pe_int) pa_nil)) (pv 1))))
  pss_nil)
  (pss_cons (ps_set (i := 3) sc_law_take.nd rfl (Or.inl rfl) (pe_op o_mul (pe_op (o_add K) (pe_op o_mul (pv 2) pe_int) (pe_ix (ix_u K) (pv 0) pe_int (fun _ _ => rfl))) (pe_op o_pow pe_int pe_int)))
  (pss_one (ps_ret (pe_op o_mod (pe_callTy c_int (by rfl) T.n_int (by decide +kernel) (pa_cons (pe_op (o_add K) (pe_op (o_add K) (pv 3) (pe_op o_mul (pe_op o_pow (pe_ix (ix_u K) (pv 0) pe_int (fun _ _ => rfl)) pe_int) pe_int)) (pv 2)) pa_nil)) (pv 1)))))))))), ?_⟩
    tm_at "go"
    refine r_id (fun h0 => ?_) (fun h0 => ?_)
    · tm_at "go"
      refine r_mod (by omega) ?_
      tm_at "go"
      refine r_div (by omega) (by omega) ?_
      tm_at "go"
      exact k _ _ (Int.emod_nonneg _ (by omega)) (Int.emod_lt_of_pos _ (by omega)) ((Bx.refl ⟨_, _, _, hb⟩).set _ _ _)
    · tm_at "go"
      refine r_Td (by
        have p40 : (2 : Int) ^ Int.toNat 40 = 1099511627776 := by decide
        omega) ?_
      tm_at "go"
      refine r_div (by decide) (by decide) ?_
      tm_at "go"
      refine r_mod (by omega) ?_
      tm_at "go"
      exact k _ _ (Int.emod_nonneg _ (by omega)) (Int.emod_lt_of_pos _ (by omega)) (((Bx.refl ⟨_, _, _, hb⟩).set _ _ _).set _ _ _)
theorem ok_pick (F : DefAt K mg "_law_pick" s_law_pick) (T : Txt K mg aGround aNum aInv) (D_law_take : DefOk P w K mg base CX0 1 "_law_take" ["_law_box_here", "_law_many"] spTake) :
    DefOk P w K mg base CX0 2 "_law_pick" ["_law_box_here", "_law_items"] (spPick K) := by
  refine F.ok sc_law_pick (fun _ _ _ _ _ _ us hl => match us, hl with | [_, _], _ => rfl) (fun vs H Q E h => ?_) (fun f cdv A outer s H vs Q E hr h => ?_)
  · obtain ⟨b, l, xs, rfl, _⟩ := h
    rfl
  · obtain ⟨b, l, xs, rfl, hb, hl, nl, m1, m2, k⟩ := h
    refine ⟨_, (pss_one (ps_ret (pe_ix (ix_u K) (pv 1) (pe_callD D_law_take (hr.mono (by decide)) pass0 rfl (pa_cons (pv 0) (pa_cons (pe_callB (c_len K) (by rfl) T.n_len (by decide +kernel) (pa_cons (pv 1) pa_nil)) pa_nil))) (fun _ _ => rfl)))), ?_⟩
    have fin : ∀ (d : Int) (H' : Hp), 0 ≤ d → d < (xs.length : Nat) → Bx b H H' → rIx K (.ref l) (.int d) H' Q := fun d H' h0 h1 hx => by
      obtain ⟨j, rfl⟩ : ∃ j : Nat, d = j := ⟨d.toNat, by omega⟩
      have hj : j < xs.length := by omega
      have e : xs[j]? = some xs[j] := List.getElem?_eq_getElem hj
      rcases hl with hl | hl
      · exact r_ixL (Bx.seqL hx nl hl) (atI_nat e) (k _ _ (List.getElem_mem hj) hx)
      · exact r_ixT (Bx.seqT hx nl hl) (atI_nat e) (k _ _ (List.getElem_mem hj) hx)
    tm_at "go"
    have ln : ∀ {Q' : VK}, Q' (.int (xs.length : Nat)) H → uLen K [.ref l] H Q' := fun q => by
      rcases hl with hl | hl
      · exact r_lenL hl q
      · exact r_lenT hl q
    refine ln ?_
    tm_at "go"
    exact ⟨b, _, rfl, hb, by omega, by omega, fin⟩
theorem ok_box (F : DefAt K mg "_law_box" s_law_box) (T : Txt K mg aGround aNum aInv) : DefOk P w K mg base CX0 1 "_law_box" ["_law_script", "_law_k", "_law_own"] (spBox K) := by
  refine F.ok sc_law_box (fun _ _ _ _ _ _ us hl => match us, hl with | [_, _, _], _ => rfl) (fun vs H Q E h => ?_) (fun f cdv A outer s H vs Q E hr h => ?_)
  · obtain ⟨a, ns, k, c, rfl, _⟩ := h
    rfl
  · obtain ⟨a, ns, k, c, rfl, hS, k0, k1, c0, c1, nl, q⟩ := h
    refine ⟨_, (pss_cons (ps_set (i := 3) sc_law_box.nd rfl (Or.inl rfl) (pe_op (o_add K) (pe_op (o_add K) (pe_op o_mul pe_int (pv 1)) (pe_op o_mul pe_int (pv 2))) pe_int))
  (pss_cons (ps_if (pt_cmpR o_lt (pv 1) (pe_callB (c_len K) (by rfl) T.n_len (by decide +kernel) (pa_cons (pv 0) pa_nil)) (nomark _)) (pss_one (ps_set (i := 3) sc_law_box.nd rfl (Or.inl rfl) (pe_callB c_abs (by rfl) T.n_abs (by decide +kernel) (pa_cons (pe_ix (ix_u K) (pv 0) (pv 1) (fun _ _ => rfl)) pa_nil))))
  (pss_one (ps_if (pt_cmpR o_gt (pe_callB (c_len K) (by rfl) T.n_len (by decide +kernel) (pa_cons (pv 0) pa_nil)) pe_int (nomark _)) (pss_one (ps_set (i := 3) sc_law_box.nd rfl (Or.inl rfl) (pe_op (o_add K) (pv 3) (pe_op o_mul (pe_op o_mod (pe_callTy c_int (by rfl) T.n_int (by decide +kernel) (pa_cons (pe_callB c_abs (by rfl) T.n_abs (by decide +kernel) (pa_cons (pe_ix (ix_u K) (pv 0) (pe_op o_mod (pe_callTy c_int (by rfl) T.n_int (by decide +kernel) (pa_cons (pv 1) pa_nil)) (pe_callB (c_len K) (by rfl) T.n_len (by decide +kernel) (pa_cons (pv 0) pa_nil))) (fun _ _ => rfl)) pa_nil)) pa_nil)) pe_int) pe_int))))
  pss_nil)))
  (pss_cons (ps_set (i := 4) sc_law_box.nd rfl (Or.inl rfl) (pe_op (o_add K) (pe_op o_mod (pe_callTy c_int (by rfl) T.n_int (by decide +kernel) (pa_cons (pe_op (o_add K) (pe_op o_mul (pe_op o_mod (pe_callTy c_int (by rfl) T.n_int (by decide +kernel) (pa_cons (pv 3) pa_nil)) pe_int) pe_int) (pe_op o_mul pe_int (pe_op (o_add K) (pv 1) (pe_op o_mul pe_int (pv 2))))) pa_nil)) pe_int) pe_int))
  (pss_one (ps_ret (pe_lst (pa_cons (pe_ix (ix_u K) (pe_lst (pa_cons pe_int (pa_cons (pv 3) pa_nil))) (pe_callTy c_int (by rfl) T.n_int (by decide +kernel) (pa_cons (pe_cmpR o_ge (pv 3) (pe_op o_pow pe_int pe_int) (nomark _)) pa_nil)) (fun _ _ => rfl)) (pa_cons (pv 4) (pa_cons pe_int pa_nil))))))))), ?_⟩
    have at_ : ∀ j : Nat, j < ns.length → ∃ n : Int, atI (ns.map V.int) (j : Int) = some (.int n) := fun j hj => ⟨ns[j], atI_nat (by simp [hj])⟩
    obtain ⟨j, rfl⟩ : ∃ j : Nat, k = j := ⟨k.toNat, by omega⟩
    tm_at "go"
    have done : ∀ (cell v seed : Int) (p p2 : Addr), H p = none → upd H p (.lst [.int 0, .int cell]) p2 = none →
        Q (.ref p2) (upd (upd H p (.lst [.int 0, .int cell])) p2 (.lst [.int v, .int seed, .int 0])) := fun cell v seed p p2 hp h2 => by
      obtain ⟨f2, _⟩ := free_upd h2
      refine q p2 _ f2 ⟨fun x o n e => ?_, v, seed, 0, upd_same⟩
      exact at_upd n (at_upd (ne_of_none e hp) e)
    have ix : ∀ (cell : Int) (p : Addr) (Q1 : VK), (∀ v : Int, Q1 (.int v) (upd H p (.lst [.int 0, .int cell]))) →
        rIx K (.ref p) (.int (if decide (10 ^ Int.toNat 18 ≤ cell) then 1 else 0)) (upd H p (.lst [.int 0, .int cell])) Q1 := fun cell p Q1 k => by
      refine r_ixL (v := .int (if decide (10 ^ Int.toNat 18 ≤ cell) then cell else 0)) (SqL.of upd_same) ?_ (k _)
      split <;> rfl
    have lenE : (List.map V.int ns).length = ns.length := List.length_map ..
    refine r_id (fun h0 => ?_) (fun h0 => ?_)
    · obtain ⟨n, hn⟩ := at_ j (by omega)
      tm_at "go"
      refine r_ixL hS hn ?_
      tm_at "go"
      refine ⟨szl rfl, fun p hp => ?_⟩
      tm_at "go"
      refine ix _ p _ fun v => ?_
      tm_at "go"
      exact ⟨szl rfl, fun p2 h2 => done _ _ _ _ _ hp h2⟩
    · tm_at "go"
      refine r_id (fun h1 => ?_) (fun h1 => ?_)
      · have hj : j % ns.length < ns.length := Nat.mod_lt _ (by omega)
        obtain ⟨n, hn⟩ := at_ _ hj
        tm_at "go"
        refine r_mod (by omega) ?_
        refine r_ixL hS (by rw [lenE, ← Int.natCast_emod]; exact hn) ?_
        tm_at "go"
        refine ⟨szl rfl, fun p hp => ?_⟩
        tm_at "go"
        refine ix _ p _ fun v => ?_
        tm_at "go"
        exact ⟨szl rfl, fun p2 h2 => done _ _ _ _ _ hp h2⟩
      · tm_at "go"
        refine ⟨szl rfl, fun p hp => ?_⟩
        tm_at "go"
        refine ix _ p _ fun v => ?_
        tm_at "go"
        exact ⟨szl rfl, fun p2 h2 => done _ _ _ _ _ hp h2⟩
theorem ok_is_integer (F : DefAt K mg "is_integer" s_is_integer) (T : Txt K mg aGround aNum aInv) : DefOk P w K mg base CX0 1 "is_integer" ["value"] (spIsInt K) := by
  refine F.ok sc_is_integer (fun _ _ _ _ _ _ us hl => match us, hl with | [_], _ => rfl) (fun vs H Q E h => ?_) (fun f cdv A outer s H vs Q E hr h => ?_)
  · obtain ⟨v, rfl, _⟩ := h
    rfl
  · obtain ⟨v, rfl, hv, k⟩ := h
    refine ⟨_, (pss_one (ps_ret (pe_and (pe_callB (c_isi K) (by rfl) T.n_isinstance (by decide +kernel) (pa_cons (pv 0) (pa_cons (pe_bT (T := "int") (by rfl) T.n_int (by decide +kernel)) pa_nil))) (pe_one (pe_not (pe_callB (c_isi K) (by rfl) T.n_isinstance (by decide +kernel) (pa_cons (pv 0) (pa_cons (pe_bT (T := "bool") (by rfl) T.n_bool (by decide +kernel)) pa_nil)))))))), ?_⟩
    obtain ⟨t1, ty1, e1⟩ := hv.isi_int
    obtain ⟨t2, ty2, e2⟩ := hv.isi_bool
    rw [← isI_of] at k
    tm_at "go"
    refine r_isi (.ty _) ty1 e1 ?_
    tm_at "go"
    refine r_ite (fun h1 => ?_) (fun h1 => ?_)
    · tm_at "go"
      refine r_isi (.ty _) ty2 e2 ?_
      tm_at "go"
      rw [h1] at k
      exact k
    · rw [h1] at k
      exact k
/-! ### arguments that are a list or a tuple, or none of both -/
def scV : V → Bool | .ref _ => false | _ => true
def Arg (K : PySem.W.Frag) (H : Hp) (v : V) : Option (List V) → Prop
  | none => Kd K H v ∧ scV v = true
  | some xs => ∃ p, v = .ref p ∧ (SqL K H p xs ∨ SqT K H p xs) ∧ xs.length ≤ 10000 ∧ ∀ y ∈ xs, Kd K H y
theorem Arg.mono {K : PySem.W.Frag} {H H' : Hp} {v : V} {o : Option (List V)} (s : Same H H') (h : Arg K H v o) : Arg K H' v o := by
  cases o with
  | none => exact ⟨h.1.mono s, h.2⟩
  | some xs =>
    obtain ⟨p, e, hs, hl, hk⟩ := h
    exact ⟨p, e, hs.imp (Same.seqL s) (sameT s), hl, fun y hy => (hk y hy).mono s⟩
theorem kitAny2 {K : PySem.W.Frag} {t u1 u2 : Value} {a b : Bool} (h1 : PySem.W.kitOne K t u1 = some a) (h2 : PySem.W.kitOne K t u2 = some b) : PySem.W.kitAny K t [u1, u2] = some (a || b) := by
  unfold PySem.W.kitAny
  rw [h1]
  cases a with
  | true => rfl
  | false =>
    show (match PySem.W.kitOne K t u2 with | some true => some true | some false => PySem.W.kitAny K t [] | none => none) = _
    rw [h2]
    cases b <;> rfl
theorem Arg.isi {K : PySem.W.Frag} {H : Hp} {v : V} {o : Option (List V)} (h : Arg K H v o) : ∃ t, TyX K H v t ∧ PySem.W.kitAny K t [.type "list", .type "tuple"] = some o.isSome := by
  cases o with
  | none =>
    obtain ⟨h, sc⟩ := h
    cases h with
    | non => exact ⟨_, .base .non, kitAny2 (a := false) (b := false) (kit_ty (a := "NoneType") (by decide +kernel)) (kit_ty (a := "NoneType") (by decide +kernel))⟩
    | bl b => exact ⟨_, .base (.bl b), kitAny2 (a := false) (b := false) (kit_ty (a := "bool") (by decide +kernel)) (kit_ty (a := "bool") (by decide +kernel))⟩
    | int i => exact ⟨_, .base (.int i), kitAny2 (a := false) (b := false) (kit_ty (a := "int") (by decide +kernel)) (kit_ty (a := "int") (by decide +kernel))⟩
    | str x => exact ⟨_, .base (.str x), kitAny2 (a := false) (b := false) (kit_ty (a := "str") (by decide +kernel)) (kit_ty (a := "str") (by decide +kernel))⟩
    | lst h => cases sc
    | tup h => cases sc
  | some xs =>
    obtain ⟨p, rfl, hs | hs, _⟩ := h
    · exact ⟨_, tyx_list hs, kitAny2 (a := true) (b := false) (kit_ty (a := "list") (by decide +kernel)) (kit_ty (a := "list") (by decide +kernel))⟩
    · exact ⟨_, tyx_tup hs, kitAny2 (a := false) (b := true) (kit_ty (a := "tuple") (by decide +kernel)) (kit_ty (a := "tuple") (by decide +kernel))⟩
def allV (o : Option (List V)) (a b : Int) : Bool := match o with | none => false | some xs => xs.all fun y => fromV y a b
def spAllFrom (K : PySem.W.Frag) : Sp := fun vs H Q _ => ∃ (v : V) (a b : Int) (o : Option (List V)), vs = [v, .int a, .int b] ∧ Arg K H v o ∧ ∀ H', Same H H' → Q (.bl (allV o a b)) H'
section
variable {K : PySem.W.Frag}
theorem ok_all_from (F : DefAt K mg "all_from" s_all_from) (T : Txt K mg aGround aNum aInv) (D_is_integer : DefOk P w K mg base CX0 1 "is_integer" ["value"] (spIsInt K)) : DefOk P w K mg base CX0 2 "all_from" ["values", "least", "most"] (spAllFrom K) := by
  refine F.ok sc_all_from (fun _ _ _ _ _ _ us hl => match us, hl with | [_, _, _], _ => rfl) (fun vs H Q E h => ?_) (fun f cdv A outer s H vs Q E hr h => ?_)
  · obtain ⟨v, a, b, o, rfl, _⟩ := h
    rfl
  · obtain ⟨v, a, b, o, rfl, hv, k⟩ := h
    refine ⟨_, (pss_one (ps_ret (pe_and (pe_callB (c_isiT K) (by rfl) T.n_isinstance (by decide +kernel) (pa_cons (pv 0) (pa_cons (pe_tup (pa_cons (pe_bT (T := "list") (by rfl) T.n_list (by decide +kernel)) (pa_cons (pe_bT (T := "tuple") (by rfl) T.n_tuple (by decide +kernel)) pa_nil))) pa_nil))) (pe_one (pe_callB (c_all K rfl) (by rfl) T.n_all (by decide +kernel) (pa_cons (pe_lc (own := [("one", 3)]) (g := (gName 3)) rfl sc_all_from.nd (pi_u K (pv 0)) (blkOk_by (own := [("one", 3)]) (N := ["values", "least", "most", "one"]) (sc := defScope s_all_from) (by decide +kernel)) (fun _ _ _ _ _ => (pg_name (i := 3) sc_all_from.nd rfl (Or.inl rfl) (Or.inr rfl))) (fun _ _ _ _ _ => pts_nil) (fun _ _ _ _ _ => (pe_and (pe_callD D_is_integer (hr.mono (by decide)) pass0 rfl (pa_cons (pv 3) pa_nil)) (pe_one (pe_chain o_le o_le (pv 1) (pv 3) (pv 2)))))) pa_nil)))))), ?_⟩
    tm_at "go"
    refine ⟨szl rfl, fun pt hpt => ?_⟩
    have hv1 := hv.mono (same_new (o := .tup [.ty "list", .ty "tuple"]) hpt)
    tm_at "go"
    obtain ⟨t, ty, kt⟩ := hv1.isi
    refine ⟨v, pt, _, t, [.type "list", .type "tuple"], _, rfl, upd_same, .cons (.ty _) (.cons (.ty _) .nil), ty, kt, ?_⟩
    tm_at "go"
    cases o with
    | none =>
      tm_at "go"
      exact k _ (same_new hpt)
    | some xs =>
      obtain ⟨p, rfl, hs, hl, hk⟩ := hv1
      refine r_ite (fun _ => ?_) (fun z => nomatch z)
      tm_at "go"
      have sm1 : Same H (upd H pt (.tup [.ty "list", .ty "tuple"])) := same_new hpt
      generalize upd H pt (.tup [.ty "list", .ty "tuple"]) = H1 at hs hk sm1 ⊢
      refine' r_walk hs ?_
      intro J G w hG sG D hD
      refine lc_it w (fun i H' => Same H1 H' ∧ H' D = some (.lst (((xs.take i).map fun y => fromV y a b).map V.bl))) ⟨same_new hD, upd_same⟩ (fun i H' _ p => sG _ _ p.1 hG) ?_ ?_
      · rintro i x H2 H' hi ⟨sm2, hd⟩ ⟨rfl, hx⟩
        tm_at "go"
        refine ⟨rfl, ?_⟩
        tm_at "go"
        have kx := (hk x (List.mem_of_getElem? hx)).mono sm2
        refine ⟨x, rfl, kx, ?_⟩
        tm_at "go"
        have fin : ∀ c : Bool, c = fromV x a b → ∃ acc, H' D = some (.lst acc) ∧ acc.length < sizeLine ∧ (Same H1 (upd H' D (.lst (acc ++ [.bl c]))) ∧ (upd H' D (.lst (acc ++ [.bl c]))) D = some (.lst (((xs.take (i + 1)).map fun y => fromV y a b).map V.bl))) := by
          rintro c rfl
          refine ⟨_, hd, ?_, Same.updF sm2 hD, ?_⟩
          · rw [List.length_map, List.length_map, List.length_take]
            exact szlt (Nat.ble_eq_true_of_le (Nat.le_trans (Nat.min_le_right ..) (Nat.le_trans hl (by decide))))
          · rw [upd_same, take_succ hx, List.map_append, List.map_append]
            rfl
        cases hxI : isI x with
        | false =>
          tm_at "go"
          exact fin false (by cases x <;> first | rfl | cases hxI)
        | true =>
          obtain ⟨n, rfl⟩ := isI_int hxI
          tm_at "go"
          refine r_ite (fun h1 => ?_) (fun h1 => ?_)
          · tm_at "go"
            exact fin _ (by show _ = (decide (a ≤ n) && decide (n ≤ b)); rw [h1, Bool.true_and])
          · exact fin _ (by show _ = (decide (a ≤ n) && decide (n ≤ b)); rw [h1, Bool.false_and])
      · rintro H2 ⟨sm2, hd⟩
        tm_at "go"
        rw [List.take_length] at hd
        refine ⟨D, _, rfl, SqL.of hd, ?_⟩
        have e : (xs.map fun y => fromV y a b).all id = allV (some xs) a b := by
          show _ = xs.all fun y => fromV y a b
          rw [List.all_map]; rfl
        rw [e]
        exact k _ (sm1.trans sm2)
end
/-! ### lists of numbers from 0 on -/
abbrev natV (l : List Nat) : List V := l.map fun (n : Nat) => V.int (n : Int)
abbrev natD (l : List Nat) : List PyData := l.map fun (n : Nat) => PyData.int (n : Int)
theorem natV_at {l : List Nat} {i : Nat} {x : V} (h : (natV l)[i]? = some x) : ∃ n, l[i]? = some n ∧ x = .int (n : Int) := by
  rw [List.getElem?_map] at h
  cases e : l[i]? with
  | none => rw [e] at h; cases h
  | some n => rw [e] at h; exact ⟨n, rfl, (Option.some.inj h).symm⟩
theorem dp_nats {K : PySem.W.Frag} {H : Hp} : ∀ l : List Nat, DpAll K H (natV l) (natD l)
  | [] => .nil
  | n :: l => .cons (.int _) (dp_nats l)
theorem lay_nats : ∀ l : List Nat, PyData.canLayAll0 (natD l) = true
  | [] => rfl
  | n :: l => by
    have := lay_nats l
    show (true && PyData.canLayAll0 (natD l)) = true
    rw [this]; rfl
theorem dep_nats : ∀ l : List Nat, PyData.depthAll (natD l) = 0
  | [] => rfl
  | n :: l => by
    have := dep_nats l
    show max 0 (PyData.depthAll (natD l)) = 0
    rw [this]; rfl
theorem sp_nats (l : List Nat) : SeqAt.shaped (.list (natD l)) = true := by
  unfold SeqAt.shaped
  simp only [PyData.canLay0, lay_nats, PyData.depth, dep_nats]
  decide
theorem sp_natsT (l : List Nat) : SeqAt.shaped (.tuple (natD l)) = true := by
  unfold SeqAt.shaped
  simp only [PyData.canLay0, lay_nats, PyData.depth, dep_nats]
  decide
theorem eqv_nil (l : List Nat) : PyData.eqv (.list (natD l)) (.list []) = l.isEmpty := by cases l <;> rfl
theorem flat_nats : ∀ l : List Nat, (natV l).all flatV = true
  | [] => rfl
  | n :: l => by
    have := flat_nats l
    show (true && (natV l).all flatV) = true
    rw [this]; rfl
theorem inV_nat (r : Nat) : ∀ l : List Nat, inV (.int (r : Int)) (natV l) = l.contains r
  | [] => rfl
  | n :: l => by
    have ih := inV_nat r l
    show (eqV (.int (n : Int)) (.int (r : Int)) || inV (.int (r : Int)) (natV l)) = _
    rw [ih, List.contains_cons]
    congr 1
    show ((n : Int) == (r : Int)) = (r == n)
    rw [Bool.eq_iff_iff, beq_iff_eq, beq_iff_eq]
    exact ⟨fun z => (Int.ofNat.inj z).symm, fun z => by rw [z]⟩
theorem filter_succ {p : Nat → Bool} (i : Nat) : (List.range (i + 1)).filter p = (List.range i).filter p ++ (if p i = true then [i] else []) := by
  rw [List.range_succ, List.filter_append]
  congr 1
  cases h : p i <;> simp [List.filter, h]
theorem filter_len (p : Nat → Bool) (i : Nat) : ((List.range i).filter p).length ≤ i := Nat.le_trans (List.length_filter_le ..) (Nat.le_of_eq List.length_range)
theorem blNe (a b : Bool) : (!decide (V.bl a = V.bl b)) = (a != b) := by cases a <;> cases b <;> decide
theorem blEq (a b : Bool) : decide (V.bl a = V.bl b) = (a == b) := by cases a <;> cases b <;> decide
theorem dec_int (a b : Int) : decide (V.int a = V.int b) = decide (a = b) := by simp
theorem natV_app (a b : List Nat) : natV (a ++ b) = natV a ++ natV b := List.map_append
/-! ### the least period -/
def shortOf (s : Nat) (R : List Nat) : List Nat := (List.range s).filter fun r => R.contains r
def badOf (p s : Nat) (R : List Nat) : List Nat := (List.range p).filter fun r => (shortOf s R).contains (r % s) != R.contains r
structure LeastP (p : Nat) (R : List Nat) (s : Nat) : Prop where
  pos : 1 ≤ s
  le : s ≤ p
  dvd : p % s = 0
  ok : badOf p s R = []
  least : ∀ t, 1 ≤ t → t < s → p % t = 0 → badOf p t R ≠ []
theorem short_has {s r : Nat} {R : List Nat} (h : r < s) : (shortOf s R).contains r = R.contains r := by
  unfold shortOf
  rw [Bool.eq_iff_iff, List.contains_iff_mem, List.contains_iff_mem, List.mem_filter, List.mem_range, List.contains_iff_mem]
  exact ⟨fun z => z.2, fun z => ⟨h, z⟩⟩
theorem bad_self (p : Nat) (R : List Nat) : badOf p p R = [] := by
  unfold badOf
  rw [List.filter_eq_nil_iff]
  intro r hr
  have hr' := List.mem_range.mp hr
  rw [Nat.mod_eq_of_lt hr', short_has hr']
  simp
def spLPer (K : PySem.W.Frag) : Sp := fun vs H Q _ => ∃ (p : Nat) (q : Addr) (R : List Nat), vs = [.int (p : Int), .ref q] ∧ (SqL K H q (natV R) ∨ SqT K H q (natV R)) ∧ 1 ≤ p ∧ p ≤ 10000 ∧
  ∀ (s : Nat) (a a2 : Addr) (H' : Hp), LeastP p R s → Same H H' → H' a = some (.tup [.int (s : Int), .ref a2]) → H' a2 = some (.tup (natV (shortOf s R))) → Q (.ref a) H'
section
variable {K : PySem.W.Frag}
theorem ok_least_period (F : DefAt K mg "least_period" s_least_period) (T : Txt K mg aGround aNum aInv) : DefOk P w K mg base CX0 1 "least_period" ["period", "rests"] (spLPer K) := by
  refine F.ok sc_least_period (fun _ _ _ _ _ _ us hl => match us, hl with | [_, _], _ => rfl) (fun vs H Q E h => ?_) (fun f cdv A outer s H vs Q E hr h => ?_)
  · obtain ⟨p, q, R, rfl, _⟩ := h
    rfl
  · obtain ⟨p, q, R, rfl, hq, p1, p2, k⟩ := h
    refine ⟨_, (pss_cons (ps_for PassesOwn.never rfl (pi_range2 (by rfl) T.n_range (pa_cons pe_int (pa_cons (pe_op (o_add K) (pv 0) pe_int) pa_nil))) (pg_name (i := 2) sc_least_period.nd rfl (Or.inr rfl))
  (pss_one (ps_if (pt_cmpR (o_eq K hr.units) (pe_op o_mod (pv 0) (pv 2)) pe_int (nomark _)) (pss_cons (ps_set (i := 3) sc_least_period.nd rfl (Or.inr rfl) (pe_lc (own := [("rest", 4)]) (g := (gName 4)) rfl sc_least_period.nd (pi_range1 (by rfl) T.n_range (pa_cons (pv 2) pa_nil)) (blkOk_by (own := [("rest", 4)]) (N := ["period", "rests", "size", "short", "rest"]) (sc := defScope s_least_period) (by decide +kernel)) (fun _ _ _ _ _ => (pg_name (i := 4) sc_least_period.nd rfl (Or.inl rfl) (Or.inr rfl))) (fun _ _ _ _ _ => (pts_one (pt_cmpR (o_in K) (pv 4) (pv 1) rfl))) (fun _ _ _ _ _ => (pv 4))))
  (pss_one (ps_if (pt_cmpR (o_eq K hr.units) (pe_lc (own := [("rest", 4)]) (g := (gName 4)) rfl sc_least_period.nd (pi_range1 (by rfl) T.n_range (pa_cons (pv 0) pa_nil)) (blkOk_by (own := [("rest", 4)]) (N := ["period", "rests", "size", "short", "rest"]) (sc := defScope s_least_period) (by decide +kernel)) (fun _ _ _ _ _ => (pg_name (i := 4) sc_least_period.nd rfl (Or.inl rfl) (Or.inr rfl))) (fun _ _ _ _ _ => (pts_one (pt_cmpR (o_ne K hr.units) (pe_cmpR (o_in K) (pe_op o_mod (pv 4) (pv 2)) (pv 3) rfl) (pe_cmpR (o_in K) (pv 4) (pv 1) rfl) (nomark _)))) (fun _ _ _ _ _ => (pv 4))) (pe_lst pa_nil) (nomark _)) (pss_one (ps_ret (pe_tup (pa_cons (pv 2) (pa_cons (pe_callTy (c_tuple K) (by rfl) T.n_tuple (by decide +kernel) (pa_cons (pv 3) pa_nil)) pa_nil)))))
  pss_nil)))
  pss_nil)))
  (pss_one (ps_ret (pe_tup (pa_cons (pv 0) (pa_cons (pe_callTy (c_tuple K) (by rfl) T.n_tuple (by decide +kernel) (pa_cons (pv 1) pa_nil)) pa_nil)))))), ?_⟩
    tm_at "go"
    refine ⟨1, _, rfl, ⟨by decide, by decide, by omega, by omega⟩, ?_⟩
    rw [show ((p : Int) + 1 - 1).toNat = p by omega]
    refine for_range (lo := 1) (n := p) (fun i σ H' => (∃ o2 o3 o4 : Option V, σ = [some (.int (p : Int)), some (.ref q), o2, o3, o4]) ∧ Same H H' ∧ ∀ t, 1 ≤ t → t ≤ i → p % t = 0 → badOf p t R ≠ []) ⟨⟨_, _, _, rfl⟩, Same.refl, fun t h1 h2 => by omega⟩ ?_ ?_
    · rintro i σ H1 hi ⟨⟨o2, o3, o4, rfl⟩, sm1, hno⟩
      have hsz : (1 : Int) + (i : Int) = ((i + 1 : Nat) : Int) := by omega
      rw [hsz]
      have hq1 := hq.imp (Same.seqL sm1) (sameT sm1)
      tm_at "go"
      refine r_mod (by omega) ?_
      tm_at "go"
      refine r_eq rfl ?_
      tm_at "go"
      have hmod : decide (V.int ((p : Int) % ((i + 1 : Nat) : Int)) = V.int 0) = decide (p % (i + 1) = 0) := by
        rw [dec_int, ← Int.natCast_emod]
        by_cases e : p % (i + 1) = 0
        · rw [e]; rfl
        · rw [decide_eq_false e, decide_eq_false (by omega)]
      rw [hmod]
      refine r_id (fun hd => ?_) (fun hd => ?_)
      · tm_at "go"
        refine ⟨_, rfl, by omega, by omega, fun D hD => ?_⟩
        rw [show (((i + 1 : Nat) : Int)).toNat = i + 1 from rfl]
        refine lc_range (fun j H' => Same H1 H' ∧ H' D = some (.lst (natV ((List.range j).filter fun r => R.contains r)))) ⟨same_new hD, upd_same⟩ ?_ ?_
        · rintro j H2 hj ⟨sm2, hl2⟩
          rw [Int.zero_add]
          tm_at "go"
          refine ⟨rfl, ?_⟩
          tm_at "go"
          refine r_inQ (hq1.imp (Same.seqL sm2) (sameT sm2)) rfl (flat_nats _) ?_
          rw [inV_nat]
          tm_at "go"
          refine r_ite (fun hc => ?_) (fun hc => ?_)
          · tm_at "go"
            refine ⟨_, hl2, ?_, Same.updF sm2 hD, ?_⟩
            · rw [List.length_map]
              exact szlt (Nat.ble_eq_true_of_le (Nat.le_trans (filter_len _ _) (by omega)))
            · rw [upd_same, filter_succ, if_pos hc, natV_app]; rfl
          · refine ⟨sm2, ?_⟩
            rw [filter_succ, if_neg (by rw [hc]; exact Bool.false_ne_true), List.append_nil]
            exact hl2
        · rintro H2 ⟨sm2, hl2⟩
          have hl2 : H2 D = some (.lst (natV (shortOf (i + 1) R))) := hl2
          tm_at "go"
          refine ⟨_, rfl, by omega, by omega, fun D2 hD2 => ?_⟩
          rw [show ((p : Int)).toNat = p from rfl]
          refine lc_range (fun j H' => Same H2 H' ∧ H' D2 = some (.lst (natV ((List.range j).filter fun r => (shortOf (i + 1) R).contains (r % (i + 1)) != R.contains r)))) ⟨same_new hD2, upd_same⟩ ?_ ?_
          · rintro j H3 hj ⟨sm3, hl3⟩
            rw [Int.zero_add]
            tm_at "go"
            refine ⟨rfl, ?_⟩
            tm_at "go"
            refine r_mod (by omega) ?_
            tm_at "go"
            rw [← Int.natCast_emod]
            refine r_inQ (.inl (SqL.of (sm3 _ _ hl2))) rfl (flat_nats _) ?_
            rw [inV_nat]
            tm_at "go"
            refine r_inQ ((hq1.imp (Same.seqL sm2) (sameT sm2)).imp (Same.seqL sm3) (sameT sm3)) rfl (flat_nats _) ?_
            rw [inV_nat]
            refine r_ne rfl ?_
            rw [blNe]
            tm_at "go"
            refine r_ite (fun hc => ?_) (fun hc => ?_)
            · tm_at "go"
              refine ⟨_, hl3, ?_, Same.updF sm3 hD2, ?_⟩
              · rw [List.length_map]
                exact szlt (Nat.ble_eq_true_of_le (Nat.le_trans (filter_len _ _) (by omega)))
              · rw [upd_same, filter_succ, if_pos hc, natV_app]; rfl
            · refine ⟨sm3, ?_⟩
              rw [filter_succ, if_neg (by rw [hc]; exact Bool.false_ne_true), List.append_nil]
              exact hl3
          · rintro H3 ⟨sm3, hl3⟩
            have hl3 : H3 D2 = some (.lst (natV (badOf p (i + 1) R))) := hl3
            tm_at "go"
            refine ⟨szl rfl, fun pe hpe => ?_⟩
            tm_at "go"
            refine r_eqD (d := .list (natD (badOf p (i + 1) R))) (e := .list []) (.lst (SqL.of (at_upd (ne_of_none hl3 hpe) hl3)) (dp_nats _)) (.lst (SqL.of upd_same) .nil) (sp_nats _) (by decide +kernel) ?_
            rw [eqv_nil]
            tm_at "go"
            have sm4 : Same H2 (upd H3 pe (.lst [])) := Same.new sm3 hpe
            refine r_ite (fun hb => ?_) (fun hb => ?_)
            · have hbad : badOf p (i + 1) R = [] := List.isEmpty_iff.mp hb
              tm_at "go"
              refine r_tupL (SqL.of (sm4 _ _ hl2)) fun at_ hat => ?_
              tm_at "go"
              refine ⟨szl rfl, fun pr hpr => ?_⟩
              have hat2 : upd (upd H3 pe (.lst [])) at_ (.tup (natV (shortOf (i + 1) R))) at_ = some (.tup (natV (shortOf (i + 1) R))) := upd_same
              exact k (i + 1) pr at_ _ ⟨by omega, by omega, hd, hbad, fun t h1 h2 h3 => hno t h1 (by omega) h3⟩ (Same.new (Same.new ((sm1.trans sm2).trans sm4) hat) hpr) upd_same (at_upd (ne_of_none hat2 hpr) hat2)
            · tm_at "go"
              have hbad : badOf p (i + 1) R ≠ [] := fun z => by rw [z] at hb; exact nomatch hb
              refine ⟨⟨_, _, _, rfl⟩, (sm1.trans sm2).trans sm4, fun t h1 h2 h3 => ?_⟩
              by_cases e : t = i + 1
              · rw [e]; exact hbad
              · exact hno t h1 (by omega) h3
      · tm_at "go"
        refine ⟨⟨_, _, _, rfl⟩, sm1, fun t h1 h2 h3 => ?_⟩
        by_cases e : t = i + 1
        · rw [e] at h3; exact absurd h3 hd
        · exact hno t h1 (by omega) h3
    · rintro σ H1 ⟨_, _, hno⟩
      exact absurd (bad_self p R) (hno p p1 (Nat.le_refl _) (Nat.mod_self p))
end
/-! ### the least form -/
def kvOf (l : List Nat) : List (Key × V) := l.map fun (n : Nat) => ((Sum.inl (n : Int) : Key), V.bl true)
def ins (l : List Nat) (n : Nat) : List Nat := if l.contains n = true then l else l ++ [n]
def ded (L : List Nat) : List Nat := L.foldl ins []
theorem ded_snoc (L : List Nat) (n : Nat) : ded (L ++ [n]) = ins (ded L) n := by unfold ded; rw [List.foldl_append]; rfl
theorem ins_mem {l : List Nat} {n m : Nat} : m ∈ ins l n ↔ m ∈ l ∨ m = n := by
  unfold ins
  split
  · rename_i h
    have := List.contains_iff_mem.mp h
    exact ⟨.inl, fun z => z.elim id fun e => e ▸ this⟩
  · simp
theorem foldl_mem (L : List Nat) : ∀ (l : List Nat) (m : Nat), m ∈ L.foldl ins l ↔ m ∈ l ∨ m ∈ L := by
  induction L with
  | nil => intro l m; simp
  | cons n L ih =>
    intro l m
    rw [List.foldl_cons, ih, ins_mem, List.mem_cons]
    exact or_assoc
theorem ded_mem (L : List Nat) (m : Nat) : m ∈ ded L ↔ m ∈ L := by unfold ded; rw [foldl_mem]; simp
theorem ins_nodup {l : List Nat} {n : Nat} (h : l.Nodup) : (ins l n).Nodup := by
  unfold ins
  split
  · exact h
  · rename_i z
    rw [List.contains_iff_mem] at z
    rw [List.nodup_append]
    refine ⟨h, by simp, fun a ha b hb => ?_⟩
    rw [List.mem_singleton.mp hb]
    exact fun e => z (e ▸ ha)
theorem foldl_nodup (L : List Nat) : ∀ l : List Nat, l.Nodup → (L.foldl ins l).Nodup := by
  induction L with
  | nil => intro l h; exact h
  | cons n L ih => intro l h; exact ih _ (ins_nodup h)
theorem ded_nodup (L : List Nat) : (ded L).Nodup := foldl_nodup L [] List.nodup_nil
theorem ins_len (l : List Nat) (n : Nat) : (ins l n).length ≤ l.length + 1 := by
  unfold ins
  split
  · omega
  · simp
theorem foldl_len (L : List Nat) : ∀ l : List Nat, (L.foldl ins l).length ≤ l.length + L.length := by
  induction L with
  | nil => intro l; simp
  | cons n L ih =>
    intro l
    rw [List.foldl_cons, List.length_cons]
    have := ih (ins l n)
    have := ins_len l n
    omega
theorem ded_len (L : List Nat) : (ded L).length ≤ L.length := by
  have := foldl_len L []
  simpa [ded] using this
theorem any_kv (l : List Nat) (n : Nat) : ((kvOf l).any fun kv => decide (kv.1 = (Sum.inl (n : Int) : Key))) = l.contains n := by
  induction l with
  | nil => rfl
  | cons m l ih =>
    show (decide ((Sum.inl (m : Int) : Key) = Sum.inl (n : Int)) || (kvOf l).any _) = _
    rw [ih, List.contains_cons]
    congr 1
    rw [Bool.eq_iff_iff, beq_iff_eq, decide_eq_true_eq]
    exact ⟨fun z => (Int.ofNat.inj (Sum.inl.inj z)).symm, fun z => by rw [z]⟩
theorem putK_kv (l : List Nat) (n : Nat) : putK (kvOf l) (Sum.inl (n : Int)) (.bl true) = kvOf (ins l n) := by
  unfold putK ins
  rw [any_kv]
  split
  · unfold kvOf
    rw [List.map_map]
    refine List.map_congr_left fun m _ => ?_
    show (if (Sum.inl (m : Int) : Key) = Sum.inl (n : Int) then _ else _) = _
    split <;> rfl
  · unfold kvOf
    rw [List.map_append]; rfl
theorem valV_kv (l : List Nat) (n : Nat) : (valV (kvOf l) (Sum.inl (n : Int))).isSome = l.contains n := by
  rw [← any_kv]
  unfold valV
  rw [Option.isSome_map, Bool.eq_iff_iff, List.find?_isSome, List.any_eq_true]
theorem sorted_nats {l L : List Nat} {c : Nat} {ns : List Int} (hn : l.Nodup) (hm : ∀ n, n ∈ l ↔ n ∈ L ∧ n < c) (hp : ns.Perm (l.map fun (n : Nat) => (n : Int))) (hs : ns.Pairwise (· ≤ ·)) :
    ns = ((List.range c).filter fun n => L.contains n).map fun (n : Nat) => (n : Int) := by
  have p2 : (l.map fun (n : Nat) => (n : Int)).Perm (((List.range c).filter fun n => L.contains n).map fun (n : Nat) => (n : Int)) := by
    refine List.Perm.map _ ((List.perm_ext_iff_of_nodup hn (List.Pairwise.filter _ List.nodup_range)).mpr fun a => ?_)
    rw [hm, List.mem_filter, List.mem_range, List.contains_iff_mem]
    exact and_comm
  refine List.Perm.eq_of_pairwise (le := (· ≤ ·)) (fun a b _ _ h1 h2 => Int.le_antisymm h1 h2) hs ?_ (hp.trans p2)
  rw [List.pairwise_map]
  exact (List.Pairwise.filter _ List.pairwise_lt_range).imp fun h => by omega
def listedOf (L : List Nat) (c : Nat) : List Nat := (List.range c).filter fun n => L.contains n
structure LeastS (L : List Nat) (p : Nat) (R : List Nat) (s c : Nat) : Prop where
  pos : 1 ≤ c
  le : c ≤ s
  same : ∀ n, c ≤ n → n < s → L.contains n = R.contains (n % p)
  last : c = 1 ∨ L.contains (c - 1) ≠ R.contains ((c - 1) % p)
def spLForm (K : PySem.W.Frag) : Sp := fun vs H Q _ => ∃ (t q : Addr) (L R : List Nat) (s p : Nat), vs = [.ref t, .int (s : Int), .int (p : Int), .ref q] ∧ (SqL K H t (natV L) ∨ SqT K H t (natV L)) ∧ (SqL K H q (natV R) ∨ SqT K H q (natV R)) ∧
  1 ≤ p ∧ p ≤ 10000 ∧ 1 ≤ s ∧ s ≤ 10000 ∧ L.length ≤ 10000 ∧
  ∀ (s' p' : Nat) (a a1 a2 : Addr) (H' : Hp), LeastP p R p' → LeastS L p' (shortOf p' R) s s' → Same H H' → H' a = some (.tup [.ref a1, .int (s' : Int), .int (p' : Int), .ref a2]) → H' a1 = some (.tup (natV (listedOf L s'))) →
    H' a2 = some (.tup (natV (shortOf p' R))) → Q (.ref a) H'
section
variable {K : PySem.W.Frag}
theorem ok_least_form (F : DefAt K mg "least_form" s_least_form) (T : Txt K mg aGround aNum aInv) (D_least_period : DefOk P w K mg base CX0 1 "least_period" ["period", "rests"] (spLPer K)) : DefOk P w K mg base CX0 2 "least_form" ["told", "since", "period", "rests"] (spLForm K) := by
  refine F.ok sc_least_form (fun _ _ _ _ _ _ us hl => match us, hl with | [_, _, _, _], _ => rfl) (fun vs H Q E h => ?_) (fun f cdv A outer s H vs Q E hr h => ?_)
  · obtain ⟨t, q, L, R, s, p, rfl, _⟩ := h
    rfl
  · obtain ⟨t, q, L, R, sc, p, rfl, ht, hq, p1, p2, s1, s2, hL, k⟩ := h
    refine ⟨_, (pss_cons (ps_asg (pe_callD D_least_period (hr.mono (by decide)) pass0 rfl (pa_cons (pv 2) (pa_cons (pv 3) pa_nil))) (pg_t (n := 2) K rfl (pgs_cons (pg_name (i := 2) sc_least_form.nd rfl (Or.inl rfl)) (pgs_cons (pg_name (i := 3) sc_least_form.nd rfl (Or.inl rfl)) pgs_nil))))
  (pss_cons (ps_setDc (i := 4) rfl sc_least_form.nd rfl rfl (sw_trueD rfl rfl rfl (by decide +kernel)) (own := [("number", 5)]) (g := (gName 5)) (pi_u K (pv 0)) (blkOk_by (own := [("number", 5)]) (N := ["told", "since", "period", "rests", "known", "number"]) (sc := defScope s_least_form) (by decide +kernel)) (fun _ _ _ _ _ => (pg_name (i := 5) sc_least_form.nd rfl (Or.inl rfl) (Or.inr rfl))) (fun _ _ _ _ _ => pts_nil) (fun _ _ _ _ _ => (pv 5)) (fun _ _ _ _ _ => pe_bl))
  (pss_cut (ps_while PassesOwn.never (PW.pt (pw_and (pt_cmpR o_gt (pv 1) pe_int (nomark _)) (pw_and1 (pt_cmpR (o_eq K hr.units) (pe_cmp (pc_din (hu_of hr) (pe_op o_sub (pv 1) pe_int) (pv 4))) (pe_cmpR (o_in K) (pe_op o_mod (pe_op o_sub (pv 1) pe_int) (pv 2)) (pv 3) rfl) (nomark _)))))
  (pss_one (ps_set (i := 1) sc_least_form.nd rfl (Or.inr rfl) (pe_op o_sub (pv 1) pe_int))))
  (pss_one (ps_ret (pe_tup (pa_cons (pe_callTy (c_tuple K) (by rfl) T.n_tuple (by decide +kernel) (pa_cons (pe_callB cr_sortedI (by rfl) T.n_sorted (by decide +kernel) (pa_cons (pe_lock (pe_lc (own := [("number", 5)]) (g := (gName 5)) rfl sc_least_form.nd (pi_keys (pv 4)) (blkOk_by (own := [("number", 5)]) (N := ["told", "since", "period", "rests", "known", "number"]) (sc := defScope s_least_form) (by decide +kernel)) (fun _ _ _ _ _ => (pg_name (i := 5) sc_least_form.nd rfl (Or.inl rfl) (Or.inr rfl))) (fun _ _ _ _ _ => (pts_one (pt_cmpR o_lt (pv 5) (pv 1) (nomark _)))) (fun _ _ _ _ _ => (pe_callTy c_int (by rfl) T.n_int (by decide +kernel) (pa_cons (pv 5) pa_nil))))) pa_nil)) pa_nil)) (pa_cons (pv 1) (pa_cons (pv 2) (pa_cons (pv 3) pa_nil)))))))))), ?_⟩
    tm_at "go"
    refine ⟨p, q, R, rfl, hq, p1, p2, fun p' a a2 H1 lp sm1 ha ha2 => ?_⟩
    refine r_gT (SqT.of ha) rfl ?_
    tm_at "go"
    have ht1 := ht.imp (Same.seqL sm1) (sameT sm1)
    refine' r_walk ht1 ?_
    intro J G w hG sG D hD
    have hlen : (natV L).length = L.length := List.length_map ..
    refine dc_it w (fun i H' => Same H1 H' ∧ H' D = some (.dK (kvOf (ded (L.take i))))) ⟨same_new hD, upd_same⟩ (fun i H' _ p => sG _ _ p.1 hG) ?_ ?_
    · rintro i x H2 H' hi ⟨sm2, hd⟩ ⟨rfl, hx⟩
      obtain ⟨n, hn, rfl⟩ := natV_at hx
      tm_at "go"
      refine ⟨rfl, ?_⟩
      tm_at "go"
      refine ⟨_, Sum.inl (n : Int), rfl, hd, ?_, Same.updF sm2 hD, ?_⟩
      · unfold kvOf
        rw [List.length_map]
        exact szlt (Nat.ble_eq_true_of_le (Nat.le_trans (ded_len _) (Nat.le_trans (List.length_take_le ..) (by omega))))
      · rw [upd_same, putK_kv, take_succ hn, ded_snoc]
    · rintro H2 ⟨sm2, hd⟩
      rw [hlen, List.take_length] at hd
      have ha2' := sm2 _ _ ha2
      tm_at "go"
      refine r_cut (fun σ' H' => ∃ c : Nat, σ' = [some (.ref t), some (.int (c : Int)), some (.int (p' : Int)), some (.ref a2), some (.ref D), none] ∧ H' = H2 ∧ LeastS L p' (shortOf p' R) sc c) ?_ ?_
      · refine ⟨fun m σ H' => ∃ c : Nat, m = c ∧ σ = [some (.ref t), some (.int (c : Int)), some (.int (p' : Int)), some (.ref a2), some (.ref D), none] ∧ H' = H2 ∧ 1 ≤ c ∧ c ≤ sc ∧ ∀ n, c ≤ n → n < sc → L.contains n = (shortOf p' R).contains (n % p'),
          ⟨_, sc, rfl, rfl, rfl, s1, Nat.le_refl _, fun n h1 h2 => by omega⟩, ?_⟩
        rintro m σ H' ⟨c, hmc, rfl, rfl, c1, c2, hsame⟩
        subst m
        tm_at "go"
        refine r_id (fun h1 => ?_) (fun h1 => ?_)
        · have hc1 : (c : Int) - 1 = ((c - 1 : Nat) : Int) := by omega
          tm_at "go"
          rw [hc1]
          refine r_dinG (k := Sum.inl ((c - 1 : Nat) : Int)) hd ?_
          rw [valV_kv]
          tm_at "go"
          refine r_mod (by have := lp.pos; omega) ?_
          tm_at "go"
          rw [hc1, ← Int.natCast_emod]
          refine r_inQ (.inr (SqT.of ha2')) rfl (flat_nats _) ?_
          rw [inV_nat]
          refine r_eq rfl ?_
          rw [blEq]
          tm_at "go"
          have hcon : (ded L).contains (c - 1) = L.contains (c - 1) := by
            rw [Bool.eq_iff_iff, List.contains_iff_mem, List.contains_iff_mem]; exact ded_mem L _
          rw [hcon]
          refine r_ite (fun he => ?_) (fun he => ?_)
          · have he' := beq_iff_eq.mp he
            refine ⟨fun σ' H'' => σ' = [some (.ref t), some (.int ((c - 1 : Nat) : Int)), some (.int (p' : Int)), some (.ref a2), some (.ref D), none] ∧ H'' = H',
              fun σ' H'' z => ⟨c - 1, by omega, c - 1, rfl, z.1, z.2, by omega, by omega, fun n h1 h2 => ?_⟩, ?_⟩
            · by_cases e : n = c - 1
              · rw [e]; exact he'
              · exact hsame n (by omega) h2
            · tm_at "go"
              rw [hc1]
              exact ⟨rfl, rfl⟩
          · exact ⟨c, rfl, rfl, c1, c2, hsame, .inr fun z => by rw [z] at he; simp at he⟩
        · exact ⟨c, rfl, rfl, c1, c2, hsame, .inl (by omega)⟩
      rintro σ H' ⟨c, rfl, rfl, lc⟩
      have smA : Same H H' := sm1.trans sm2
      have hD0 : H D = Option.none := Same.free sm1 hD
      tm_at "go"
      refine r_lockE hd fun od => ?_
      have smL : Same H (upd H' D (.frz od (.dK (kvOf (ded L))))) := Same.updF smA hD0
      have ha2L : (upd H' D (.frz od (.dK (kvOf (ded L))))) a2 = some (.tup (natV (shortOf p' R))) := at_upd (ne_of_none ha2 hD) ha2'
      have hdL : (upd H' D (.frz od (.dK (kvOf (ded L))))) D = some (.frz od (.dK (kvOf (ded L)))) := upd_same
      generalize upd H' D (.frz od (.dK (kvOf (ded L)))) = HL at smL ha2L hdL ⊢
      tm_at "go"
      refine ⟨D, od, rfl, .inl ⟨_, hdL, fun D2 hD2 => ?_⟩⟩
      have hD20 : H D2 = Option.none := Same.free smL hD2
      refine lc_it walk_keys (fun i H'' => Same HL H'' ∧ H'' D2 = some (.lst (natV (((ded L).take i).filter fun n => decide (n < c))))) ⟨same_new hD2, upd_same⟩ (fun i H'' _ p => p.1 _ _ hdL) ?_ ?_
      · rintro i x H3 H4 hi ⟨sm3, hl3⟩ ⟨rfl, kk, vv, hkv, rfl⟩
        obtain ⟨n, hn, rfl⟩ : ∃ n, (ded L)[i]? = some n ∧ kk = Sum.inl (n : Int) := by
          unfold kvOf at hkv
          rw [List.getElem?_map] at hkv
          cases e : (ded L)[i]? with
          | none => rw [e] at hkv; cases hkv
          | some n => rw [e] at hkv; cases hkv; exact ⟨n, rfl, rfl⟩
        rw [show kV (Sum.inl (n : Int)) = V.int (n : Int) from rfl]
        tm_at "go"
        refine ⟨rfl, ?_⟩
        tm_at "go"
        have e : decide ((n : Int) < (c : Int)) = decide (n < c) := by simp
        rw [e]
        refine r_id (fun hc => ?_) (fun hc => ?_)
        · tm_at "go"
          refine ⟨_, hl3, ?_, Same.updF sm3 hD2, ?_⟩
          · rw [List.length_map]
            exact szlt (Nat.ble_eq_true_of_le (Nat.le_trans (List.length_filter_le ..) (Nat.le_trans (by rw [List.length_take]; exact Nat.min_le_right ..) (Nat.le_trans (ded_len L) (by omega)))))
          · rw [upd_same, take_succ hn, List.filter_append, natV_app]
            simp [List.filter, hc]
        · refine ⟨sm3, ?_⟩
          rw [take_succ hn, List.filter_append]
          simp only [List.filter, decide_eq_false hc, List.append_nil]
          exact hl3
      · rintro H3 ⟨sm3, hl3⟩
        have hl3 : H3 D2 = some (.lst (natV ((ded L).filter fun n => decide (n < c)))) := by
          rw [show (kvOf (ded L)).length = (ded L).length from List.length_map .., List.take_length] at hl3
          exact hl3
        refine ⟨sm3 _ _ hdL, ?_⟩
        have nD2 : D2 ≠ D := ne_kind hl3 (sm3 _ _ hdL) fun z => nomatch z
        have smZ : Same H (upd H3 D (.dK (kvOf (ded L)))) := Same.updF (smL.trans sm3) hD0
        have hlZ : (upd H3 D (.dK (kvOf (ded L)))) D2 = some (.lst (natV ((ded L).filter fun n => decide (n < c)))) := at_upd nD2 hl3
        have haZ : (upd H3 D (.dK (kvOf (ded L)))) a2 = some (.tup (natV (shortOf p' R))) := at_upd (ne_kind (sm3 _ _ ha2L) (sm3 _ _ hdL) fun z => nomatch z) (sm3 _ _ ha2L)
        generalize upd H3 D (.dK (kvOf (ded L))) = HZ at smZ hlZ haZ ⊢
        tm_at "go"
        refine ⟨D2, ((ded L).filter fun n => decide (n < c)).map fun (n : Nat) => (n : Int), rfl, SqL.of (by rw [List.map_map]; exact hlZ), fun ns' ps hperm hsorted hps => ?_⟩
        have hns := sorted_nats (L := L) (c := c) (List.Pairwise.filter _ (ded_nodup L)) (fun n => by rw [List.mem_filter, ded_mem, decide_eq_true_eq]) hperm hsorted
        tm_at "go"
        refine r_tupL (SqL.of upd_same) fun a1 ha1 => ?_
        tm_at "go"
        refine ⟨szl rfl, fun pr hpr => ?_⟩
        have h1 : upd (upd HZ ps (.lst (ns'.map V.int))) a1 (.tup (ns'.map V.int)) a1 = some (.tup (natV (listedOf L c))) := by
          rw [upd_same, hns, List.map_map]; rfl
        have h2 : upd (upd HZ ps (.lst (ns'.map V.int))) a1 (.tup (ns'.map V.int)) a2 = some (.tup (natV (shortOf p' R))) := by tm_at "hs"
        exact k c p' pr a1 a2 _ lp lc (Same.new (Same.new (Same.new smZ hps) ha1) hpr) upd_same (at_upd (ne_of_none h1 hpr) h1) (at_upd (ne_of_none h2 hpr) h2)
end
/-! ### a set of numbers -/
def intOf (v : V) : Int := match v with | .int i => i | _ => 0
def geV (v : V) (a : Int) : Bool := match v with | .int i => decide (a ≤ i) | _ => false
def badN (ol : Option (List V)) (s p : V) (orr : Option (List V)) : Option Str :=
  if geV s 1 = false then some "since" else if allV ol 1 (intOf s - 1) = false then some "listed" else if geV p 1 = false then some "period" else if allV orr 0 (intOf p - 1) = false then some "rests" else none
theorem allV_nat {o : Option (List V)} {a b : Int} (h : allV o a b = true) (ha : 0 ≤ a) : ∃ L : List Nat, o = some (natV L) ∧ ∀ n ∈ L, a ≤ (n : Int) ∧ (n : Int) ≤ b := by
  cases o with
  | none => cases h
  | some xs =>
    replace h : (xs.all fun y => fromV y a b) = true := h
    suffices z : ∃ L : List Nat, xs = natV L ∧ ∀ n ∈ L, a ≤ (n : Int) ∧ (n : Int) ≤ b from by
      obtain ⟨L, e, q⟩ := z
      exact ⟨L, by rw [e], q⟩
    induction xs with
    | nil => exact ⟨[], rfl, by simp⟩
    | cons y xs ih =>
      rw [List.all_cons, Bool.and_eq_true] at h
      obtain ⟨L, e, q⟩ := ih h.2
      have h1 := h.1
      cases y with
      | int i =>
        have h1 : (decide (a ≤ i) && decide (i ≤ b)) = true := h1
        rw [Bool.and_eq_true, decide_eq_true_eq, decide_eq_true_eq] at h1
        refine ⟨i.toNat :: L, ?_, ?_⟩
        · rw [e, natV, natV, List.map_cons, Int.toNat_of_nonneg (by omega)]
        · intro n hn
          rcases List.mem_cons.mp hn with rfl | hn
          · omega
          · exact q n hn
      | _ => cases h1
abbrev numF (a1 : Addr) (s p : Nat) (a2 : Addr) : List (Str × V) := [("listed", .ref a1), ("since", .int (s : Int)), ("period", .int (p : Int)), ("rests", .ref a2)]
theorem numF_put (a1 : Addr) (s p : Nat) (a2 : Addr) : putF "rests" (.ref a2) (putF "period" (.int (p : Int)) (putF "since" (.int (s : Int)) (putF "listed" (.ref a1) []))) = numF a1 s p a2 := by
  have d1 : ¬ ("listed" : Str) = "since" := by decide +kernel
  have d2 : ¬ ("listed" : Str) = "period" := by decide +kernel
  have d3 : ¬ ("since" : Str) = "period" := by decide +kernel
  have d4 : ¬ ("listed" : Str) = "rests" := by decide +kernel
  have d5 : ¬ ("since" : Str) = "rests" := by decide +kernel
  have d6 : ¬ ("period" : Str) = "rests" := by decide +kernel
  simp only [putF, if_neg d1, if_neg d2, if_neg d3, if_neg d4, if_neg d5, if_neg d6]
def small (v : V) : Prop := ∀ i, v = .int i → i ≤ 10000
def spNumI (K : PySem.W.Frag) (aNum aInv : Addr) : Sp := fun vs H Q E => ∃ (x dx : Addr) (lv sv pv rv : V) (ol orr : Option (List V)), vs = [.ref x, lv, sv, pv, rv] ∧ H x = some (.ins aNum dx []) ∧ Arg K H lv ol ∧ Kd K H sv ∧ Kd K H pv ∧ Arg K H rv orr ∧ small sv ∧ small pv ∧
  (∀ w, badN ol sv pv orr = some w → ∀ (d : Addr) (H' : Hp), Same H H' → H' d = none → E (.ref aInv) (some d) (upd H' d (.xd [("word", .str w)]))) ∧
  (badN ol sv pv orr = none → ∀ (L R : List Nat) (s p s' p' : Nat) (a1 a2 : Addr) (H' : Hp), ol = some (natV L) → orr = some (natV R) → sv = .int (s : Int) → pv = .int (p : Int) → 1 ≤ s → 1 ≤ p → (∀ n ∈ L, 1 ≤ n ∧ n < s) → (∀ r ∈ R, r < p) →
    LeastP p R p' → LeastS L p' (shortOf p' R) s s' → Kx x H H' → H' x = some (.ins aNum dx (numF a1 s' p' a2)) → H' a1 = some (.tup (natV (listedOf L s'))) → H' a2 = some (.tup (natV (shortOf p' R))) → Q .non H')
theorem r_mkS {K : PySem.W.Frag} {C : Addr} {f : Str} {v : V} {σ : St} {H : Hp} {Q : XK} (T : OexC K C) (hf : PySem.W.findIn K (.ref C) f = some none) (k : ∀ d, H d = none → Q (.ref C) (some d) (upd H d (.xd [(f, v)]))) :
    tMkO C (spInitF K C f) [] (tCons (tC v) tNil) σ H Q := r_mkF (x := v) T hf ⟨v, rfl, k⟩ fun hh h => hh _ _ h
section
variable {K : PySem.W.Frag}
theorem ok_InvalidNumbers (F : ErrAt K mg "InvalidNumbers" "InvalidNumbers.__init__" s_InvalidNumbers__init aInv) (T : Txt K mg aGround aNum aInv) : ErrOk P w K mg base 1 "InvalidNumbers" aInv ["self", "word"] (spInitF K aInv "word") := by
  refine F.ok sc_InvalidNumbers__init (fun _ _ _ _ _ _ us hl => match us, hl with | [_, _], _ => rfl) (fun vs H Q E h => ?_) (fun f cdv A outer s H vs Q E hr h => ?_)
  · obtain ⟨a, x, rfl, _⟩ := h
    rfl
  · obtain ⟨a, x, rfl, oc, hno, ha, k⟩ := h
    refine ⟨_, (pss_cons (ps_expr (pe_ginit rfl T.m_GroundError T.b_GroundError (pa_cons (pv 0) (pa_cons pe_str pa_nil))))
  (pss_one (ps_ost (pv 0) (pv 1)))), ?_⟩
    tm_at "go"
    refine ⟨a, aInv, _, rfl, Nat.le_of_ble_eq_true rfl, oc, ha, ?_⟩
    refine ⟨x, rfl, .ref a, rfl, a, aInv, rfl, oc, hno, .inl ⟨ha, fun dx h1 h2 => ?_⟩⟩
    exact k dx h1 h2
theorem ok_NumI {aI : Addr} {fdI : FuncData} {dvs : List V} (F : FunD K "__init__" "Numbers.__init__" (defArgs s_Numbers__init) (defBody s_Numbers__init) (defScope s_Numbers__init) dvs [] aI fdI) (T : Txt K mg aGround aNum aInv)
    (D_is_integer : DefOk P w K mg base CX0 1 "is_integer" ["value"] (spIsInt K)) (D_all_from : DefOk P w K mg base CX0 2 "all_from" ["values", "least", "most"] (spAllFrom K)) (D_least_form : DefOk P w K mg base CX0 2 "least_form" ["told", "since", "period", "rests"] (spLForm K))
    (R_InvalidNumbers : ErrOk P w K mg base 1 "InvalidNumbers" aInv ["self", "word"] (spInitF K aInv "word")) :
    FnOk P w K mg base (L2.CX P w) 4 aI fdI ["self", "listed", "since", "period", "rests"] (spNumI K aNum aInv) := by
  refine F.ok sc_Numbers__init (fun vs H Q E h => ?_) (fun cdv A outer s H vs Q E hr h => ?_)
  · obtain ⟨x, dx, vL, vS, vP, vR, ol, orr, rfl, _⟩ := h
    rfl
  · obtain ⟨x, dx, vL, vS, vP, vR, ol, orr, rfl, hx, hl, hs, hp, hrr, sms, smp, kN, kY⟩ := h
    refine ⟨_, (pss_cons (ps_if (PW.pt (pw_or (pt_not (pt_tr K (pe_callD D_is_integer (hr.mono (by decide)) pass0 rfl (pa_cons (pv 2) pa_nil)))) (pw_or1 (pt_cmpR o_lt (pv 2) pe_int (nomark _))))) (pss_one (ps_raise rfl (takes_of rfl rfl rfl rfl) (pmkF R_InvalidNumbers (hr.mono (by decide)) rfl (pa_cons pe_str pa_nil))))
  pss_nil)
  (pss_cons (ps_if (pt_not (pt_tr K (pe_callD D_all_from (hr.mono (by decide)) pass0 rfl (pa_cons (pv 1) (pa_cons pe_int (pa_cons (pe_op o_sub (pv 2) pe_int) pa_nil)))))) (pss_one (ps_raise rfl (takes_of rfl rfl rfl rfl) (pmkF R_InvalidNumbers (hr.mono (by decide)) rfl (pa_cons pe_str pa_nil))))
  pss_nil)
  (pss_cons (ps_if (PW.pt (pw_or (pt_not (pt_tr K (pe_callD D_is_integer (hr.mono (by decide)) pass0 rfl (pa_cons (pv 3) pa_nil)))) (pw_or1 (pt_cmpR o_lt (pv 3) pe_int (nomark _))))) (pss_one (ps_raise rfl (takes_of rfl rfl rfl rfl) (pmkF R_InvalidNumbers (hr.mono (by decide)) rfl (pa_cons pe_str pa_nil))))
  pss_nil)
  (pss_cons (ps_if (pt_not (pt_tr K (pe_callD D_all_from (hr.mono (by decide)) pass0 rfl (pa_cons (pv 4) (pa_cons pe_int (pa_cons (pe_op o_sub (pv 3) pe_int) pa_nil)))))) (pss_one (ps_raise rfl (takes_of rfl rfl rfl rfl) (pmkF R_InvalidNumbers (hr.mono (by decide)) rfl (pa_cons pe_str pa_nil))))
  pss_nil)
  (pss_one (ps_asg (pe_callD D_least_form (hr.mono (by decide)) pass0 rfl (pa_cons (pv 1) (pa_cons (pv 2) (pa_cons (pv 3) (pa_cons (pv 4) pa_nil))))) (pg_t (n := 4) K rfl (pgs_cons (pg_fld K (pv 0)) (pgs_cons (pg_fld K (pv 0)) (pgs_cons (pg_fld K (pv 0)) (pgs_cons (pg_fld K (pv 0)) pgs_nil))))))))))), ?_⟩
    have RI := R_InvalidNumbers.2.1
    tm_at "go"
    refine ⟨vS, rfl, hs, ?_⟩
    tm_at "go"
    have bad1 : geV vS 1 = false → badN ol vS vP orr = some "since" := fun z => if_pos z
    refine r_ite (fun h1 => ?_) (fun h1 => ?_)
    · tm_at "go"
      refine r_mkS RI T.xw fun d hd => ?_
      exact kN _ (bad1 (by cases vS <;> first | rfl | cases h1)) d _ Same.refl hd
    · obtain ⟨i, rfl⟩ := isI_int (v := vS) (by cases vS <;> first | rfl | cases h1)
      tm_at "go"
      refine r_id (fun h2 => ?_) (fun h2 => ?_)
      · tm_at "go"
        refine r_mkS RI T.xw fun d hd => ?_
        exact kN _ (bad1 (decide_eq_false (by omega))) d _ Same.refl hd
      · tm_at "go"
        have g1 : ¬ geV (.int i) 1 = false := by
          rw [show geV (.int i) 1 = true from decide_eq_true (by omega)]
          exact fun z => nomatch z
        have bad2 : allV ol 1 (i - 1) = false → badN ol (.int i) vP orr = some "listed" := fun z => (if_neg g1).trans (if_pos z)
        refine ⟨vL, 1, i - 1, ol, rfl, hl, fun H1 s1 => ?_⟩
        tm_at "go"
        refine r_ite (fun h3 => ?_) (fun h3 => ?_)
        · tm_at "go"
          refine r_mkS RI T.xw fun d hd => ?_
          exact kN _ (bad2 (by simpa using h3)) d _ s1 hd
        · have h3' : allV ol 1 (i - 1) = true := by simpa using h3
          tm_at "go"
          refine ⟨vP, rfl, hp.mono s1, ?_⟩
          tm_at "go"
          have g2 : ¬ allV ol 1 (i - 1) = false := by rw [h3']; exact fun z => nomatch z
          have bad3 : geV vP 1 = false → badN ol (.int i) vP orr = some "period" := fun z => (if_neg g1).trans ((if_neg g2).trans (if_pos z))
          refine r_ite (fun h4 => ?_) (fun h4 => ?_)
          · tm_at "go"
            refine r_mkS RI T.xw fun d hd => ?_
            exact kN _ (bad3 (by cases vP <;> first | rfl | cases h4)) d _ s1 hd
          · obtain ⟨j, rfl⟩ := isI_int (v := vP) (by cases vP <;> first | rfl | cases h4)
            tm_at "go"
            refine r_id (fun h5 => ?_) (fun h5 => ?_)
            · tm_at "go"
              refine r_mkS RI T.xw fun d hd => ?_
              exact kN _ (bad3 (decide_eq_false (by omega))) d _ s1 hd
            · tm_at "go"
              have g3 : ¬ geV (.int j) 1 = false := by
                rw [show geV (.int j) 1 = true from decide_eq_true (by omega)]
                exact fun z => nomatch z
              have bad4 : allV orr 0 (j - 1) = false → badN ol (.int i) (.int j) orr = some "rests" := fun z => (if_neg g1).trans ((if_neg g2).trans ((if_neg g3).trans (if_pos z)))
              refine ⟨vR, 0, j - 1, orr, rfl, hrr.mono s1, fun H2 s2 => ?_⟩
              tm_at "go"
              refine r_ite (fun h6 => ?_) (fun h6 => ?_)
              · tm_at "go"
                refine r_mkS RI T.xw fun d hd => ?_
                exact kN _ (bad4 (by simpa using h6)) d _ (s1.trans s2) hd
              · have h6' : allV orr 0 (j - 1) = true := by simpa using h6
                have g4 : ¬ allV orr 0 (j - 1) = false := by rw [h6']; exact fun z => nomatch z
                have good : badN ol (.int i) (.int j) orr = none := (if_neg g1).trans ((if_neg g2).trans ((if_neg g3).trans (if_neg g4)))
                have kY := kY good
                obtain ⟨L, rfl, hLL⟩ := allV_nat h3' (by decide)
                obtain ⟨R, rfl, hRR⟩ := allV_nat h6' (by decide)
                obtain ⟨n, rfl⟩ : ∃ n : Nat, i = (n : Int) := ⟨i.toNat, by omega⟩
                obtain ⟨m, rfl⟩ : ∃ m : Nat, j = (m : Int) := ⟨j.toNat, by omega⟩
                have n2 := sms _ rfl
                have m2 := smp _ rfl
                have sm := s1.trans s2
                obtain ⟨tl, rfl, tls, tln, _⟩ := hl.mono sm
                obtain ⟨tr, rfl, trs, trn, _⟩ := hrr.mono sm
                rw [List.length_map] at tln
                tm_at "go"
                refine ⟨tl, tr, L, R, n, m, rfl, tls, trs, by omega, by omega, by omega, by omega, by omega, fun s' p' a a1 a2 H3 lp ls s3 ha ha1 ha2 => ?_⟩
                refine r_gT (SqT.of ha) rfl ?_
                have sm3 := sm.trans s3
                have hx3 := sm3 _ _ hx
                have n1 : a1 ≠ x := ne_kind ha1 hx3 fun z => nomatch z
                have n2 : a2 ≠ x := ne_kind ha2 hx3 fun z => nomatch z
                tm_at "go"
                refine r_putG hx3 T.clN T.nL (by decide) ?_
                tm_at "go"
                refine r_putG upd_same T.clN T.nS (Nat.lt_of_le_of_lt (putF_len ..) (by decide)) ?_
                tm_at "go"
                refine r_putG upd_same T.clN T.nP (Nat.lt_of_le_of_lt (Nat.le_trans (putF_len ..) (Nat.succ_le_succ (putF_len ..))) (by decide)) ?_
                tm_at "go"
                refine r_putG upd_same T.clN T.nR (Nat.lt_of_le_of_lt (Nat.le_trans (putF_len ..) (Nat.succ_le_succ (Nat.le_trans (putF_len ..) (Nat.succ_le_succ (putF_len ..))))) (by decide)) ?_
                tm_at "go"
                rw [upd_upd, upd_upd, upd_upd, numF_put]
                exact kY L R n m s' p' a1 a2 _ rfl rfl rfl rfl (by omega) (by omega) (fun q hq => by have := hLL q hq; omega) (fun q hq => by have := hRR q hq; omega) lp ls (Kx.set (Kx.same Kx.refl sm3)) upd_same (at_upd n1 ha1) (at_upd n2 ha2)
end
def spLNum (K : PySem.W.Frag) : Sp := fun vs H Q _ => ∃ (v : V) (a : Int), vs = [v, .int a] ∧ Kd K H v ∧ Q (.bl (geV v a)) H
def wordV (o : Option Str) : V := match o with | none => .non | some w => .str w
def spDue (K : PySem.W.Frag) : Sp := fun vs H Q _ => ∃ (vL vS vP vR : V) (ol orr : Option (List V)), vs = [vL, vS, vP, vR] ∧ Arg K H vL ol ∧ Kd K H vS ∧ Kd K H vP ∧ Arg K H vR orr ∧ ∀ H', Same H H' → Q (wordV (badN ol vS vP orr)) H'
def spHeard3 (K : PySem.W.Frag) : Sp := fun vs H Q _ => ∃ (l : Addr) (vL vS vP vR : V) (ol orr : Option (List V)), vs = [.ref l] ∧ H l = some (.lst [vL, vS, vP, vR]) ∧ Arg K H vL ol ∧ Kd K H vS ∧ Kd K H vP ∧ Arg K H vR orr ∧ small vS ∧ small vP ∧
  ∀ H', Same H H' → Q (wordV (badN ol vS vP orr)) H'
section
variable {K : PySem.W.Frag}
theorem ok_lnum (F : DefAt K mg "_law_is_number" s_law_is_number) (T : Txt K mg aGround aNum aInv) : DefOk P w K mg base CX0 1 "_law_is_number" ["_law_value", "_law_least"] (spLNum K) := by
  refine F.ok sc_law_is_number (fun _ _ _ _ _ _ us hl => match us, hl with | [_, _], _ => rfl) (fun vs H Q E h => ?_) (fun f cdv A outer s H vs Q E hr h => ?_)
  · obtain ⟨v, a, rfl, _⟩ := h
    rfl
  · obtain ⟨v, a, rfl, hv, k⟩ := h
    refine ⟨_, (pss_one (ps_ret (pe_and (pe_callB (c_isi K) (by rfl) T.n_isinstance (by decide +kernel) (pa_cons (pv 0) (pa_cons (pe_bT (T := "int") (by rfl) T.n_int (by decide +kernel)) pa_nil))) (pe_and (pe_not (pe_callB (c_isi K) (by rfl) T.n_isinstance (by decide +kernel) (pa_cons (pv 0) (pa_cons (pe_bT (T := "bool") (by rfl) T.n_bool (by decide +kernel)) pa_nil)))) (pe_one (pe_cmpR o_ge (pv 0) (pv 1) (nomark _))))))), ?_⟩
    obtain ⟨t1, ty1, e1⟩ := hv.isi_int
    obtain ⟨t2, ty2, e2⟩ := hv.isi_bool
    tm_at "go"
    refine r_isi (.ty _) ty1 e1 ?_
    tm_at "go"
    refine r_ite (fun h1 => ?_) (fun h1 => ?_)
    · tm_at "go"
      refine r_isi (.ty _) ty2 e2 ?_
      tm_at "go"
      refine r_ite (fun h2 => ?_) (fun h2 => ?_)
      · obtain ⟨i, rfl⟩ := isI_int (v := v) (by rw [← isI_of, h1, h2]; rfl)
        tm_at "go"
        exact k
      · have e : geV v a = false := by cases v <;> first | rfl | (simp [isB] at h2; done) | exact nomatch h1
        rw [e] at k
        exact k
    · have e : geV v a = false := by cases v <;> first | rfl | exact nomatch h1
      rw [e] at k
      exact k
theorem ok_lare (F : DefAt K mg "_law_are" s_law_are) (T : Txt K mg aGround aNum aInv) (D_law_is_number : DefOk P w K mg base CX0 1 "_law_is_number" ["_law_value", "_law_least"] (spLNum K)) :
    DefOk P w K mg base CX0 2 "_law_are" ["_law_value", "_law_least", "_law_most"] (spAllFrom K) := by
  refine F.ok sc_law_are (fun _ _ _ _ _ _ us hl => match us, hl with | [_, _, _], _ => rfl) (fun vs H Q E h => ?_) (fun f cdv A outer s H vs Q E hr h => ?_)
  · obtain ⟨v, a, b, o, rfl, _⟩ := h
    rfl
  · obtain ⟨v, a, b, o, rfl, hv, k⟩ := h
    refine ⟨_, (pss_cons (ps_if (pt_not (pt_tr K (pe_callB (c_isiT K) (by rfl) T.n_isinstance (by decide +kernel) (pa_cons (pv 0) (pa_cons (pe_tup (pa_cons (pe_bT (T := "list") (by rfl) T.n_list (by decide +kernel)) (pa_cons (pe_bT (T := "tuple") (by rfl) T.n_tuple (by decide +kernel)) pa_nil))) pa_nil))))) (pss_one (ps_ret pe_bl))
  pss_nil)
  (pss_one (ps_ret (pe_cmpR (o_eq K hr.units) (pe_lc (own := [("_law_one", 3)]) (g := (gName 3)) rfl sc_law_are.nd (pi_u K (pv 0)) (blkOk_by (own := [("_law_one", 3)]) (N := ["_law_value", "_law_least", "_law_most", "_law_one"]) (sc := defScope s_law_are) (by decide +kernel)) (fun _ _ _ _ _ => (pg_name (i := 3) sc_law_are.nd rfl (Or.inl rfl) (Or.inr rfl))) (fun _ _ _ _ _ => (pts_one (PW.pt (pw_or (pt_not (pt_tr K (pe_callD D_law_is_number (hr.mono (by decide)) pass0 rfl (pa_cons (pv 3) (pa_cons (pv 1) pa_nil))))) (pw_or1 (pt_cmpR o_gt (pv 3) (pv 2) (nomark _))))))) (fun _ _ _ _ _ => pe_int)) (pe_lst pa_nil) (nomark _))))), ?_⟩
    tm_at "go"
    refine ⟨szl rfl, fun pt hpt => ?_⟩
    have hv1 := hv.mono (same_new (o := .tup [.ty "list", .ty "tuple"]) hpt)
    tm_at "go"
    obtain ⟨t, ty, kt⟩ := hv1.isi
    refine ⟨v, pt, _, t, [.type "list", .type "tuple"], _, rfl, upd_same, .cons (.ty _) (.cons (.ty _) .nil), ty, kt, ?_⟩
    tm_at "go"
    cases o with
    | none =>
      refine r_ite (fun _ => ?_) (fun z => nomatch z)
      tm_at "go"
      exact k _ (same_new hpt)
    | some xs =>
      obtain ⟨p, rfl, hs, hl, hk⟩ := hv1
      refine r_ite (fun z => nomatch z) (fun _ => ?_)
      tm_at "go"
      have sm1 : Same H (upd H pt (.tup [.ty "list", .ty "tuple"])) := same_new hpt
      generalize upd H pt (.tup [.ty "list", .ty "tuple"]) = H1 at hs hk sm1 ⊢
      refine' r_walk hs ?_
      intro J G w hG sG D hD
      refine lc_it w (fun i H' => Same H1 H' ∧ H' D = some (.lst (natV (((xs.take i).filter fun y => !fromV y a b).map fun _ => 1)))) ⟨same_new hD, upd_same⟩ (fun i H' _ p => sG _ _ p.1 hG) ?_ ?_
      · rintro i x H2 H' hi ⟨sm2, hd⟩ ⟨rfl, hx⟩
        tm_at "go"
        refine ⟨rfl, ?_⟩
        tm_at "go"
        have kx := (hk x (List.mem_of_getElem? hx)).mono sm2
        refine ⟨x, a, rfl, kx, ?_⟩
        tm_at "go"
        have yes : fromV x a b = false → ∃ acc, H' D = some (.lst acc) ∧ acc.length < sizeLine ∧ (Same H1 (upd H' D (.lst (acc ++ [.int 1]))) ∧ (upd H' D (.lst (acc ++ [.int 1]))) D = some (.lst (natV (((xs.take (i + 1)).filter fun y => !fromV y a b).map fun _ => 1)))) := by
          intro hf
          refine ⟨_, hd, ?_, Same.updF sm2 hD, ?_⟩
          · rw [List.length_map, List.length_map]
            exact szlt (Nat.ble_eq_true_of_le (Nat.le_trans (List.length_filter_le ..) (Nat.le_trans (by rw [List.length_take]; exact Nat.min_le_right ..) (Nat.le_trans hl (by decide)))))
          · rw [upd_same, take_succ hx, List.filter_append, List.map_append, natV_app]
            simp [List.filter, hf]
        have no : fromV x a b = true → (Same H1 H' ∧ H' D = some (.lst (natV (((xs.take (i + 1)).filter fun y => !fromV y a b).map fun _ => 1)))) := by
          intro hf
          refine ⟨sm2, ?_⟩
          rw [take_succ hx, List.filter_append]
          simp only [List.filter, hf, Bool.not_true, List.append_nil]
          exact hd
        cases hg : geV x a with
        | false =>
          tm_at "go"
          exact yes (by cases x with
            | int n => rw [show fromV (.int n) a b = (decide (a ≤ n) && decide (n ≤ b)) from rfl, show decide (a ≤ n) = false from hg]; rfl
            | _ => rfl)
        | true =>
          obtain ⟨n, rfl⟩ : ∃ n, x = .int n := by cases x <;> first | exact ⟨_, rfl⟩ | cases hg
          tm_at "go"
          have e : fromV (.int n) a b = decide (n ≤ b) := by rw [show fromV (.int n) a b = (decide (a ≤ n) && decide (n ≤ b)) from rfl, show decide (a ≤ n) = true from hg]; rfl
          refine r_id (fun h1 => ?_) (fun h1 => ?_)
          · tm_at "go"
            exact yes (by rw [e]; exact decide_eq_false (by omega))
          · exact no (by rw [e]; exact decide_eq_true (by omega))
      · rintro H2 ⟨sm2, hd⟩
        tm_at "go"
        rw [List.take_length] at hd
        refine ⟨szl rfl, fun pe hpe => ?_⟩
        tm_at "go"
        refine r_eqD (d := .list (natD ((xs.filter fun y => !fromV y a b).map fun _ => 1))) (e := .list []) (.lst (SqL.of (at_upd (ne_of_none hd hpe) hd)) (dp_nats _)) (.lst (SqL.of upd_same) .nil) (sp_nats _) (by decide +kernel) ?_
        rw [eqv_nil]
        have e : ((xs.filter fun y => !fromV y a b).map fun _ => 1).isEmpty = allV (some xs) a b := by
          show _ = xs.all fun y => fromV y a b
          rw [Bool.eq_iff_iff, List.isEmpty_iff, List.map_eq_nil_iff, List.filter_eq_nil_iff, List.all_eq_true]
          simp
        rw [e]
        exact k _ ((sm1.trans sm2).trans (same_new hpe))
end
theorem badN_sh {K : PySem.W.Frag} {H : Hp} (ol : Option (List V)) (s p : V) (orr : Option (List V)) : ∃ d, ∀ H, Sh K H (wordV (badN ol s p orr)) d 0 40 := by
  unfold badN
  split
  · exact ⟨_, fun H => sh_str (by decide +kernel) (by decide +kernel)⟩
  · split
    · exact ⟨_, fun H => sh_str (by decide +kernel) (by decide +kernel)⟩
    · split
      · exact ⟨_, fun H => sh_str (by decide +kernel) (by decide +kernel)⟩
      · split
        · exact ⟨_, fun H => sh_str (by decide +kernel) (by decide +kernel)⟩
        · exact ⟨_, fun H => sh_non.up (Nat.le_refl _) (by decide)⟩
section
variable {K : PySem.W.Frag}
theorem ok_due (F : DefAt K mg "_law_due" s_law_due) (T : Txt K mg aGround aNum aInv) (D_law_is_number : DefOk P w K mg base CX0 1 "_law_is_number" ["_law_value", "_law_least"] (spLNum K)) (D_law_are : DefOk P w K mg base CX0 2 "_law_are" ["_law_value", "_law_least", "_law_most"] (spAllFrom K)) :
    DefOk P w K mg base CX0 3 "_law_due" ["_law_ones", "_law_since", "_law_period", "_law_rests"] (spDue K) := by
  refine F.ok sc_law_due (fun _ _ _ _ _ _ us hl => match us, hl with | [_, _, _, _], _ => rfl) (fun vs H Q E h => ?_) (fun f cdv A outer s H vs Q E hr h => ?_)
  · obtain ⟨vL, vS, vP, vR, ol, orr, rfl, _⟩ := h
    rfl
  · obtain ⟨vL, vS, vP, vR, ol, orr, rfl, hl, hs, hp, hrr, k⟩ := h
    refine ⟨_, (pss_cons (ps_if (pt_not (pt_tr K (pe_callD D_law_is_number (hr.mono (by decide)) pass0 rfl (pa_cons (pv 1) (pa_cons pe_int pa_nil))))) (pss_one (ps_ret pe_str))
  pss_nil)
  (pss_cons (ps_if (pt_not (pt_tr K (pe_callD D_law_are (hr.mono (by decide)) pass0 rfl (pa_cons (pv 0) (pa_cons pe_int (pa_cons (pe_op o_sub (pv 1) pe_int) pa_nil)))))) (pss_one (ps_ret pe_str))
  pss_nil)
  (pss_cons (ps_if (pt_not (pt_tr K (pe_callD D_law_is_number (hr.mono (by decide)) pass0 rfl (pa_cons (pv 2) (pa_cons pe_int pa_nil))))) (pss_one (ps_ret pe_str))
  pss_nil)
  (pss_one (ps_ret (pe_ifExp (pt_tr K (pe_callD D_law_are (hr.mono (by decide)) pass0 rfl (pa_cons (pv 3) (pa_cons pe_int (pa_cons (pe_op o_sub (pv 2) pe_int) pa_nil))))) pe_non pe_str)))))), ?_⟩
    tm_at "go"
    refine ⟨vS, 1, rfl, hs, ?_⟩
    tm_at "go"
    unfold badN at k
    cases h1 : geV vS 1 with
    | false =>
      rw [h1] at k
      rw [if_pos rfl] at k
      tm_at "go"
      exact k _ Same.refl
    | true =>
      rw [h1, if_neg (fun z => nomatch z)] at k
      obtain ⟨i, rfl⟩ : ∃ i, vS = .int i := by cases vS <;> first | exact ⟨_, rfl⟩ | exact nomatch h1
      tm_at "go"
      refine ⟨vL, 1, i - 1, ol, rfl, hl, fun H1 s1 => ?_⟩
      tm_at "go"
      rw [show intOf (.int i) = i from rfl] at k
      cases h2 : allV ol 1 (i - 1) with
      | false =>
        rw [h2, if_pos rfl] at k
        tm_at "go"
        exact k _ s1
      | true =>
        rw [h2, if_neg (fun z => nomatch z)] at k
        tm_at "go"
        refine ⟨vP, 1, rfl, hp.mono s1, ?_⟩
        tm_at "go"
        cases h3 : geV vP 1 with
        | false =>
          rw [h3, if_pos rfl] at k
          tm_at "go"
          exact k _ s1
        | true =>
          rw [h3, if_neg (fun z => nomatch z)] at k
          obtain ⟨j, rfl⟩ : ∃ j, vP = .int j := by cases vP <;> first | exact ⟨_, rfl⟩ | exact nomatch h3
          tm_at "go"
          refine ⟨vR, 0, j - 1, orr, rfl, hrr.mono s1, fun H2 s2 => ?_⟩
          tm_at "go"
          rw [show intOf (.int j) = j from rfl] at k
          cases h4 : allV orr 0 (j - 1) with
          | false =>
            rw [h4, if_pos rfl] at k
            tm_at "go"
            exact k _ (s1.trans s2)
          | true =>
            rw [h4, if_neg (fun z => nomatch z)] at k
            tm_at "go"
            exact k _ (s1.trans s2)
theorem ok_heard3 (F : DefAt K mg "_law_heard" s_law_heard) (T : Txt K mg aGround aNum aInv) (M_Numbers : MakeOk P w K mg base (L2.CX P w) 4 "Numbers" aNum ["self", "listed", "since", "period", "rests"] [] (spNumI K aNum aInv)) :
    DefOk P w K mg base CX0 6 "_law_heard" ["_law_some"] (spHeard3 K) := by
  refine F.ok sc_law_heard (fun _ _ _ _ _ _ us hl => match us, hl with | [_], _ => rfl) (fun vs H Q E h => ?_) (fun f cdv A outer s H vs Q E hr h => ?_)
  · obtain ⟨l, vL, vS, vP, vR, ol, orr, rfl, _⟩ := h
    rfl
  · obtain ⟨l, vL, vS, vP, vR, ol, orr, rfl, hl, aL, kS, kP, aR, sS, sP, k⟩ := h
    refine ⟨_, (pss_cons (ps_set (i := 1) sc_law_heard.nd rfl (Or.inl rfl) pe_non)
  (pss_cons (ps_try_as (i := 2) rfl rfl sc_law_heard.nd rfl rfl ⟨rfl, by decide, .inl T.m_InvalidNumbers⟩ takes0
  (fun W pn xe tk po => (pss_one (ps_expr (pe_makeDS M_Numbers (hr.mono (by decide)) (fun σ => passAt tk σ) rfl (pa_cons (pe_ix (ix_u K) (pv 0) pe_int (fun _ _ => rfl)) (pa_cons (pe_ix (ix_u K) (pv 0) pe_int (fun _ _ => rfl)) (pa_cons (pe_ix (ix_u K) (pv 0) pe_int (fun _ _ => rfl)) (pa_cons (pe_ix (ix_u K) (pv 0) pe_int (fun _ _ => rfl)) pa_nil))))))))
  (fun a oe cls d pn hz hf => (pss_one (ps_set (i := 1) sc_law_heard.nd rfl (Or.inl rfl) (pe_xf T.xf T.xw hz hf (pv 2))))))
  (pss_one (ps_ret (pv 1))))), ?_⟩
    tm_at "go"
    intro x dx nx ndx nex
    have sm : Same H (upd (upd H dx (.own x)) x (.ins aNum dx [])) := by tm_at "sm"
    refine ⟨x, dx, vL, vS, vP, vR, ol, orr, rfl, upd_same, aL.mono sm, kS.mono sm, kP.mono sm, aR.mono sm, sS, sP, fun wd hw d H' s' hd => ?_, fun hw L R s p s' p' a1 a2 H' e1 e2 e3 e4 p1 p2 hL hR lp ls hk hx h1 h2 => ⟨rfl, ?_⟩⟩
    · rw [hw] at k
      refine ⟨true, T.exm, fun _ e he => ?_, fun q => Bool.noConfusion q⟩
      tm_at "go"
      refine ⟨rfl, rfl, d, _, .str wd, rfl, upd_same, rfl, ?_⟩
      tm_at "go"
      exact k _ ((sm.trans s').trans (same_new hd))
    · rw [hw] at k
      tm_at "go"
      refine k _ (Same.kx sm hk nx)
theorem kd_flat {H : Hp} {y : V} (h : flatV y = true) : Kd K H y := by
  cases y with
  | non => exact .non
  | bl b => exact .bl b
  | int i => exact .int i
  | str x => exact .str x
  | _ => exact nomatch h
theorem arg_L {H : Hp} {l : Addr} {xs : List V} (h : H l = some (.lst xs)) (f : xs.all flatV = true) (z : xs.length ≤ 10000) : ∃ o, Arg K H (.ref l) o :=
  ⟨some xs, l, rfl, .inl (SqL.of h), z, fun y hy => kd_flat (List.all_eq_true.mp f y hy)⟩
theorem arg_T {H : Hp} {l : Addr} {xs : List V} (h : H l = some (.tup xs)) (f : xs.all flatV = true) (z : xs.length ≤ 10000) : ∃ o, Arg K H (.ref l) o :=
  ⟨some xs, l, rfl, .inr (SqT.of h), z, fun y hy => kd_flat (List.all_eq_true.mp f y hy)⟩
theorem neSelf (v : V) : (!decide (v = v)) = false := by rw [decide_eq_true rfl]; rfl
def spLaw (K : PySem.W.Frag) : Sp := fun vs H Q _ => ∃ (a : Addr) (ns : List Int), vs = [.ref a] ∧ SqL K H a (ns.map V.int) ∧ ns.length ≤ 63 ∧ ∀ H', Q (.bl true) H'
theorem ok_law (F : DefAt K mg "law" s_law) (T : Txt K mg aGround aNum aInv) (D_law_box : DefOk P w K mg base CX0 1 "_law_box" ["_law_script", "_law_k", "_law_own"] (spBox K)) (D_law_take : DefOk P w K mg base CX0 1 "_law_take" ["_law_box_here", "_law_many"] spTake)
    (D_law_pick : DefOk P w K mg base CX0 2 "_law_pick" ["_law_box_here", "_law_items"] (spPick K)) (D_law_due : DefOk P w K mg base CX0 3 "_law_due" ["_law_ones", "_law_since", "_law_period", "_law_rests"] (spDue K)) (D_law_heard : DefOk P w K mg base CX0 6 "_law_heard" ["_law_some"] (spHeard3 K)) :
    DefG P w K mg base CX0 8 "law" ["_law_script"] (spLaw K) := by
  refine F.okG sc_law (fun _ _ _ _ _ _ us hl => match us, hl with | [_], _ => rfl) (fun vs H Q E h => ?_) (fun f cdv A outer s H vs Q E hgd hr h => ?_)
  · obtain ⟨a, ns, rfl, _⟩ := h
    rfl
  · obtain ⟨a, ns, rfl, hS, nl, k⟩ := h
    refine ⟨_, (pss_cons (ps_set (i := 1) sc_law.nd rfl (Or.inl rfl) (pe_lst (pa_cons (pe_lst pa_nil) (pa_cons (pe_tup pa_nil) (pa_cons (pe_lst (pa_cons pe_int pa_nil)) (pa_cons (pe_tup (pa_cons pe_int (pa_cons pe_int pa_nil))) (pa_cons (pe_lst (pa_cons pe_int (pa_cons pe_int pa_nil))) (pa_cons (pe_lst (pa_cons pe_int pa_nil)) (pa_cons (pe_lst (pa_cons (pe_un un_neg pe_int) pa_nil)) (pa_cons (pe_lst (pa_cons pe_bl pa_nil)) (pa_cons (pe_lst (pa_cons pe_str pa_nil)) (pa_cons (pe_lst (pa_cons pe_non pa_nil)) (pa_cons pe_non (pa_cons pe_int (pa_cons pe_str (pa_cons (pe_lst (pa_cons pe_int (pa_cons (pe_lst (pa_cons pe_int pa_nil)) pa_nil))) (pa_cons (pe_tup (pa_cons pe_int (pa_cons pe_int pa_nil))) pa_nil)))))))))))))))))
  (pss_cons (ps_set (i := 2) sc_law.nd rfl (Or.inl rfl) (pe_lst (pa_cons pe_int (pa_cons pe_int (pa_cons pe_int (pa_cons pe_int (pa_cons pe_int (pa_cons pe_int (pa_cons (pe_un un_neg pe_int) (pa_cons pe_bl (pa_cons pe_non (pa_cons pe_str (pa_cons (pe_lst pa_nil) (pa_cons pe_int (pa_cons pe_int (pa_cons pe_int pa_nil))))))))))))))))
  (pss_cons (ps_for PassesOwn.never rfl (pi_range1 (by rfl) T.n_range (pa_cons (pe_callB (c_max2 rfl) (by rfl) T.n_max (by decide +kernel) (pa_cons pe_int (pa_cons (pe_callB (c_min2 rfl) (by rfl) T.n_min (by decide +kernel) (pa_cons pe_int (pa_cons (pe_callB (c_len K) (by rfl) T.n_len (by decide +kernel) (pa_cons (pv 0) pa_nil)) pa_nil))) pa_nil))) pa_nil)) (pg_name (i := 3) sc_law.nd rfl (Or.inl rfl))
  (pss_cons (ps_set (i := 4) sc_law.nd rfl (Or.inl rfl) (pe_callD D_law_box (hr.mono (by decide)) pass0 rfl (pa_cons (pv 0) (pa_cons (pv 3) (pa_cons pe_int pa_nil)))))
  (pss_one (ps_for PassesOwn.never rfl (pi_range1 (by rfl) T.n_range (pa_cons pe_int pa_nil)) (pg_name (i := 5) sc_law.nd rfl (Or.inl rfl))
  (pss_cons (ps_set (i := 6) sc_law.nd rfl (Or.inl rfl) (pe_lst (pa_cons (pe_ix (ix_u K) (pv 1) (pe_callD D_law_take (hr.mono (by decide)) pass0 rfl (pa_cons (pv 4) (pa_cons pe_int pa_nil))) (fun _ _ => rfl)) (pa_cons (pe_callD D_law_pick (hr.mono (by decide)) pass0 rfl (pa_cons (pv 4) (pa_cons (pv 2) pa_nil))) (pa_cons (pe_callD D_law_pick (hr.mono (by decide)) pass0 rfl (pa_cons (pv 4) (pa_cons (pv 2) pa_nil))) pa_nil)))))
  (pss_cons (ps_expr (pe_bm PySem.F.plainAttrs_list PySem.F.slot_list_append PySem.F.type_list_append mt_append (pv 6) (pa_cons (pe_ix (ix_u K) (pv 1) (pe_callD D_law_take (hr.mono (by decide)) pass0 rfl (pa_cons (pv 4) (pa_cons pe_int pa_nil))) (fun _ _ => rfl)) pa_nil)))
  (pss_one (ps_if (pt_cmpR (o_ne K hr.units) (pe_callB (c_repr K hgd hr.units) (by rfl) T.n_repr (by decide +kernel) (pa_cons (pe_callD D_law_heard (hr.mono (by decide)) pass0 rfl (pa_cons (pv 6) pa_nil)) pa_nil)) (pe_callB (c_repr K hgd hr.units) (by rfl) T.n_repr (by decide +kernel) (pa_cons (pe_callD D_law_due (hr.mono (by decide)) pass0 rfl (pa_cons (pe_ix (ix_u K) (pv 6) pe_int (fun _ _ => rfl)) (pa_cons (pe_ix (ix_u K) (pv 6) pe_int (fun _ _ => rfl)) (pa_cons (pe_ix (ix_u K) (pv 6) pe_int (fun _ _ => rfl)) (pa_cons (pe_ix (ix_u K) (pv 6) pe_int (fun _ _ => rfl)) pa_nil))))) pa_nil)) (nomark _)) (pss_one (ps_ret pe_bl))
  pss_nil))))))))
  (pss_one (ps_ret pe_bl))))), ?_⟩
    have lenE : (List.map V.int ns).length = ns.length := List.length_map ..
    tm_at "go"
    refine ⟨szl rfl, fun l1 hl1 => ?_⟩
    have a1 : upd H l1 (.lst []) l1 = some (.lst []) := upd_same
    have s1 : Same H (upd H l1 (.lst [])) := same_new hl1
    generalize upd H l1 (.lst []) = G1 at a1 s1 ⊢
    tm_at "go"
    refine ⟨szl rfl, fun l2 hl2 => ?_⟩
    have a2 : upd G1 l2 (.tup []) l2 = some (.tup []) := upd_same
    have s2 : Same G1 (upd G1 l2 (.tup [])) := same_new hl2
    generalize upd G1 l2 (.tup []) = G2 at a2 s2 ⊢
    tm_at "go"
    refine ⟨szl rfl, fun l3 hl3 => ?_⟩
    have a3 : upd G2 l3 (.lst [.int 1]) l3 = some (.lst [.int 1]) := upd_same
    have s3 : Same G2 (upd G2 l3 (.lst [.int 1])) := same_new hl3
    generalize upd G2 l3 (.lst [.int 1]) = G3 at a3 s3 ⊢
    tm_at "go"
    refine ⟨szl rfl, fun l4 hl4 => ?_⟩
    have a4 : upd G3 l4 (.tup [.int 2, .int 1]) l4 = some (.tup [.int 2, .int 1]) := upd_same
    have s4 : Same G3 (upd G3 l4 (.tup [.int 2, .int 1])) := same_new hl4
    generalize upd G3 l4 (.tup [.int 2, .int 1]) = G4 at a4 s4 ⊢
    tm_at "go"
    refine ⟨szl rfl, fun l5 hl5 => ?_⟩
    have a5 : upd G4 l5 (.lst [.int 3, .int 5]) l5 = some (.lst [.int 3, .int 5]) := upd_same
    have s5 : Same G4 (upd G4 l5 (.lst [.int 3, .int 5])) := same_new hl5
    generalize upd G4 l5 (.lst [.int 3, .int 5]) = G5 at a5 s5 ⊢
    tm_at "go"
    refine ⟨szl rfl, fun l6 hl6 => ?_⟩
    have a6 : upd G5 l6 (.lst [.int 0]) l6 = some (.lst [.int 0]) := upd_same
    have s6 : Same G5 (upd G5 l6 (.lst [.int 0])) := same_new hl6
    generalize upd G5 l6 (.lst [.int 0]) = G6 at a6 s6 ⊢
    tm_at "go"
    refine ⟨szl rfl, fun l7 hl7 => ?_⟩
    have a7 : upd G6 l7 (.lst [.int (-1)]) l7 = some (.lst [.int (-1)]) := upd_same
    have s7 : Same G6 (upd G6 l7 (.lst [.int (-1)])) := same_new hl7
    generalize upd G6 l7 (.lst [.int (-1)]) = G7 at a7 s7 ⊢
    tm_at "go"
    refine ⟨szl rfl, fun l8 hl8 => ?_⟩
    have a8 : upd G7 l8 (.lst [.bl true]) l8 = some (.lst [.bl true]) := upd_same
    have s8 : Same G7 (upd G7 l8 (.lst [.bl true])) := same_new hl8
    generalize upd G7 l8 (.lst [.bl true]) = G8 at a8 s8 ⊢
    tm_at "go"
    refine ⟨szl rfl, fun l9 hl9 => ?_⟩
    have a9 : upd G8 l9 (.lst [.str "1"]) l9 = some (.lst [.str "1"]) := upd_same
    have s9 : Same G8 (upd G8 l9 (.lst [.str "1"])) := same_new hl9
    generalize upd G8 l9 (.lst [.str "1"]) = G9 at a9 s9 ⊢
    tm_at "go"
    refine ⟨szl rfl, fun l10 hl10 => ?_⟩
    have a10 : upd G9 l10 (.lst [.non]) l10 = some (.lst [.non]) := upd_same
    have s10 : Same G9 (upd G9 l10 (.lst [.non])) := same_new hl10
    generalize upd G9 l10 (.lst [.non]) = G10 at a10 s10 ⊢
    tm_at "go"
    refine ⟨szl rfl, fun l11 hl11 => ?_⟩
    have a11 : upd G10 l11 (.lst [.int 2]) l11 = some (.lst [.int 2]) := upd_same
    have s11 : Same G10 (upd G10 l11 (.lst [.int 2])) := same_new hl11
    generalize upd G10 l11 (.lst [.int 2]) = G11 at a11 s11 ⊢
    tm_at "go"
    refine ⟨szl rfl, fun l12 hl12 => ?_⟩
    have a12 : upd G11 l12 (.lst [.int 1, .ref l11]) l12 = some (.lst [.int 1, .ref l11]) := upd_same
    have s12 : Same G11 (upd G11 l12 (.lst [.int 1, .ref l11])) := same_new hl12
    generalize upd G11 l12 (.lst [.int 1, .ref l11]) = G12 at a12 s12 ⊢
    tm_at "go"
    refine ⟨szl rfl, fun l13 hl13 => ?_⟩
    have a13 : upd G12 l13 (.tup [.int 4, .int 4]) l13 = some (.tup [.int 4, .int 4]) := upd_same
    have s13 : Same G12 (upd G12 l13 (.tup [.int 4, .int 4])) := same_new hl13
    generalize upd G12 l13 (.tup [.int 4, .int 4]) = G13 at a13 s13 ⊢
    tm_at "go"
    refine ⟨szl rfl, fun l14 hl14 => ?_⟩
    have a14 : upd G13 l14 (.lst [.ref l1, .ref l2, .ref l3, .ref l4, .ref l5, .ref l6, .ref l7, .ref l8, .ref l9, .ref l10, .non, .int 3, .str "12", .ref l12, .ref l13]) l14 = some (.lst [.ref l1, .ref l2, .ref l3, .ref l4, .ref l5, .ref l6, .ref l7, .ref l8, .ref l9, .ref l10, .non, .int 3, .str "12", .ref l12, .ref l13]) := upd_same
    have s14 : Same G13 (upd G13 l14 (.lst [.ref l1, .ref l2, .ref l3, .ref l4, .ref l5, .ref l6, .ref l7, .ref l8, .ref l9, .ref l10, .non, .int 3, .str "12", .ref l12, .ref l13])) := same_new hl14
    generalize upd G13 l14 (.lst [.ref l1, .ref l2, .ref l3, .ref l4, .ref l5, .ref l6, .ref l7, .ref l8, .ref l9, .ref l10, .non, .int 3, .str "12", .ref l12, .ref l13]) = G14 at a14 s14 ⊢
    tm_at "go"
    refine ⟨szl rfl, fun l15 hl15 => ?_⟩
    have a15 : upd G14 l15 (.lst []) l15 = some (.lst []) := upd_same
    have s15 : Same G14 (upd G14 l15 (.lst [])) := same_new hl15
    generalize upd G14 l15 (.lst []) = G15 at a15 s15 ⊢
    tm_at "go"
    refine ⟨szl rfl, fun l16 hl16 => ?_⟩
    have a16 : upd G15 l16 (.lst [.int 1, .int 2, .int 4, .int 6, .int 9, .int 0, .int (-1), .bl true, .non, .str "3", .ref l15, .int 1, .int 5, .int 6]) l16 = some (.lst [.int 1, .int 2, .int 4, .int 6, .int 9, .int 0, .int (-1), .bl true, .non, .str "3", .ref l15, .int 1, .int 5, .int 6]) := upd_same
    have s16 : Same G15 (upd G15 l16 (.lst [.int 1, .int 2, .int 4, .int 6, .int 9, .int 0, .int (-1), .bl true, .non, .str "3", .ref l15, .int 1, .int 5, .int 6])) := same_new hl16
    generalize upd G15 l16 (.lst [.int 1, .int 2, .int 4, .int 6, .int 9, .int 0, .int (-1), .bl true, .non, .str "3", .ref l15, .int 1, .int 5, .int 6]) = G16 at a16 s16 ⊢
    tm_at "go"
    have hr16 : G16 l14 = some (.lst [.ref l1, .ref l2, .ref l3, .ref l4, .ref l5, .ref l6, .ref l7, .ref l8, .ref l9, .ref l10, .non, .int 3, .str "12", .ref l12, .ref l13]) := by tm_at "hs"
    have rows : ∀ v ∈ ([.ref l1, .ref l2, .ref l3, .ref l4, .ref l5, .ref l6, .ref l7, .ref l8, .ref l9, .ref l10, .non, .int 3, .str "12", .ref l12, .ref l13] : List V), ∃ o, Arg K G16 v o := by
      intro v hv
      simp only [List.mem_cons, List.not_mem_nil, or_false] at hv
      rcases hv with rfl | rfl | rfl | rfl | rfl | rfl | rfl | rfl | rfl | rfl | rfl | rfl | rfl | rfl | rfl
      · exact arg_L (by tm_at "hs") rfl (Nat.le_of_ble_eq_true rfl)
      · exact arg_T (by tm_at "hs") rfl (Nat.le_of_ble_eq_true rfl)
      · exact arg_L (by tm_at "hs") rfl (Nat.le_of_ble_eq_true rfl)
      · exact arg_T (by tm_at "hs") rfl (Nat.le_of_ble_eq_true rfl)
      · exact arg_L (by tm_at "hs") rfl (Nat.le_of_ble_eq_true rfl)
      · exact arg_L (by tm_at "hs") rfl (Nat.le_of_ble_eq_true rfl)
      · exact arg_L (by tm_at "hs") rfl (Nat.le_of_ble_eq_true rfl)
      · exact arg_L (by tm_at "hs") rfl (Nat.le_of_ble_eq_true rfl)
      · exact arg_L (by tm_at "hs") rfl (Nat.le_of_ble_eq_true rfl)
      · exact arg_L (by tm_at "hs") rfl (Nat.le_of_ble_eq_true rfl)
      · exact ⟨none, .non, rfl⟩
      · exact ⟨none, .int _, rfl⟩
      · exact ⟨none, .str _, rfl⟩
      · have h11 : G16 l11 = some (.lst [.int 2]) := by tm_at "hs"
        refine ⟨some [.int 1, .ref l11], l12, rfl, .inl (SqL.of (by tm_at "hs")), Nat.le_of_ble_eq_true rfl, fun y hy => ?_⟩
        simp only [List.mem_cons, List.not_mem_nil, or_false] at hy
        rcases hy with rfl | rfl
        · exact .int _
        · exact .lst (SqL.of h11)
      · exact arg_T (by tm_at "hs") rfl (Nat.le_of_ble_eq_true rfl)
    have cnts : ∀ v ∈ ([.int 1, .int 2, .int 4, .int 6, .int 9, .int 0, .int (-1), .bl true, .non, .str "3", .ref l15, .int 1, .int 5, .int 6] : List V), Kd K G16 v ∧ small v := by
      intro v hv
      simp only [List.mem_cons, List.not_mem_nil, or_false] at hv
      have h15 : G16 l15 = some (.lst []) := by tm_at "hs"
      rcases hv with rfl | rfl | rfl | rfl | rfl | rfl | rfl | rfl | rfl | rfl | rfl | rfl | rfl | rfl
      · exact ⟨.int _, fun i e => by cases e; decide⟩
      · exact ⟨.int _, fun i e => by cases e; decide⟩
      · exact ⟨.int _, fun i e => by cases e; decide⟩
      · exact ⟨.int _, fun i e => by cases e; decide⟩
      · exact ⟨.int _, fun i e => by cases e; decide⟩
      · exact ⟨.int _, fun i e => by cases e; decide⟩
      · exact ⟨.int _, fun i e => by cases e; decide⟩
      · exact ⟨.bl _, fun i e => nomatch e⟩
      · exact ⟨.non, fun i e => nomatch e⟩
      · exact ⟨.str _, fun i e => nomatch e⟩
      · exact ⟨.lst (SqL.of h15), fun i e => nomatch e⟩
      · exact ⟨.int _, fun i e => by cases e; decide⟩
      · exact ⟨.int _, fun i e => by cases e; decide⟩
      · exact ⟨.int _, fun i e => by cases e; decide⟩
    have sA : Same H G16 := (((((((((((((((s1).trans s2).trans s3).trans s4).trans s5).trans s6).trans s7).trans s8).trans s9).trans s10).trans s11).trans s12).trans s13).trans s14).trans s15).trans s16
    replace hS := Same.seqL sA hS
    generalize hrv : ([.ref l1, .ref l2, .ref l3, .ref l4, .ref l5, .ref l6, .ref l7, .ref l8, .ref l9, .ref l10, .non, .int 3, .str "12", .ref l12, .ref l13] : List V) = rv at hr16 rows
    generalize hcv : ([.int 1, .int 2, .int 4, .int 6, .int 9, .int 0, .int (-1), .bl true, .non, .str "3", .ref l15, .int 1, .int 5, .int 6] : List V) = cv at a16 cnts
    have rlen : rv.length = 15 := by rw [← hrv]; rfl
    have clen : cv.length = 14 := by rw [← hcv]; rfl
    clear hrv hcv sA
    clear s1 hl1 s2 hl2 s3 hl3 s4 hl4 s5 hl5 s6 hl6 s7 hl7 s8 hl8 s9 hl9 s10 hl10 s11 hl11 s12 hl12 s13 hl13 s14 hl14 s15 hl15 s16 hl16 a1 a2 a3 a4 a5 a6 a7 a8 a9 a10 a11 a12 a13 a14 a15
    tm_at "go"
    refine ⟨_, rfl, by split <;> split <;> omega, by split <;> split <;> omega, for_range (lo := 0) (n := _)
      (fun i σ H' => (∃ o3 o4 o5 o6 : Option V, σ = [some (.ref a), some (.ref l14), some (.ref l16), o3, o4, o5, o6]) ∧ Same G16 H') ⟨⟨_, _, _, _, rfl⟩, Same.refl⟩ ?_ ?_⟩
    · rintro i σ H0 hi ⟨⟨o3, o4, o5, o6, rfl⟩, sm0⟩
      have hi4 : i < 64 := by
        have : (if (if (↑(List.map V.int ns).length : Int) < 3 then (↑(List.map V.int ns).length : Int) else 3) > 1 then
              if (↑(List.map V.int ns).length : Int) < 3 then (↑(List.map V.int ns).length : Int) else 3 else 1) ≤ 3 := by split <;> split <;> omega
        omega
      tm_at "go"
      refine ⟨a, ns, _, 3, rfl, Same.seqL sm0 hS, by omega, by omega, by decide, by decide, by omega, fun b H1 hb0 hx1 => ?_⟩
      have hb : G16 b = Option.none := Same.free sm0 hb0
      have nb14 : l14 ≠ b := ne_of_none hr16 hb
      have nb16 : l16 ≠ b := ne_of_none a16 hb
      tm_at "go"
      refine ⟨_, rfl, by decide, by decide, for_range (lo := 0) (n := _)
        (fun j σ H' => (∃ o3 o5 o6 : Option V, σ = [some (.ref a), some (.ref l14), some (.ref l16), o3, some (.ref b), o5, o6]) ∧ Same G16 H' ∧ BoxAt H' b)
        ⟨⟨_, _, _, rfl⟩, Same.bx sm0 hx1 hb, hx1.box⟩ ?_ ?_⟩
      · rintro j σ H2 hj ⟨⟨o3, o5, o6, rfl⟩, sm2, bx2⟩
        clear sm0 hx1
        tm_at "go"
        refine r_take bx2 (by decide) (by decide) fun d H3 d0 d1 hx3 => ?_
        have sm3 := Same.bx sm2 hx3 hb
        tm_at "go"
        obtain ⟨e, rfl⟩ : ∃ e : Nat, d = e := ⟨d.toNat, by omega⟩
        obtain ⟨vL, hvL⟩ : ∃ v, rv[e]? = some v := ⟨rv[e]'(by omega), List.getElem?_eq_getElem _⟩
        refine r_ixL (SqL.of (sm3 _ _ hr16)) (atI_nat hvL) ?_
        obtain ⟨ol, aL⟩ := rows vL (List.mem_of_getElem? hvL)
        tm_at "go"
        refine ⟨b, l16, cv, rfl, hx3.box, .inl (SqL.of (sm3 _ _ a16)), nb16, by omega, by omega, fun vS H4 hvS hx4 => ?_⟩
        have sm4 := Same.bx sm3 hx4 hb
        tm_at "go"
        refine ⟨b, l16, cv, rfl, hx4.box, .inl (SqL.of (sm4 _ _ a16)), nb16, by omega, by omega, fun vP H5 hvP hx5 => ?_⟩
        have sm5 := Same.bx sm4 hx5 hb
        tm_at "go"
        refine ⟨szl rfl, fun ls hls => ?_⟩
        have nls : b ≠ ls := hx5.box.fresh hls
        have hls0 : G16 ls = Option.none := Same.free sm5 hls
        have bx6 : BoxAt (upd H5 ls (.lst [vL, vS, vP])) b := hx5.box.upd hls
        have hl6 : (upd H5 ls (.lst [vL, vS, vP])) ls = some (.lst [vL, vS, vP]) := upd_same
        have sm6 : Same G16 (upd H5 ls (.lst [vL, vS, vP])) := Same.new sm5 hls
        generalize upd H5 ls (.lst [vL, vS, vP]) = H6 at bx6 hl6 sm6 ⊢
        tm_at "go"
        refine ⟨.inl ⟨rfl, _, SqL.of hl6⟩, ?_⟩
        tm_at "go"
        refine r_take bx6 (by decide) (by decide) fun d2 H7 e0 e1 hx7 => ?_
        have sm7 := Same.bx sm6 hx7 hb
        have hl7 := hx7.keep _ _ (Ne.symm nls) hl6
        tm_at "go"
        obtain ⟨e2, rfl⟩ : ∃ e : Nat, d2 = e := ⟨d2.toNat, by omega⟩
        obtain ⟨vR, hvR⟩ : ∃ v, rv[e2]? = some v := ⟨rv[e2]'(by omega), List.getElem?_eq_getElem _⟩
        refine r_ixL (SqL.of (sm7 _ _ hr16)) (atI_nat hvR) ?_
        obtain ⟨orr, aR⟩ := rows vR (List.mem_of_getElem? hvR)
        tm_at "go"
        refine r_append hl7 (szlt rfl) ?_
        have sm8 : Same G16 (upd H7 ls (.lst ([vL, vS, vP] ++ [vR]))) := Same.updF sm7 hls0
        have bx8 : BoxAt (upd H7 ls (.lst ([vL, vS, vP] ++ [vR]))) b := BoxAt.at hx7.box nls
        have hl8 : (upd H7 ls (.lst ([vL, vS, vP] ++ [vR]))) ls = some (.lst [vL, vS, vP, vR]) := upd_same
        generalize upd H7 ls (.lst ([vL, vS, vP] ++ [vR])) = H8 at sm8 bx8 hl8 ⊢
        tm_at "go"
        obtain ⟨kS, sS⟩ := cnts vS hvS
        obtain ⟨kP, sP⟩ := cnts vP hvP
        refine ⟨ls, vL, vS, vP, vR, ol, orr, rfl, hl8, aL.mono sm8, kS.mono sm8, kP.mono sm8, aR.mono sm8, sS, sP, fun H9 s9 => ?_⟩
        have sm9 := sm8.trans s9
        have hl9 := s9 _ _ hl8
        obtain ⟨dd, shd⟩ := badN_sh (K := K) (H := H9) ol vS vP orr
        tm_at "go"
        refine Sh.repr (shd _) (by decide) (by decide) ?_
        tm_at "go"
        refine ⟨vL, vS, vP, vR, ol, orr, rfl, aL.mono sm9, kS.mono sm9, kP.mono sm9, aR.mono sm9, fun H10 s10 => ?_⟩
        tm_at "go"
        refine Sh.repr (shd _) (by decide) (by decide) ?_
        tm_at "go"
        refine r_ne rfl ?_
        rw [neSelf]
        tm_at "go"
        exact ⟨⟨_, _, _, rfl⟩, sm9.trans s10, (bx8.same s9).same s10⟩
      · rintro σ H2 ⟨⟨o3, o5, o6, rfl⟩, sm2, bx2⟩
        exact ⟨⟨_, _, _, _, rfl⟩, sm2⟩
    · rintro σ H2 ⟨⟨o3, o4, o5, o6, rfl⟩, sm2⟩
      tm_at "go"
      exact k _
end
theorem all_mk {h : Heap} (X : K.In h) (G : h.Ns mainGlobals mg)
    {e1 e2 : Addr}
    (a_GroundError : PySem.W.nsIn K mainGlobals "GroundError" = some (some (.ref aGround)))
    (bs_GroundError : PySem.W.specialIn K (.ref aGround) "__getattribute__" = some (some (.builtin "type.__getattribute__")))
    (br_GroundError : PySem.W.readsIn K aGround (.type "type") = true)
    (bf_GroundError : PySem.W.findCls K (.ref aGround) (.type "type") "__init__" = some (.val (.builtin "ValueError.__init__")))
    (a_InvalidNumbers : PySem.W.nsIn K mainGlobals "InvalidNumbers" = some (some (.ref aInv)))
    {nm_InvalidNumbers q_InvalidNumbers : Str} {N_InvalidNumbers : Addr} {bs_InvalidNumbers : List Value} {sn_InvalidNumbers : List Str} {sub_InvalidNumbers : List Value} {ab_InvalidNumbers : Bool} {col_InvalidNumbers : Option Bool} {dd_InvalidNumbers : Option Addr} {m0_InvalidNumbers m1_InvalidNumbers m2_InvalidNumbers m3_InvalidNumbers m5_InvalidNumbers : Option Value}
    (x_InvalidNumbers : K.lookup aInv = some (excClassObj nm_InvalidNumbers q_InvalidNumbers aInv N_InvalidNumbers bs_InvalidNumbers [.ref aGround, .type "ValueError", .type "Exception", .type "BaseException", .type "object"] true sn_InvalidNumbers sub_InvalidNumbers ab_InvalidNumbers col_InvalidNumbers dd_InvalidNumbers m0_InvalidNumbers m1_InvalidNumbers m2_InvalidNumbers m3_InvalidNumbers m5_InvalidNumbers "ValueError.__new__"))
    (sa_InvalidNumbers : PySem.W.findIn K (.ref aInv) "__setattr__" = some (some (.builtin "object.__setattr__")))
    (ex_InvalidNumbers : PySem.W.subIn K (.ref aInv) (.type "BaseException") = some true)
    (ty_InvalidNumbers : PySem.W.typeIn K (.ref aInv) = some (.type "type"))
    (kc_InvalidNumbers : PySem.W.keepIn K (.ref aInv) = true)
    {f_InvalidNumbers : Addr} {od_InvalidNumbers an_InvalidNumbers : Option Addr} {sl_InvalidNumbers : Array (Option Value)} {oc_InvalidNumbers kV_InvalidNumbers dc_InvalidNumbers pm_InvalidNumbers cd_InvalidNumbers ct_InvalidNumbers : Value}
    (i_InvalidNumbers : PySem.W.findIn K (.ref aInv) "__init__" = some (some (.ref f_InvalidNumbers)))
    (ti_InvalidNumbers : PySem.W.typeIn K (.ref f_InvalidNumbers) = some (.type "function"))
    (l_InvalidNumbers : K.lookup f_InvalidNumbers = some ⟨oc_InvalidNumbers, od_InvalidNumbers, .func (PySem.W.fnOf "__init__" "InvalidNumbers.__init__" (defArgs s_InvalidNumbers__init) (defBody s_InvalidNumbers__init) (defScope s_InvalidNumbers__init) .none kV_InvalidNumbers dc_InvalidNumbers pm_InvalidNumbers an_InvalidNumbers cd_InvalidNumbers ct_InvalidNumbers), sl_InvalidNumbers⟩)
    (c_InvalidNumbers : PySem.W.codeIn K cd_InvalidNumbers "InvalidNumbers.__init__" = true)
    (k_InvalidNumbers : PySem.W.keepIn K (.ref f_InvalidNumbers) = true)
    (xg_InvalidNumbers : PySem.W.findIn K (.ref aInv) "__getattribute__" = some (some (.builtin "BaseException.__getattribute__")))
    (xk_InvalidNumbers : PySem.W.findIn K (.ref aInv) "__getattr__" = some none)
    (xd_InvalidNumbers : PySem.W.hasDictIn K aInv = true)
    (xa_InvalidNumbers : PySem.W.findIn K (.ref aInv) "__class__" = some (some (.builtin "object.__class__")))
    (xn_InvalidNumbers : PySem.W.specialIn K (.builtin "object.__class__") "__get__" = some (some (.builtin "getset_descriptor.__get__")))
    (xt_InvalidNumbers : PySem.W.takesIn K (.builtin "object.__class__") = some true)
    (xm_InvalidNumbers : PySem.W.mroIn K aInv (.type "object") = some true)
    (xs_InvalidNumbers : PySem.W.subIn K (.ref aInv) (.ref aInv) = some true)
    (a_Numbers : PySem.W.nsIn K mainGlobals "Numbers" = some (some (.ref aNum)))
    (pg_Numbers : PySem.W.plainGet K aNum Str.empty = true)
    (hd_Numbers : PySem.W.hasDictIn K aNum = true)
    (po_Numbers : PySem.W.plainOver K aNum = true)
    (sa_Numbers : PySem.W.findIn K (.ref aNum) "__setattr__" = some (some (.builtin "object.__setattr__")))
    (mk_Numbers : PySem.W.makesIn K aNum = true)
    (kc_Numbers : PySem.W.keepIn K (.ref aNum) = true)
    {f_Numbers : Addr} {od_Numbers an_Numbers : Option Addr} {sl_Numbers : Array (Option Value)} {oc_Numbers kV_Numbers dc_Numbers pm_Numbers cd_Numbers ct_Numbers : Value}
    (i_Numbers : PySem.W.findIn K (.ref aNum) "__init__" = some (some (.ref f_Numbers)))
    (if_Numbers : PySem.W.isFn K (.ref f_Numbers) = true)
    {T_Numbers : Addr} {oT_Numbers : Value} {dT_Numbers : Option Addr} {iT_Numbers : List Value} {mT_Numbers : Nat} {sT_Numbers : Array (Option Value)}
    (l_Numbers : K.lookup f_Numbers = some ⟨oc_Numbers, od_Numbers, .func (PySem.W.fnOf "__init__" "Numbers.__init__" (defArgs s_Numbers__init) (defBody s_Numbers__init) (defScope s_Numbers__init) (.ref T_Numbers) kV_Numbers dc_Numbers pm_Numbers an_Numbers cd_Numbers ct_Numbers), sl_Numbers⟩)
    (c_Numbers : PySem.W.codeIn K cd_Numbers "Numbers.__init__" = true)
    (k_Numbers : PySem.W.keepIn K (.ref f_Numbers) = true)
    (t_Numbers : K.lookup T_Numbers = some ⟨oT_Numbers, dT_Numbers, .seq iT_Numbers.toArray mT_Numbers, sT_Numbers⟩)
    (v_Numbers : Vals [.ref e1, .int 1, .int 1, .ref e2] iT_Numbers)
    (na_aNum_listed : PySem.W.findIn K (.ref aNum) "listed" = some none)
    (na_aNum_since : PySem.W.findIn K (.ref aNum) "since" = some none)
    (na_aNum_period : PySem.W.findIn K (.ref aNum) "period" = some none)
    (na_aNum_rests : PySem.W.findIn K (.ref aNum) "rests" = some none)
    (na_aInv_word : PySem.W.findIn K (.ref aInv) "word" = some none)
    (z_int : PySem.W.nsIn K mainGlobals "int" = some none)
    (z_len : PySem.W.nsIn K mainGlobals "len" = some none)
    (z_abs : PySem.W.nsIn K mainGlobals "abs" = some none)
    (z_repr : PySem.W.nsIn K mainGlobals "repr" = some none)
    (z_range : PySem.W.nsIn K mainGlobals "range" = some none)
    (z_min : PySem.W.nsIn K mainGlobals "min" = some none)
    (z_max : PySem.W.nsIn K mainGlobals "max" = some none)
    (z_bool : PySem.W.nsIn K mainGlobals "bool" = some none)
    (z_isinstance : PySem.W.nsIn K mainGlobals "isinstance" = some none)
    (z_tuple : PySem.W.nsIn K mainGlobals "tuple" = some none)
    (z_list : PySem.W.nsIn K mainGlobals "list" = some none)
    (z_all : PySem.W.nsIn K mainGlobals "all" = some none)
    (z_sorted : PySem.W.nsIn K mainGlobals "sorted" = some none)
    {f_law_box : Addr} {od_law_box an_law_box : Option Addr} {sl_law_box : Array (Option Value)} {oc_law_box kV_law_box dc_law_box pm_law_box cd_law_box ct_law_box : Value}
    (a_law_box : PySem.W.nsIn K mainGlobals "_law_box" = some (some (.ref f_law_box)))
    (l_law_box : K.lookup f_law_box = some ⟨oc_law_box, od_law_box, .func (PySem.W.fnOf "_law_box" "_law_box" (defArgs s_law_box) (defBody s_law_box) (defScope s_law_box) .none kV_law_box dc_law_box pm_law_box an_law_box cd_law_box ct_law_box), sl_law_box⟩)
    (c_law_box : PySem.W.codeIn K cd_law_box "_law_box" = true)
    (k_law_box : PySem.W.keepIn K (.ref f_law_box) = true)
    {f_law_take : Addr} {od_law_take an_law_take : Option Addr} {sl_law_take : Array (Option Value)} {oc_law_take kV_law_take dc_law_take pm_law_take cd_law_take ct_law_take : Value}
    (a_law_take : PySem.W.nsIn K mainGlobals "_law_take" = some (some (.ref f_law_take)))
    (l_law_take : K.lookup f_law_take = some ⟨oc_law_take, od_law_take, .func (PySem.W.fnOf "_law_take" "_law_take" (defArgs s_law_take) (defBody s_law_take) (defScope s_law_take) .none kV_law_take dc_law_take pm_law_take an_law_take cd_law_take ct_law_take), sl_law_take⟩)
    (c_law_take : PySem.W.codeIn K cd_law_take "_law_take" = true)
    (k_law_take : PySem.W.keepIn K (.ref f_law_take) = true)
    {f_law_pick : Addr} {od_law_pick an_law_pick : Option Addr} {sl_law_pick : Array (Option Value)} {oc_law_pick kV_law_pick dc_law_pick pm_law_pick cd_law_pick ct_law_pick : Value}
    (a_law_pick : PySem.W.nsIn K mainGlobals "_law_pick" = some (some (.ref f_law_pick)))
    (l_law_pick : K.lookup f_law_pick = some ⟨oc_law_pick, od_law_pick, .func (PySem.W.fnOf "_law_pick" "_law_pick" (defArgs s_law_pick) (defBody s_law_pick) (defScope s_law_pick) .none kV_law_pick dc_law_pick pm_law_pick an_law_pick cd_law_pick ct_law_pick), sl_law_pick⟩)
    (c_law_pick : PySem.W.codeIn K cd_law_pick "_law_pick" = true)
    (k_law_pick : PySem.W.keepIn K (.ref f_law_pick) = true)
    {f_law_is_number : Addr} {od_law_is_number an_law_is_number : Option Addr} {sl_law_is_number : Array (Option Value)} {oc_law_is_number kV_law_is_number dc_law_is_number pm_law_is_number cd_law_is_number ct_law_is_number : Value}
    (a_law_is_number : PySem.W.nsIn K mainGlobals "_law_is_number" = some (some (.ref f_law_is_number)))
    (l_law_is_number : K.lookup f_law_is_number = some ⟨oc_law_is_number, od_law_is_number, .func (PySem.W.fnOf "_law_is_number" "_law_is_number" (defArgs s_law_is_number) (defBody s_law_is_number) (defScope s_law_is_number) .none kV_law_is_number dc_law_is_number pm_law_is_number an_law_is_number cd_law_is_number ct_law_is_number), sl_law_is_number⟩)
    (c_law_is_number : PySem.W.codeIn K cd_law_is_number "_law_is_number" = true)
    (k_law_is_number : PySem.W.keepIn K (.ref f_law_is_number) = true)
    {f_law_are : Addr} {od_law_are an_law_are : Option Addr} {sl_law_are : Array (Option Value)} {oc_law_are kV_law_are dc_law_are pm_law_are cd_law_are ct_law_are : Value}
    (a_law_are : PySem.W.nsIn K mainGlobals "_law_are" = some (some (.ref f_law_are)))
    (l_law_are : K.lookup f_law_are = some ⟨oc_law_are, od_law_are, .func (PySem.W.fnOf "_law_are" "_law_are" (defArgs s_law_are) (defBody s_law_are) (defScope s_law_are) .none kV_law_are dc_law_are pm_law_are an_law_are cd_law_are ct_law_are), sl_law_are⟩)
    (c_law_are : PySem.W.codeIn K cd_law_are "_law_are" = true)
    (k_law_are : PySem.W.keepIn K (.ref f_law_are) = true)
    {f_law_due : Addr} {od_law_due an_law_due : Option Addr} {sl_law_due : Array (Option Value)} {oc_law_due kV_law_due dc_law_due pm_law_due cd_law_due ct_law_due : Value}
    (a_law_due : PySem.W.nsIn K mainGlobals "_law_due" = some (some (.ref f_law_due)))
    (l_law_due : K.lookup f_law_due = some ⟨oc_law_due, od_law_due, .func (PySem.W.fnOf "_law_due" "_law_due" (defArgs s_law_due) (defBody s_law_due) (defScope s_law_due) .none kV_law_due dc_law_due pm_law_due an_law_due cd_law_due ct_law_due), sl_law_due⟩)
    (c_law_due : PySem.W.codeIn K cd_law_due "_law_due" = true)
    (k_law_due : PySem.W.keepIn K (.ref f_law_due) = true)
    {f_law_heard : Addr} {od_law_heard an_law_heard : Option Addr} {sl_law_heard : Array (Option Value)} {oc_law_heard kV_law_heard dc_law_heard pm_law_heard cd_law_heard ct_law_heard : Value}
    (a_law_heard : PySem.W.nsIn K mainGlobals "_law_heard" = some (some (.ref f_law_heard)))
    (l_law_heard : K.lookup f_law_heard = some ⟨oc_law_heard, od_law_heard, .func (PySem.W.fnOf "_law_heard" "_law_heard" (defArgs s_law_heard) (defBody s_law_heard) (defScope s_law_heard) .none kV_law_heard dc_law_heard pm_law_heard an_law_heard cd_law_heard ct_law_heard), sl_law_heard⟩)
    (c_law_heard : PySem.W.codeIn K cd_law_heard "_law_heard" = true)
    (k_law_heard : PySem.W.keepIn K (.ref f_law_heard) = true)
    {f_law : Addr} {od_law an_law : Option Addr} {sl_law : Array (Option Value)} {oc_law kV_law dc_law pm_law cd_law ct_law : Value}
    (a_law : PySem.W.nsIn K mainGlobals "law" = some (some (.ref f_law)))
    (l_law : K.lookup f_law = some ⟨oc_law, od_law, .func (PySem.W.fnOf "law" "law" (defArgs s_law) (defBody s_law) (defScope s_law) .none kV_law dc_law pm_law an_law cd_law ct_law), sl_law⟩)
    (c_law : PySem.W.codeIn K cd_law "law" = true)
    (k_law : PySem.W.keepIn K (.ref f_law) = true)
    {f_is_integer : Addr} {od_is_integer an_is_integer : Option Addr} {sl_is_integer : Array (Option Value)} {oc_is_integer kV_is_integer dc_is_integer pm_is_integer cd_is_integer ct_is_integer : Value}
    (a_is_integer : PySem.W.nsIn K mainGlobals "is_integer" = some (some (.ref f_is_integer)))
    (l_is_integer : K.lookup f_is_integer = some ⟨oc_is_integer, od_is_integer, .func (PySem.W.fnOf "is_integer" "is_integer" (defArgs s_is_integer) (defBody s_is_integer) (defScope s_is_integer) .none kV_is_integer dc_is_integer pm_is_integer an_is_integer cd_is_integer ct_is_integer), sl_is_integer⟩)
    (c_is_integer : PySem.W.codeIn K cd_is_integer "is_integer" = true)
    (k_is_integer : PySem.W.keepIn K (.ref f_is_integer) = true)
    {f_all_from : Addr} {od_all_from an_all_from : Option Addr} {sl_all_from : Array (Option Value)} {oc_all_from kV_all_from dc_all_from pm_all_from cd_all_from ct_all_from : Value}
    (a_all_from : PySem.W.nsIn K mainGlobals "all_from" = some (some (.ref f_all_from)))
    (l_all_from : K.lookup f_all_from = some ⟨oc_all_from, od_all_from, .func (PySem.W.fnOf "all_from" "all_from" (defArgs s_all_from) (defBody s_all_from) (defScope s_all_from) .none kV_all_from dc_all_from pm_all_from an_all_from cd_all_from ct_all_from), sl_all_from⟩)
    (c_all_from : PySem.W.codeIn K cd_all_from "all_from" = true)
    (k_all_from : PySem.W.keepIn K (.ref f_all_from) = true)
    {f_least_period : Addr} {od_least_period an_least_period : Option Addr} {sl_least_period : Array (Option Value)} {oc_least_period kV_least_period dc_least_period pm_least_period cd_least_period ct_least_period : Value}
    (a_least_period : PySem.W.nsIn K mainGlobals "least_period" = some (some (.ref f_least_period)))
    (l_least_period : K.lookup f_least_period = some ⟨oc_least_period, od_least_period, .func (PySem.W.fnOf "least_period" "least_period" (defArgs s_least_period) (defBody s_least_period) (defScope s_least_period) .none kV_least_period dc_least_period pm_least_period an_least_period cd_least_period ct_least_period), sl_least_period⟩)
    (c_least_period : PySem.W.codeIn K cd_least_period "least_period" = true)
    (k_least_period : PySem.W.keepIn K (.ref f_least_period) = true)
    {f_least_form : Addr} {od_least_form an_least_form : Option Addr} {sl_least_form : Array (Option Value)} {oc_least_form kV_least_form dc_least_form pm_least_form cd_least_form ct_least_form : Value}
    (a_least_form : PySem.W.nsIn K mainGlobals "least_form" = some (some (.ref f_least_form)))
    (l_least_form : K.lookup f_least_form = some ⟨oc_least_form, od_least_form, .func (PySem.W.fnOf "least_form" "least_form" (defArgs s_least_form) (defBody s_least_form) (defScope s_least_form) .none kV_least_form dc_least_form pm_least_form an_least_form cd_least_form ct_least_form), sl_least_form⟩)
    (c_least_form : PySem.W.codeIn K cd_least_form "least_form" = true)
    (k_least_form : PySem.W.keepIn K (.ref f_least_form) = true) :
    ∀ base : Heap, K.In base → base.Ns mainGlobals mg → DefG P w K mg base CX0 8 "law" ["_law_script"] (spLaw K) := by
  have m_GroundError : mg "GroundError" = some (.ref aGround) := PySem.W.mg_of X G a_GroundError
  have b_GroundError : BaseInit K aGround := ⟨bs_GroundError, br_GroundError, bf_GroundError⟩
  have m_InvalidNumbers : mg "InvalidNumbers" = some (.ref aInv) := PySem.W.mg_of X G a_InvalidNumbers
  have at_InvalidNumbers : ErrAt K mg "InvalidNumbers" "InvalidNumbers.__init__" s_InvalidNumbers__init aInv := ⟨m_InvalidNumbers, ⟨⟨nm_InvalidNumbers, q_InvalidNumbers, N_InvalidNumbers, bs_InvalidNumbers, _, sn_InvalidNumbers, sub_InvalidNumbers, ab_InvalidNumbers, col_InvalidNumbers, dd_InvalidNumbers, m0_InvalidNumbers, m1_InvalidNumbers, m2_InvalidNumbers, m3_InvalidNumbers, m5_InvalidNumbers, x_InvalidNumbers, rfl⟩, sa_InvalidNumbers, ex_InvalidNumbers, ty_InvalidNumbers, kc_InvalidNumbers⟩, _, _, i_InvalidNumbers, ti_InvalidNumbers, fun_mk (st := s_InvalidNumbers__init) l_InvalidNumbers c_InvalidNumbers k_InvalidNumbers⟩
  have xc_InvalidNumbers : ExcC K aInv := ⟨xg_InvalidNumbers, xk_InvalidNumbers, ex_InvalidNumbers, xd_InvalidNumbers, xa_InvalidNumbers, xn_InvalidNumbers, xt_InvalidNumbers, xm_InvalidNumbers⟩
  have exm_InvalidNumbers : PySem.W.exmOne K (.ref aInv) (.ref aInv) = some true := PySem.W.exm_ref ex_InvalidNumbers xd_InvalidNumbers ty_InvalidNumbers xs_InvalidNumbers
  have m_Numbers : mg "Numbers" = some (.ref aNum) := PySem.W.mg_of X G a_Numbers
  have cl_Numbers : Cls K aNum := ⟨pg_Numbers, hd_Numbers, po_Numbers, sa_Numbers⟩
  have mk_Numbers : Mk K aNum f_Numbers := ⟨mk_Numbers, i_Numbers, if_Numbers, kc_Numbers⟩
  have fd_Numbers : FunD K "__init__" "Numbers.__init__" (defArgs s_Numbers__init) (defBody s_Numbers__init) (defScope s_Numbers__init) [.ref e1, .int 1, .int 1, .ref e2] [] f_Numbers _ := ⟨⟨_, _, _, _, _, _, _, _, _, _, rfl, l_Numbers, c_Numbers, .inr ⟨List.cons_ne_nil _ _, _, _, _, _, rfl, t_Numbers, rfl, v_Numbers⟩, .inl rfl⟩, k_Numbers⟩
  have n_int : mg "int" = none := PySem.W.mg_none_of X G z_int
  have n_len : mg "len" = none := PySem.W.mg_none_of X G z_len
  have n_abs : mg "abs" = none := PySem.W.mg_none_of X G z_abs
  have n_repr : mg "repr" = none := PySem.W.mg_none_of X G z_repr
  have n_range : mg "range" = none := PySem.W.mg_none_of X G z_range
  have n_min : mg "min" = none := PySem.W.mg_none_of X G z_min
  have n_max : mg "max" = none := PySem.W.mg_none_of X G z_max
  have n_bool : mg "bool" = none := PySem.W.mg_none_of X G z_bool
  have n_isinstance : mg "isinstance" = none := PySem.W.mg_none_of X G z_isinstance
  have n_tuple : mg "tuple" = none := PySem.W.mg_none_of X G z_tuple
  have n_list : mg "list" = none := PySem.W.mg_none_of X G z_list
  have n_all : mg "all" = none := PySem.W.mg_none_of X G z_all
  have n_sorted : mg "sorted" = none := PySem.W.mg_none_of X G z_sorted
  have at_law_box : DefAt K mg "_law_box" s_law_box := ⟨_, _, PySem.W.mg_of X G a_law_box, fun_mk (st := s_law_box) l_law_box c_law_box k_law_box⟩
  have at_law_take : DefAt K mg "_law_take" s_law_take := ⟨_, _, PySem.W.mg_of X G a_law_take, fun_mk (st := s_law_take) l_law_take c_law_take k_law_take⟩
  have at_law_pick : DefAt K mg "_law_pick" s_law_pick := ⟨_, _, PySem.W.mg_of X G a_law_pick, fun_mk (st := s_law_pick) l_law_pick c_law_pick k_law_pick⟩
  have at_law_is_number : DefAt K mg "_law_is_number" s_law_is_number := ⟨_, _, PySem.W.mg_of X G a_law_is_number, fun_mk (st := s_law_is_number) l_law_is_number c_law_is_number k_law_is_number⟩
  have at_law_are : DefAt K mg "_law_are" s_law_are := ⟨_, _, PySem.W.mg_of X G a_law_are, fun_mk (st := s_law_are) l_law_are c_law_are k_law_are⟩
  have at_law_due : DefAt K mg "_law_due" s_law_due := ⟨_, _, PySem.W.mg_of X G a_law_due, fun_mk (st := s_law_due) l_law_due c_law_due k_law_due⟩
  have at_law_heard : DefAt K mg "_law_heard" s_law_heard := ⟨_, _, PySem.W.mg_of X G a_law_heard, fun_mk (st := s_law_heard) l_law_heard c_law_heard k_law_heard⟩
  have at_law : DefAt K mg "law" s_law := ⟨_, _, PySem.W.mg_of X G a_law, fun_mk (st := s_law) l_law c_law k_law⟩
  have at_is_integer : DefAt K mg "is_integer" s_is_integer := ⟨_, _, PySem.W.mg_of X G a_is_integer, fun_mk (st := s_is_integer) l_is_integer c_is_integer k_is_integer⟩
  have at_all_from : DefAt K mg "all_from" s_all_from := ⟨_, _, PySem.W.mg_of X G a_all_from, fun_mk (st := s_all_from) l_all_from c_all_from k_all_from⟩
  have at_least_period : DefAt K mg "least_period" s_least_period := ⟨_, _, PySem.W.mg_of X G a_least_period, fun_mk (st := s_least_period) l_least_period c_least_period k_least_period⟩
  have at_least_form : DefAt K mg "least_form" s_least_form := ⟨_, _, PySem.W.mg_of X G a_least_form, fun_mk (st := s_least_form) l_least_form c_least_form k_least_form⟩
  have T : Txt K mg aGround aNum aInv := ⟨m_GroundError, b_GroundError, PySem.W.mg_of X G a_InvalidNumbers, cl_Numbers, na_aNum_listed, na_aNum_since, na_aNum_period, na_aNum_rests, na_aInv_word, ⟨xg_InvalidNumbers, xk_InvalidNumbers, ex_InvalidNumbers, xd_InvalidNumbers⟩,
    exm_InvalidNumbers, xc_InvalidNumbers, n_int, n_len, n_abs, n_repr, n_range, n_min, n_max, n_bool, n_isinstance, n_tuple, n_list, n_all, n_sorted⟩
  obtain ⟨ds, vd, bN⟩ := fd_Numbers.binds1 (ps := ["self", "listed", "since", "period", "rests"]) 5 4 (by simp) rfl (fun T kV doc pm an cdv ct us its hu hi => match us, its, hu, hi with | [_, _, _, _, _], [_, _, _, _], _, _ => ⟨_, rfl, rfl⟩)
  intro base hb1 hb2
  have D_take := ok_take (P := P) (w := w) (base := base) at_law_take T
  have D_pick := ok_pick (P := P) (w := w) (base := base) at_law_pick T D_take
  have D_box := ok_box (P := P) (w := w) (base := base) at_law_box T
  have D_int := ok_is_integer (P := P) (w := w) (base := base) at_is_integer T
  have D_all := ok_all_from (P := P) (w := w) (base := base) at_all_from T D_int
  have D_lp := ok_least_period (P := P) (w := w) (base := base) at_least_period T
  have D_lf := ok_least_form (P := P) (w := w) (base := base) at_least_form T D_lp
  have R_inv := ok_InvalidNumbers (P := P) (w := w) (base := base) at_InvalidNumbers T
  have F_num := ok_NumI (P := P) (w := w) (base := base) fd_Numbers T D_int D_all D_lf R_inv
  have M_num : MakeOk P w K mg base (L2.CX P w) 4 "Numbers" aNum ["self", "listed", "since", "period", "rests"] [] (spNumI K aNum aInv) := ⟨m_Numbers, _, _, _, mk_Numbers, F_num, bN, vd⟩
  have D_ln := ok_lnum (P := P) (w := w) (base := base) at_law_is_number T
  have D_are := ok_lare (P := P) (w := w) (base := base) at_law_are T D_ln
  have D_due := ok_due (P := P) (w := w) (base := base) at_law_due T D_ln D_are
  have D_heard := ok_heard3 (P := P) (w := w) (base := base) at_law_heard T M_num
  exact ok_law at_law T D_box D_take D_pick D_due D_heard
end
end Hg
end L2

open PySem PySem.W PyProof.Rows in
set_option maxRecDepth 100000 in
set_option maxHeartbeats 0 in
theorem PySem.Challenge.cw_heldground_k03_sets_refused_holds : PySem.Challenge.rw_heldground_k03_sets_refused.Holds := by
  w_on; o_law; k_head; (case hw => w_witness2)
  k_fill
  refine L2.Hg.walk_ofG (l := PySem.Challenge.rw_heldground_k03_sets_refused) (n := 63) (k := 8) (x := "_law_script") (sp := L2.Hg.spLaw) rfl (by decide) rfl ⟨rfl, by decide, by decide⟩ (fun w h Y => PySem.W.kIn_of Y) ?F (fun K H a ns hl hS => ⟨a, ns, rfl, hS, hl, fun _ => rfl⟩)
  case F =>
    intro w mg h KX G
    refine' L2.Hg.all_mk KX G ?a_GroundError ?bs_GroundError ?br_GroundError ?bf_GroundError ?a_InvalidNumbers ?x_InvalidNumbers ?sa_InvalidNumbers ?ex_InvalidNumbers ?ty_InvalidNumbers ?kc_InvalidNumbers ?i_InvalidNumbers ?ti_InvalidNumbers ?l_InvalidNumbers ?c_InvalidNumbers ?k_InvalidNumbers ?xg_InvalidNumbers ?xk_InvalidNumbers ?xd_InvalidNumbers ?xa_InvalidNumbers ?xn_InvalidNumbers ?xt_InvalidNumbers ?xm_InvalidNumbers ?xs_InvalidNumbers ?a_Numbers ?pg_Numbers ?hd_Numbers ?po_Numbers ?sa_Numbers ?mk_Numbers ?kc_Numbers ?i_Numbers ?if_Numbers ?l_Numbers ?c_Numbers ?k_Numbers ?t_Numbers ?v_Numbers ?na_aNum_listed ?na_aNum_since ?na_aNum_period ?na_aNum_rests ?na_aInv_word ?z_int ?z_len ?z_abs ?z_repr ?z_range ?z_min ?z_max ?z_bool ?z_isinstance ?z_tuple ?z_list ?z_all ?z_sorted ?a_law_box ?l_law_box ?c_law_box ?k_law_box ?a_law_take ?l_law_take ?c_law_take ?k_law_take ?a_law_pick ?l_law_pick ?c_law_pick ?k_law_pick ?a_law_is_number ?l_law_is_number ?c_law_is_number ?k_law_is_number ?a_law_are ?l_law_are ?c_law_are ?k_law_are ?a_law_due ?l_law_due ?c_law_due ?k_law_due ?a_law_heard ?l_law_heard ?c_law_heard ?k_law_heard ?a_law ?l_law ?c_law ?k_law ?a_is_integer ?l_is_integer ?c_is_integer ?k_is_integer ?a_all_from ?l_all_from ?c_all_from ?k_all_from ?a_least_period ?l_least_period ?c_least_period ?k_least_period ?a_least_form ?l_least_form ?c_least_form ?k_least_form
    (case a_GroundError => k_is)
    (case bs_GroundError => k_is)
    (case br_GroundError => k_is)
    (case bf_GroundError => k_is)
    (case a_InvalidNumbers => k_is)
    (case x_InvalidNumbers => k_is)
    (case sa_InvalidNumbers => k_is)
    (case ex_InvalidNumbers => k_is)
    (case ty_InvalidNumbers => k_is)
    (case kc_InvalidNumbers => k_is)
    (case i_InvalidNumbers => k_is)
    (case ti_InvalidNumbers => k_is)
    (case l_InvalidNumbers => k_is)
    (case c_InvalidNumbers => k_is)
    (case k_InvalidNumbers => k_is)
    (case xg_InvalidNumbers => k_is)
    (case xk_InvalidNumbers => k_is)
    (case xd_InvalidNumbers => k_is)
    (case xa_InvalidNumbers => k_is)
    (case xn_InvalidNumbers => k_is)
    (case xt_InvalidNumbers => k_is)
    (case xm_InvalidNumbers => k_is)
    (case xs_InvalidNumbers => k_is)
    (case a_Numbers => k_is)
    (case pg_Numbers => k_is)
    (case hd_Numbers => k_is)
    (case po_Numbers => k_is)
    (case sa_Numbers => k_is)
    (case mk_Numbers => k_is)
    (case kc_Numbers => k_is)
    (case i_Numbers => k_is)
    (case if_Numbers => k_is)
    (case l_Numbers => k_is)
    (case c_Numbers => k_is)
    (case k_Numbers => k_is)
    (case t_Numbers => k_is)
    (case v_Numbers => repeat (first | exact .nil | refine .cons (by first | rfl | exact ⟨_, rfl⟩) ?_))
    (case na_aNum_listed => k_is)
    (case na_aNum_since => k_is)
    (case na_aNum_period => k_is)
    (case na_aNum_rests => k_is)
    (case na_aInv_word => k_is)
    (case z_int => k_is)
    (case z_len => k_is)
    (case z_abs => k_is)
    (case z_repr => k_is)
    (case z_range => k_is)
    (case z_min => k_is)
    (case z_max => k_is)
    (case z_bool => k_is)
    (case z_isinstance => k_is)
    (case z_tuple => k_is)
    (case z_list => k_is)
    (case z_all => k_is)
    (case z_sorted => k_is)
    (case a_law_box => k_is)
    (case l_law_box => k_is)
    (case c_law_box => k_is)
    (case k_law_box => k_is)
    (case a_law_take => k_is)
    (case l_law_take => k_is)
    (case c_law_take => k_is)
    (case k_law_take => k_is)
    (case a_law_pick => k_is)
    (case l_law_pick => k_is)
    (case c_law_pick => k_is)
    (case k_law_pick => k_is)
    (case a_law_is_number => k_is)
    (case l_law_is_number => k_is)
    (case c_law_is_number => k_is)
    (case k_law_is_number => k_is)
    (case a_law_are => k_is)
    (case l_law_are => k_is)
    (case c_law_are => k_is)
    (case k_law_are => k_is)
    (case a_law_due => k_is)
    (case l_law_due => k_is)
    (case c_law_due => k_is)
    (case k_law_due => k_is)
    (case a_law_heard => k_is)
    (case l_law_heard => k_is)
    (case c_law_heard => k_is)
    (case k_law_heard => k_is)
    (case a_law => k_is)
    (case l_law => k_is)
    (case c_law => k_is)
    (case k_law => k_is)
    (case a_is_integer => k_is)
    (case l_is_integer => k_is)
    (case c_is_integer => k_is)
    (case k_is_integer => k_is)
    (case a_all_from => k_is)
    (case l_all_from => k_is)
    (case c_all_from => k_is)
    (case k_all_from => k_is)
    (case a_least_period => k_is)
    (case l_least_period => k_is)
    (case c_least_period => k_is)
    (case k_least_period => k_is)
    (case a_least_form => k_is)
    (case l_least_form => k_is)
    (case c_least_form => k_is)
    (case k_least_form => k_is)
