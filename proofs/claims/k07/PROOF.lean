import PyProof.Rows.All
import Wide.All
import OpenK.AllK
import Wide.FinOn
import HandS.ForMost
import HandS.ForExc
import HandS.ExcInit
import HandS.IsInst
import HandS.ExcIs
import PyProof.Rows.NestShow
import HandS.Wide
import HandS.Steps
import HandS.Defaults
import PyProof.ReprLen
import PyProof.FitsInt
import HandS.Property
import HandS.TupMul
import HandS.Star
import HandS.CallSlots
import HandS.Style
import HandS.Walk
import HandS.ExcField
import HandS.DictComp
import HandS.SortInts
import HandS.Records
import PyProof.FactsAll.object_2
import HandS.Text
import HandS.FStr
import HandS.RaiseMore
import KE.KMinKey
import HandS.SortKw
import HandS.Conv
import HandS.ClsMeth
import HandS.CallLocal
import HandS.More
import KE.IntTextLaws
import PySem.Challenge.RW_heldground_k07_texts_of_sets
section
set_option Elab.async false
set_option linter.all false
set_option maxRecDepth 100000
set_option maxHeartbeats 4000000
/-! Own errors of the package: the base's `__init__` called by the class's name, an error without arguments, an error with one field. -/
namespace L2
namespace Hg
open PySem PySem.Spec PyProof.Rows

/-- the base class at G has ValueError's own `__init__` -/
structure BaseInit (K : PySem.W.Frag) (G : Addr) : Prop where
  sp : PySem.W.specialIn K (.ref G) "__getattribute__" = some (some (.builtin "type.__getattribute__"))
  rd : PySem.W.readsIn K G (.type "type") = true
  fc : PySem.W.findCls K (.ref G) (.type "type") "__init__" = some (.val (.builtin "ValueError.__init__"))

section
variable {X : Cx} {e : Expr} {es : List Expr} {ta : TA} {p p1 p2 pos : Pos} {G C fI : Addr} {g x : Str}
theorem pe_ginit {pl : Sem Bool} (hg : Gl X g) (hm : X.mg g = some (.ref G)) (B : BaseInit X.K G) (ha : PA X (e :: es) ta)
    (hdb : (g == ("__debug__" : Str)) = false := by decide)
    (hc : eval (.Call (.Attribute (.Name g p1) "__init__" p2) (e :: es) [] pos) X.env = (do
      let ov ← eval (.Name g p1) X.env
      standAt p2.atName
      let (f, first) ← holding [ov] (getMethod ov "__init__" pl)
      callWith pos f first (backTo pos (starEach (e :: es) X.env)) (backToKw pos (keywordEach [] X.env))) := by rfl)
    (he : starEach (e :: es) X.env = (false, eval e X.env) :: starEach es X.env := by rfl)
    (hpl : (backTo pos (starEach es X.env)).any (·.1) = false := by rfl) :
    PE X (.Call (.Attribute (.Name g p1) "__init__" p2) (e :: es) [] pos) (tVeI X.K ta) := by
  refine ⟨fun pins s σ H Q I h => ?_⟩
  refine PySem.W.methodCall_KW (ld_glob I hg hm ?_ hdb) hc
  refine PySem.W.method_cls I.kIn B.sp (PySem.W.cls_value I.kIn B.rd B.fc (by decide +kernel) ?_)
  show wpAny _ _ (callWith pos (Value.builtin "ValueError.__init__") [] (backTo pos (starEach (e :: es) X.env)) []) _ _ _
  refine PyProof.Rows.callWith_method1 (thn (ha.run pos pins _ σ H _ (I.tok _) h) fun us s1 hq => ?_) he hpl
  obtain ⟨vs, H1, I1, r1, a, C, ws, ev, hl, T, ea, q⟩ := hq
  subst ev
  cases r1 with
  | @cons _ u0 _ ur ra rr =>
    obtain rfl : u0 = Value.ref a := ra
    have hz : ur.length ≤ sizeLine := by
      rw [← Paired.length rr, sizeLine_eq]; omega
    exact oinit_ok T I1 ea hz fun s' J => ⟨.non, H1, J, rfl, q⟩

/-- C(), the class's own `__init__` stores nothing -/
def tMkN (C : Addr) (sp : Sp) : St → Hp → XK → Prop := fun σ H Q => ∀ a, H a = none →
  sp [.ref a] (upd H a (exo a C none)) (fun v H2 => v = .non ∧ H2 a = some (exo a C none) ∧ Q (.ref C) none (del H2 a)) (fun _ _ _ => False)

theorem upd_del {H : Hp} {a : Addr} {o : HO} (h : H a = none) : del (upd H a o) a = H := by
  funext b
  unfold del
  by_cases hb : b = a
  · subst hb; rw [if_pos rfl, h]
  · rw [if_neg hb, upd_ne hb]

theorem mk_endN {pins : List (Addr × Obj)} {σ : St} {H1 H2 : Hp} {Q : XK} {hp hp2 h2 : Heap} {g1 g2 : Array GenState} {d1 d2 : Drawn} {t1 t2 : Nat} {os1 os2 : OsState} {a : Addr}
    (T : Raises X (.ref C)) (I1 : Inv X pins σ H1 ⟨hp, g1, d1, t1, os1⟩) (ha : hp.objs.size ≤ a)
    (k : ∀ b o, hp.get? b = some o → hp2.get? b = some o)
    (un : Un (frs X.stack) [] (upd H1 a (exo a C none)) H2 hp2 h2) (hok : HOk X.prog X.w H2 h2) (ho : os2 = os1) (hb : AllBare g2)
    (ea : H2 a = some (exo a C none)) (q : Q (.ref C) none (del H2 a)) : MkP X pins σ Q (.ref a) ⟨h2, g2, d2, t2, os2⟩ := by
  obtain ⟨t0, hoe⟩ := exo_at hok ea
  have hn : H1 a = none := I1.hok.fresh ha
  obtain ⟨Gh, gA, gB⟩ := restrict h2 fun b => decide (b ≠ a)
  have gk : ∀ b, b ≠ a → Gh.get? b = h2.get? b := fun b hb => gA b (decide_eq_true hb)
  have ge : Gh.get? a = none := gB a (by simp)
  have nha : ∀ {b : Addr} {o : Obj}, hp.get? b = some o → b ≠ a := fun {b o} z =>
    Nat.ne_of_lt (Nat.lt_of_lt_of_le (Heap.lt_size z) ha)
  have up : ∀ {b : Addr}, b ≠ a → H1 b = none → upd H1 a (exo a C none) b = none := fun {b} hb n => by
    rw [upd_ne hb]; exact n
  have U : Un (frs X.stack) [] H1 (del H2 a) hp Gh :=
    { keep := fun b o z n hf hx => by
        rw [gk b (nha z)]
        exact un.keep b o (k b o z) (up (nha z) n) hf hx
      slot := fun b o z n hf hx => by
        rw [gk b (nha z)]
        exact un.slot b o (k b o z) (up (nha z) n) hf hx
      free := fun b o z n hx => by
        rw [del_ne (nha z)]
        exact un.free b o (k b o z) (up (nha z) n) hx
      there := fun b o z hx => by
        rw [gk b (nha z)]
        exact un.there b o (k b o z) hx
      tups := fun b xs z => by
        rw [del_ne (ne_of_none z hn)]
        exact un.tups b xs ((upd_ne (ne_of_none z hn)).trans z)
      frzs := fun b o v z => by
        rw [del_ne (ne_of_none z hn)]
        exact un.frzs b o v ((upd_ne (ne_of_none z hn)).trans z)
      tbls := fun b ps z => by
        rw [del_ne (ne_of_none z hn)]
        exact un.tbls b ps ((upd_ne (ne_of_none z hn)).trans z) }
  have hok3 : HOk X.prog X.w (del H2 a) Gh := fun b o z => by
    have hba : b ≠ a := fun w => by rw [w, del_same] at z; cases z
    rw [del_ne hba] at z
    have noa : ∀ {c : Addr}, H2 c = some (.own b) → c ≠ a := fun {c} hc => at_ne ea hc exo_own
    refine (hok b o z).stay (fun c v hc y => ?_) (fun c hc => ?_) (fun c xs hc => ?_)
    · have hca : c ≠ a := by
        rcases hc with hc | hc
        · rw [hc]; exact hba
        · exact noa hc
      rw [gk c hca]; exact y
    · rw [del_ne (noa hc)]; exact hc
    · rw [del_ne (at_ne ea hc exo_tup)]; exact hc
  have J : Inv X pins σ (del H2 a) ⟨Gh, g2, d2, t2, os2⟩ := I1.call' (ch := []) ho U hok3 hb fun b z => absurd z (by simp)
  refine ⟨a, _, _, ⟨Gh, g2, d2, t2, os2⟩, _, .ref C, none, rfl, J, fun b o z => ?_, ge, hoe, ⟨rfl, rfl⟩, rfl, rfl, del_same, rfl, hb, T, q⟩
  by_cases hba : b = a
  · rw [hba] at z
    have z' : Gh.get? a = some o := z
    rw [ge] at z'; cases z'
  · exact (gk b hba).symm.trans z

theorem pmk_oexN {CX : CXT} {k : Nat} {fd : FuncData} {ps : List Str} {sp : Sp} (T : OexC X.K C)
    (iC : PySem.W.findIn X.K (.ref C) "__init__" = some (some (.ref fI))) (tI : PySem.W.typeIn X.K (.ref fI) = some (.type "function"))
    (F1 : FnOk X.prog X.w X.K X.mg X.base CX k fI fd ps sp) (hr : Room (k + 1) X.A) (hb : Binds X.K fd ps [])
    (hx : Passes CX X (fun _ _ _ => False)) (hg : Gl X x) (hm : X.mg x = some (.ref C))
    (hdb : (x == ("__debug__" : Str)) = false := by decide) : PMk X (.Call (.Name x p) [] [] pos) (tMkN C sp) := by
  intro pins s σ H Q I h
  obtain ⟨nm, q, N, bs, bm, sn, sub, ab, col, dd, k0, k1, k2, k3, k5, hC, hbm⟩ := T.cls
  refine wpAny_Call_Name_kw (ld_glob I hg hm ?_ hdb)
  refine PySem.W.callWith_K0 I.kIn T.kC ?_
  show wpAny _ _ (call (.ref C) []) _ _ _
  obtain ⟨hp, gs, dr, tk, os⟩ := s
  have hsz : hp.objs.size ≤ hp.objs.size + 1 := Nat.le_succ _
  have hn : H (hp.objs.size + 1) = none := I.hok.fresh hsz
  have hq := h (hp.objs.size + 1) hn
  have kk : ∀ b o, hp.get? b = some o → ((hp.push (PySem.W.kdv_tup [])).push (PySem.HandSPX.excO C hp.objs.size)).get? b = some o :=
    fun b o z => Heap.get?_push_of_some _ (Heap.get?_push_of_some _ z)
  have hget : ((hp.push (PySem.W.kdv_tup [])).push (PySem.HandSPX.excO C hp.objs.size)).get? (hp.objs.size + 1) = some (PySem.HandSPX.excO C hp.objs.size) := by heap_get
  have I2 : Inv X pins σ (upd H (hp.objs.size + 1) (exo (hp.objs.size + 1) C none)) ⟨(hp.push (PySem.W.kdv_tup [])).push (PySem.HandSPX.excO C hp.objs.size), gs, dr, tk, os⟩ :=
    I.laid (t' := tk) (a := hp.objs.size + 1) (o := exo (hp.objs.size + 1) C none) (h' := (hp.push (PySem.W.kdv_tup [])).push (PySem.HandSPX.excO C hp.objs.size)) kk hsz (exo_ok hget)
  have r2 : Vals [V.ref (hp.objs.size + 1)] [Value.ref (hp.objs.size + 1)] := .cons rfl .nil
  have hl : ([Value.ref (hp.objs.size + 1)] ++ []).length = ps.length := by
    have z := r2.length
    rw [F1.len _ _ _ _ hq] at z
    exact z.symm
  refine wpAny_call (PySem.HandSPX.call_own F.excBase_ValueError (fun Y => PySem.HandSPX.refsVE_contains Y bm hbm) (I.kIn _ _ hC) (PySem.W.looks_findIn I.kIn iC) (fun self => PySem.W.bind_fn I.kIn self tI) (Nat.zero_le _)
    (codeAny_mono (F1.run _ X.stack _ _ ⟨[Value.ref (hp.objs.size + 1)], []⟩ [Value.ref (hp.objs.size + 1)] _ _ (fun _ _ _ => False) (hr.make C [] []) (I2.env0.make C [] []) (hb _ [Value.ref (hp.objs.size + 1)] I2.kIn hl) r2 hq) fun r s' hq' => ?_))
  cases r with
  | error er => exact hx pins σ _ _ er s' I2 hq'
  | ok fl =>
    cases fl with
    | ret u =>
      obtain ⟨v, H2, os2, bare2, un2, hok2, rv, ev, ea, q2⟩ := hq'
      subst ev
      obtain ⟨h2, g2, d2, t2, os'⟩ := s'
      exact ⟨rv, mk_endN (raises_own T.exC T.tyC) I hsz kk un2 hok2 os2 bare2 ea q2⟩
    | next => exact False.elim hq'
    | brk => exact False.elim hq'
    | cont => exact False.elim hq'
end

/-! ### promises of the errors' `__init__` -/
/-- no field -/
def spInitN (K : PySem.W.Frag) (C : Addr) : Sp := fun vs H Q _ => ∃ a, vs = [.ref a] ∧ OexC K C ∧ H a = some (exo a C none) ∧ Q .non H
/-- one field f -/
def spInitF (K : PySem.W.Frag) (C : Addr) (f : Str) : Sp := fun vs H Q _ => ∃ a x, vs = [.ref a, x] ∧ OexC K C ∧ PySem.W.findIn K (.ref C) f = some none ∧ H a = some (exo a C none) ∧
  ∀ dx, H dx = none → dx ≠ a → Q .non (upd (upd H dx (exd dx [(f, x)])) a (exo a C (some dx)))
theorem upd_three {H : Hp} {a d : Addr} {o1 o2 o3 o4 : HO} (h : H a = none) (hd : d ≠ a) : upd (del (upd (upd (upd H a o1) d o2) a o3) a) d o4 = upd H d o4 := by
  funext b
  by_cases hb : b = d
  · subst hb; rw [upd_same, upd_same]
  · rw [upd_ne hb, upd_ne hb]
    by_cases hba : b = a
    · subst hba; rw [del_same, h]
    · rw [del_ne hba, upd_ne hba, upd_ne hb, upd_ne hba]
section
variable {K : PySem.W.Frag} {C : Addr} {f : Str} {σ : St} {H : Hp} {Q : XK}
/-- C() read -/
theorem r_mkN (T : OexC K C) (k : Q (.ref C) none H) : tMkN C (spInitN K C) σ H Q := by
  intro a ha
  refine ⟨a, rfl, T, upd_same, rfl, upd_same, ?_⟩
  rw [upd_del ha]
  exact k
/-- C(x) read -/
theorem r_mkF {x : V} {ta : TA} (T : OexC K C) (hf : PySem.W.findIn K (.ref C) f = some none)
    (h : ta σ H fun vs H1 => ∃ x, vs = [x] ∧ ∀ d, H1 d = none → Q (.ref C) (some d) (upd H1 d (.xd [(f, x)])))
    (mono : ∀ {P P' : List V → Hp → Prop}, (∀ vs H, P vs H → P' vs H) → ta σ H P → ta σ H P') : tMkO C (spInitF K C f) [] ta σ H Q := by
  refine mono (fun vs H1 hq => ?_) h
  obtain ⟨x, rfl, q⟩ := hq
  refine ⟨(by show 1 ≤ 1000; decide), fun a ha => ?_⟩
  refine ⟨a, x, rfl, T, hf, upd_same, fun dx hdx ne => ⟨rfl, dx, [(f, x)], upd_same, ?_, ?_, ?_⟩⟩
  · rw [upd_ne ne, upd_same]
  · rw [upd_ne ne] at hdx; exact hdx
  · rw [upd_three ha ne]
    rw [upd_ne ne] at hdx
    exact q dx hdx
end
end Hg
end L2
end

section
set_option Elab.async false
set_option linter.all false
set_option maxRecDepth 100000
set_option maxHeartbeats 4000000
/-! Promises that hold where no repr is under way (guards empty), and repr of data. -/
namespace L2
namespace Hg
open PySem PySem.Spec PyProof.Rows

/-- a def's promise, asked where no guard is set -/
structure FnG (P : Program) (w : World) (K : PySem.W.Frag) (mg : Str → Option Value) (base : Heap) (CX : CXT) (k : Nat) (f : Addr) (fd : FuncData) (ps : List Str) (sp : Sp) : Prop where
  len : ∀ vs H Q E, sp vs H Q E → vs.length = ps.length
  run : ∀ (A : Around) (outer : List Env) (s : Shared) (H : Hp) (args : Args) (us : List Value) (vs : List V) (Q : VK) (E : XK),
    A.guards = some [] → Room k A → Env0 P w K mg base A outer s H → BindsTo s fd args (ps.zip us) → Vals vs us → sp vs H Q E →
    codeAny (model P w) A (.call (.ref f) args) (CR CX outer P w H s Q E) s

section
variable {P : Program} {w : World} {K : PySem.W.Frag} {mg : Str → Option Value} {base : Heap} {CX : CXT} {j k : Nat} {f : Addr} {fd : FuncData} {ps : List Str} {sp : Sp}
theorem _root_.L2.FnOk.g (F : FnOk P w K mg base CX k f fd ps sp) : FnG P w K mg base CX k f fd ps sp :=
  ⟨F.len, fun A outer s H args us vs Q E _ => F.run A outer s H args us vs Q E⟩

theorem fn_ofG {name qual : Str} {params : Arguments} {body : List Stmt} {scope : Scope} {dV kV doc pm cdv ct oc : Value} {an od : Option Addr}
    {osl : Array (Option Value)} {N : List Str} (lk : K.lookup f = some ⟨oc, od, .func (PySem.W.fnOf name qual params body scope dV kV doc pm an cdv ct), osl⟩)
    (hcd : PySem.W.codeIn K cdv qual = true) (S : FnScope N ps scope)
    (len : ∀ vs H Q E, sp vs H Q E → vs.length = ps.length)
    (hbody : ∀ (A : Around) (outer : List Env) (s : Shared) (H : Hp) (vs : List V) (Q : VK) (E : XK), A.guards = some [] →
      Room k (A.deeper (envOfC qual scope s.heap.objs.size f cdv)) → sp vs H Q E →
      ∃ t, PSs (cxOf CX P w K mg base N qual scope f cdv A outer s H E) body t ∧ t { nx := fun _ H' => Q .non H', rt := Q } (start N vs) H) :
    FnG P w K mg base CX (k + 1) f (PySem.W.fnOf name qual params body scope dV kV doc pm an cdv ct) ps sp := by
  constructor
  · exact len
  intro A outer s H args us vs Q E hgd hr e0 hb r hsp
  have hl := len _ _ _ _ hsp
  have old : ∀ b o, base.get? b = some o → s.heap.get? b = some o := fun b o z => (e0.bs b o z).1
  have KX : K.In s.heap := e0.mod.kin.keeps old
  have lim : s.heap.NoLimit := e0.mod.nolimit.keeps old
  have hkind : ∀ y ∈ ps.zip us, scope.names.lookup y.1 = some .local ∨
      (scope.names.lookup y.1 = some .cell ∧ ((cellsFrom (s.heap.objs.size + 1) scope.names []).lookup y.1).isSome = true) := by
    rintro ⟨n, v⟩ hy
    rcases S.par n (List.of_mem_zip hy).1 with q | q
    · exact Or.inl q
    · exact Or.inr ⟨q, PySem.W.cellsFrom_some _ _ _ (.inl q)⟩
  refine codeAny_call_function hr.depth (KX _ _ lk) rfl S.co S.gen rfl (PySem.W.codeRec_of KX hcd) (hb _ _ _ _ ?_)
  refine wpAny_newFunctionEnv_cells S.kind hkind fun env he s1 x => ?_
  subst he
  refine ⟨lim.keeps x.toInCall.keep, codeAny_func ?_⟩
  obtain ⟨t, ht, hq⟩ := hbody A outer s H vs Q E hgd (hr.deeper _) hsp
  have I : Inv (cxOf CX P w K mg base N qual scope f cdv A outer s H E) [] (start N vs) H s1 := inv_start S hr.hd e0 hl r x
  have fin : ∀ {s' : Shared} {σ' : St} {H' : Hp} {v : V} {u : Value}, Inv (cxOf CX P w K mg base N qual scope f cdv A outer s H E) [] σ' H' s' →
      RelV v u → Q v H' → CE outer P w H s Q u s' := fun J rv q => ⟨_, _, J.os, J.bare, J.base, J.hok, rv, q⟩
  refine wpAny_mono (ht.run [] s1 (start N vs) H _ I hq) (fun fl s' hs => ?_) fun e s' hs => hs
  cases fl with
  | ret u =>
    obtain ⟨v, σ', H', J, rv, q⟩ := hs
    exact fin J rv q
  | next =>
    obtain ⟨σ', H', J, q⟩ := hs
    exact fin (v := V.non) (u := Value.none) J rfl q
  | brk =>
    obtain ⟨_, _, _, q⟩ := hs
    cases q
  | cont =>
    obtain ⟨_, _, _, q⟩ := hs
    cases q

/-- a def of the text, by its body; no error leaves it -/
theorem okG {x qual : Str} {st : Stmt} {N : List Str} (F : Fun K x qual st f fd) (S : FnScope N ps (defScope st)) (len : ∀ vs H Q E, sp vs H Q E → vs.length = ps.length)
    (hbody : ∀ (cdv : Value) (A : Around) (outer : List Env) (s : Shared) (H : Hp) (vs : List V) (Q : VK) (E : XK), A.guards = some [] →
      Room k (A.deeper (envOfC qual (defScope st) s.heap.objs.size f cdv)) → sp vs H Q E →
      ∃ t, PSs (cxOf CX0 P w K mg base N qual (defScope st) f cdv A outer s H E).nox (defBody st) t ∧ t { nx := fun _ H' => Q .non H', rt := Q } (start N vs) H) :
    FnG P w K mg base CX0 (k + 1) f fd ps sp := by
  obtain ⟨oc, od, kV, doc, pm, an, cdv, ct, osl, rfl, lk, hcd⟩ := F.ex
  refine fn_ofG lk hcd S len fun A outer s H vs Q E hg hr hsp => ?_
  obtain ⟨t, h, q⟩ := hbody cdv A outer s H vs Q E hg hr hsp
  exact ⟨t, h.nox, q⟩
end

section
variable {X : Cx} {CX : CXT} {k : Nat} {f C : Addr} {fd : FuncData} {ps : List Str} {sp : Sp} {dvs : List V} {ds : List Value} {E : XK} {x m : Str} {p pos apos : Pos} {e o : Expr} {es : List Expr} {ta : TE} {t : TA}
theorem run_fnG {pins : List (Addr × Obj)} {σ : St} {H : Hp} {s : Shared} {Q : VK} {us : List Value} {vs : List V} (F : FnG X.prog X.w X.K X.mg X.base CX k f fd ps sp)
    (hg : X.A.guards = some []) (hr : Room k X.A) (hb : Binds X.K fd ps ds) (hd : Vals dvs ds) (hx : Passes CX X E)
    (I : Inv X pins σ H s) (r : Vals vs us) (h : sp (vs ++ dvs) H Q E) : wpAny (model X.prog X.w) X.A (call (.ref f) us) (EP X pins σ Q) X.xe s := by
  have r2 : Vals (vs ++ dvs) (us ++ ds) := r.append hd
  have hl : (us ++ ds).length = ps.length := by
    rw [← r2.length]
    exact F.len _ _ _ _ h
  have main := F.run X.A X.stack s H ⟨us, []⟩ (us ++ ds) (vs ++ dvs) Q E hg hr I.env0 (hb s us I.kIn hl) r2 h
  refine wpAny_call (codeAny_mono main fun r s' hq => ?_)
  cases r with
  | error er => exact hx pins σ H s er s' I hq
  | ok fl =>
    cases fl with
    | ret u => exact I.after hq
    | next => exact False.elim hq
    | brk => exact False.elim hq
    | cont => exact False.elim hq
theorem pe_callG (F : FnG X.prog X.w X.K X.mg X.base CX k f fd ps sp) (hgd : X.A.guards = some []) (hr : Room k X.A) (hg : Gl X x) (hm : X.mg x = some (.ref f)) (hk : PySem.W.keepIn X.K (.ref f) = true)
    (hb : Binds X.K fd ps ds) (hd : Vals dvs ds) (hx : Passes CX X E) (ha : PA X (e :: es) t) (hdb : (x == ("__debug__" : Str)) = false := by decide)
    (he : starEach (e :: es) X.env = (false, eval e X.env) :: starEach es X.env := by rfl) (hpl : (backTo pos (starEach es X.env)).any (·.1) = false := by rfl) :
    PE X (.Call (.Name x p) (e :: es) [] pos) (tCall sp dvs E t) := by
  refine ⟨fun pins s σ H Q I h => wpAny_Call_Name_kw (ld_glob I hg hm ?_ hdb)⟩
  exact PySem.W.callWith_K (h₀ := X.base) I.ok.mod.kin hk (thn (ha.run pos pins s σ H _ I h) fun us s1 ⟨vs, H1, I1, r, q⟩ => ⟨I1.kIn, run_fnG F hgd hr hb hd hx I1 r q⟩) he hpl
theorem pe_callG0 (F : FnG X.prog X.w X.K X.mg X.base CX k f fd ps sp) (hgd : X.A.guards = some []) (hr : Room k X.A) (hg : Gl X x) (hm : X.mg x = some (.ref f)) (hk : PySem.W.keepIn X.K (.ref f) = true)
    (hb : Binds X.K fd ps ds) (hd : Vals dvs ds) (hx : Passes CX X E) (hdb : (x == ("__debug__" : Str)) = false := by decide) : PE X (.Call (.Name x p) [] [] pos) (tCall sp dvs E tNil) := by
  refine ⟨fun pins s σ H Q I h => wpAny_Call_Name_kw (ld_glob I hg hm ?_ hdb)⟩
  exact PySem.W.callWith_K0 I.kIn hk (run_fnG (us := []) F hgd hr hb hd hx I .nil h)

/-- repr of data -/
def rRepr (K : PySem.W.Frag) : List V → Hp → VK → Prop := fun vs H Q => ∃ x d, vs = [x] ∧ Dp K H x d ∧ d.showable = true ∧ d.hasDict = false ∧ d.depth ≤ 60 ∧ d.shown.length ≤ sizeLine ∧ Q (.str d.shown) H
theorem call_repr (hgd : X.A.guards = some []) (hr : X.A.units + 64 < cLine) : CallR X (.builtin "repr") (rRepr X.K) := by
  intro pins s σ H vs us Q I r h
  obtain ⟨x, d, rfl, hd, hs, hn, hz, hl, q⟩ := h
  obtain ⟨u, rfl, rx⟩ := vals1 r
  obtain ⟨as, rd⟩ := Dp.reads I d x u hd rx
  cases d with
  | none => cases rd; exact PySem.P.repr_of_none ⟨.str _, H, I.tok _, ⟨_, rfl⟩, q⟩
  | bool b => cases rd; exact PySem.P.repr_of_bool ⟨.str _, H, I.tok _, ⟨_, rfl⟩, q⟩
  | int i => cases rd; exact PySem.P.repr_of_int (by simpa [PyData.showable] using hs) ⟨.str _, H, I.tok _, ⟨_, rfl⟩, q⟩
  | str y => cases rd; exact PySem.P.repr_of_str ⟨.str _, H, I.tok _, ⟨_, rfl⟩, q⟩ hl
  | list xs =>
    have hh := hd
    cases hh
    cases (show u = Value.ref _ from rx)
    exact repr_of_reads' rd hs (PyData.noDict_hsm hn) hgd (by omega) (fun _ _ z => z) (fun h' u tk hk => ⟨.str _, H, I.kept (t' := tk) hk, ⟨u, rfl⟩, q⟩) hl
  | tuple xs =>
    have hh := hd
    cases hh
    cases (show u = Value.ref _ from rx)
    exact repr_of_reads' rd hs (PyData.noDict_hsm hn) hgd (by omega) (fun _ _ z => z) (fun h' u tk hk => ⟨.str _, H, I.kept (t' := tk) hk, ⟨u, rfl⟩, q⟩) hl
  | dict _ => cases hn
end
end Hg
end L2
end

section
set_option Elab.async false
set_option linter.all false
set_option maxRecDepth 100000
set_option maxHeartbeats 4000000
/-! One rule an operator, for all the kinds that the package uses; readings in steps. -/
namespace L2
namespace Hg
open PySem PySem.Spec PyProof.Rows

/-! ### operators by values -/
def uAddI : R2 := rI0 fun i j => .int (i + j)
def uAddS : R2 := fun x y H Q => ∃ i j, x = .str i ∧ y = .str j ∧ i.length + j.length ≤ sizeLine ∧ Q (.str (i ++ j)) H
def uAdd (K : PySem.W.Frag) : R2 := fun x y H Q => uAddI x y H Q ∨ uAddS x y H Q ∨ rCat x y H Q ∨ rCatT K x y H Q
def uSub : R2 := rI0 fun i j => .int (i - j)
def uMul : R2 := fun x y H Q => rI CMul (fun i j => .int (i * j)) x y H Q ∨ rI CMulW (fun i j => .int (i * j)) x y H Q ∨ rRep x y H Q
def uDiv : R2 := fun x y H Q => rI CDiv (fun i j => .int (i / j)) x y H Q ∨ rI CDivW (fun i j => .int (i / j)) x y H Q
def uMod : R2 := rI (fun _ j => 0 < j) fun i j => .int (i % j)
def uPow : R2 := rI CPow fun i j => .int (i ^ j.toNat)
def uLt : R2 := rI0 fun i j => .bl (decide (i < j))
def uLe : R2 := rI0 fun i j => .bl (decide (i ≤ j))
def uGt : R2 := rI0 fun i j => .bl (decide (j < i))
def uGe : R2 := rI0 fun i j => .bl (decide (j ≤ i))
def uEq (K : PySem.W.Frag) : R2 := fun x y H Q => rEq x y H Q ∨ rEqD K x y H Q
def uNe (K : PySem.W.Frag) : R2 := fun x y H Q => rNe x y H Q ∨ rNeD K x y H Q
def uIn (K : PySem.W.Frag) : R2 := fun x y H Q => rIn K false x y H Q ∨ rInS x y H Q
def uNotIn (K : PySem.W.Frag) : R2 := fun x y H Q => rIn K true x y H Q ∨ rNotInS x y H Q
section
variable {X : Cx}
theorem o_add (K : PySem.W.Frag) (hK : X.K = K := by rfl) : OpR X (binaryOp .Add) (uAdd K) := hK ▸ OpR.or op_add (OpR.or op_add_str (OpR.or op_cat op_catT))
theorem o_sub : OpR X (binaryOp .Sub) uSub := op_sub
theorem o_mul : OpR X (binaryOp .Mult) uMul := OpR.or op_mul (OpR.or op_mulW op_rep)
theorem o_div : OpR X (binaryOp .FloorDiv) uDiv := OpR.or op_fdiv op_fdivW
theorem o_mod : OpR X (binaryOp .Mod) uMod := op_mod
theorem o_pow : OpR X (binaryOp .Pow) uPow := op_pow
theorem o_lt : OpR X (compareOp .Lt) uLt := op_lt
theorem o_le : OpR X (compareOp .LtE) uLe := op_le
theorem o_gt : OpR X (compareOp .Gt) uGt := op_gt
theorem o_ge : OpR X (compareOp .GtE) uGe := op_ge
theorem o_eq (K : PySem.W.Frag) (hu : X.A.units + 64 < cLine) (hK : X.K = K := by rfl) : OpR X (compareOp .Eq) (uEq K) := hK ▸ OpR.or op_eq (op_eqD hu)
theorem o_ne (K : PySem.W.Frag) (hu : X.A.units + 64 < cLine) (hK : X.K = K := by rfl) : OpR X (compareOp .NotEq) (uNe K) := hK ▸ OpR.or op_ne (op_neD hu)
theorem o_in (K : PySem.W.Frag) (hK : X.K = K := by rfl) : OpR X (compareOp .In) (uIn K) := hK ▸ OpR.or op_in_seq op_inS
theorem o_notIn (K : PySem.W.Frag) (hK : X.K = K := by rfl) : OpR X (compareOp .NotIn) (uNotIn K) := hK ▸ OpR.or op_notIn_seq op_notInS
theorem o_is : OpR X (compareOp .Is) rIsN := op_isN1
theorem o_isNot : OpR X (compareOp .IsNot) rNotN := op_notN1
theorem ix_u (K : PySem.W.Frag) (hK : X.K = K := by rfl) : IxR X (rIx K) := hK ▸ ix_seq
end

/-! ### calls of built-ins by values -/
def uLen (K : PySem.W.Frag) : List V → Hp → VK → Prop := fun xs H Q => (∃ x n, xs = [x] ∧ LenV K x H n ∧ Q (.int n) H) ∨ ∃ a kvs, xs = [V.ref a] ∧ H a = some (.dK kvs) ∧ Q (.int kvs.length) H
def uAbs : List V → Hp → VK → Prop := fun xs H Q => ∃ i, xs = [.int i] ∧ Q (.int (if i < 0 then -i else i)) H
def uMin2 : List V → Hp → VK → Prop := fun xs H Q => ∃ i j, xs = [.int i, .int j] ∧ Q (.int (if j < i then j else i)) H
def uMax2 : List V → Hp → VK → Prop := fun xs H Q => ∃ i j, xs = [.int i, .int j] ∧ Q (.int (if j > i then j else i)) H
def uInt : List V → Hp → VK → Prop := fun xs H Q => ((∃ i, xs = [.int i] ∧ Q (.int i) H) ∨ ∃ k, xs = [.bl k] ∧ Q (.int (if k then 1 else 0)) H) ∨ ∃ a n, xs = [.str a] ∧ PySem.intText? a = some n ∧ a.length ≤ 640 ∧ Q (.int n) H
def uList (K : PySem.W.Frag) : List V → Hp → VK → Prop := fun xs H Q => ∃ p ys, xs = [.ref p] ∧ (SqL K H p ys ∨ SqT K H p ys) ∧ ∀ l, H l = none → Q (.ref l) (upd H l (.lst ys))
def uTuple (K : PySem.W.Frag) : List V → Hp → VK → Prop := fun xs H Q => ∃ p ys, xs = [.ref p] ∧ ((SqL K H p ys ∧ ∀ l, H l = none → Q (.ref l) (upd H l (.tup ys))) ∨ (SqT K H p ys ∧ Q (.ref p) H))
section
variable {X : Cx}
theorem c_len (K : PySem.W.Frag) (hK : X.K = K := by rfl) : CallR X (.builtin "len") (uLen K) := hK ▸ CallR.or call_len call_lenD
theorem c_abs : CallR X (.builtin "abs") uAbs := call_abs
theorem c_min2 (hc : X.calm = true) : CallR X (.builtin "min") uMin2 := call_min2 hc
theorem c_max2 (hc : X.calm = true) : CallR X (.builtin "max") uMax2 := call_max2 hc
theorem c_int : CallR X (.type "int") uInt := CallR.or call_int1 call_int_str
theorem c_list (K : PySem.W.Frag) (hK : X.K = K := by rfl) : CallR X (.type "list") (uList K) := hK ▸ call_list_of
theorem c_tuple (K : PySem.W.Frag) (hK : X.K = K := by rfl) : CallR X (.type "tuple") (uTuple K) := hK ▸ call_tuple_of
theorem c_isi (K : PySem.W.Frag) (hK : X.K = K := by rfl) : CallR X (.builtin "isinstance") (rIsi K) := hK ▸ call_isi
theorem c_isiT (K : PySem.W.Frag) (hK : X.K = K := by rfl) : CallR X (.builtin "isinstance") (rIsiT K) := hK ▸ call_isiT
theorem c_repr (K : PySem.W.Frag) (hgd : X.A.guards = some []) (hr : X.A.units + 64 < cLine) (hK : X.K = K := by rfl) : CallR X (.builtin "repr") (rRepr K) := hK ▸ call_repr hgd hr
theorem c_sum (K : PySem.W.Frag) (hc : X.calm = true) (hK : X.K = K := by rfl) : CallR X (.builtin "sum") (rSum K) := hK ▸ cr_sum hc
theorem c_all (K : PySem.W.Frag) (hc : X.calm = true) (hK : X.K = K := by rfl) : CallR X (.builtin "all") (rAll K) := hK ▸ cr_all hc
theorem c_any (K : PySem.W.Frag) (hc : X.calm = true) (hK : X.K = K := by rfl) : CallR X (.builtin "any") (rAny K) := hK ▸ cr_any hc
end

/-! ### names of the module -/
section
variable {X : Cx} {x : Str} {pos : Pos}
theorem pe_gI {i : Int} (hg : Gl X x) (hm : ∃ t, X.mg x = some (.int i t)) (hd : (x == ("__debug__" : Str)) = false := by decide) : PE X (.Name x pos) (tC (.int i)) :=
  let ⟨_, h⟩ := hm
  pe_glob hg h ⟨_, rfl⟩ hd
theorem pe_gS {z : Str} (hg : Gl X x) (hm : ∃ t, X.mg x = some (.str z t)) (hd : (x == ("__debug__" : Str)) = false := by decide) : PE X (.Name x pos) (tC (.str z)) :=
  let ⟨_, h⟩ := hm
  pe_glob hg h ⟨_, rfl⟩ hd
theorem pe_gR {a : Addr} (hg : Gl X x) (hm : X.mg x = some (.ref a)) (hd : (x == ("__debug__" : Str)) = false := by decide) : PE X (.Name x pos) (tC (.ref a)) :=
  pe_glob hg hm rfl hd
theorem pe_bT {T : String} (hg : Gl X x) (hm : X.mg x = none) (hv : bootBuiltins x = some (.type T)) (hn : x ≠ "__name__" := by decide) (hd : (x == ("__debug__" : Str)) = false := by decide) : PE X (.Name x pos) (tC (.ty T)) :=
  pe_bltn hg hm hv rfl hn hd
end

/-! ### the written part by its name -/
section
variable {X : Cx} {a : Expr} {ta : TE} {K : PySem.W.Frag}
def tTr (K : PySem.W.Frag) (ta : TE) : TT := fun σ H Q => ta σ H fun x H' => ∃ k, TruV K x H' k ∧ Q k H'
theorem pt_tr (K : PySem.W.Frag) (ha : PE X a ta) (he : ∀ whole, isTrue a X.env whole = (do let v ← whole; standAt a.pos; holding [v] (truthy v)) := by intro _; rfl) (hK : X.K = K := by rfl) :
    PT X a (tTr K ta) := hK ▸ pt_truth ha he
theorem pe_fl {e : Expr} {f : Str} {pos : Pos} (K : PySem.W.Frag) (ha : PE X e ta) (hb : attributeBase e f X.env (eval e X.env) = eval e X.env := by rfl) (hK : X.K = K := by rfl) : PE X (.Attribute e f pos) (tFld K ta f) := hK ▸ pe_fld ha hb
theorem ps_fl {o value : Expr} {f : Str} {pos' pos : Pos} {tv : TE} (K : PySem.W.Frag) (ho : PE X o ta) (hv : PE X value tv) (hs : swapsWith value (some (.Attribute o f pos')) pos.line X.env = pure false := by rfl) (hK : X.K = K := by rfl) :
    PS X (.Assign [.Attribute o f pos'] value pos) (sFld K ta tv f) := hK ▸ ps_fld ho hv hs
end

section
variable {X : Cx} {tg e : Expr} {t : TE}
theorem pi_l (K : PySem.W.Frag) (ha : PE X e t) (hK : X.K = K := by rfl) : PI X tg e (iList K t) := hK ▸ pi_list ha
theorem pg_l {es : List Expr} {k n : Nat} {t : TGs} {pos : Pos} (K : PySem.W.Frag) (hc : X.calm = true) (h : PGs X es t) (hn : (assignEach es X.env).length = n := by rfl) (hst : (assignEach es X.env).findIdx? (·.1) = none := by rfl) (hK : X.K = K := by rfl) :
    PG X (.Tuple es k pos) (gLst K n t) := hK ▸ pg_lst hc h hn hst
theorem pg_t {es : List Expr} {k n : Nat} {t : TGs} {pos : Pos} (K : PySem.W.Frag) (hc : X.calm = true) (h : PGs X es t) (hn : (assignEach es X.env).length = n := by rfl) (hst : (assignEach es X.env).findIdx? (·.1) = none := by rfl) (hK : X.K = K := by rfl) :
    PG X (.Tuple es k pos) (gTup K n t) := hK ▸ pg_tup hc h hn hst
theorem pi_t (K : PySem.W.Frag) (ha : PE X e t) (hK : X.K = K := by rfl) : PI X tg e (iTup K t) := hK ▸ pi_tup ha
end
/-! ### errors that pass -/
section
variable {X : Cx}
theorem passF {P : Program} {w : World} : Passes (L2.CX P w) X E0 := by
  intro pins σ H s e s' I c
  obtain ⟨a, B, H', cls, d, _, _, _, _, _, _, _, h⟩ := c
  exact h.elim
theorem passT {E : XK} (tk : Takes X (fun cls d _ H => E cls d H)) : Passes (L2.CX X.prog X.w) X E := passes_call tk fun _ _ _ _ z => z
variable {CX : CXT} {k : Nat} {f C : Addr} {fd : FuncData} {ps : List Str} {sp : Sp} {dvs : List V} {ds : List Value} {E : St → XK} {x m : Str} {p pos apos : Pos} {e o : Expr} {es : List Expr} {ta : TE} {t : TA}
/-- C(..) where what is raised is wished at the slots -/
def tMakeS (C : Addr) (sp : Sp) (dvs : List V) (E : St → XK) (t : TA) : TE := fun σ H Q => t σ H fun vs H1 => ∀ x dx, H1 x = none → H1 dx = none → dx ≠ x →
  sp (.ref x :: (vs ++ dvs)) (upd (upd H1 dx (.own x)) x (.ins C dx [])) (fun v H2 => v = .non ∧ Q (.ref x) H2) (E σ)
theorem run_makeS {pins : List (Addr × Obj)} {σ : St} {H : Hp} {s : Shared} {Q : VK} {us : List Value} {vs : List V} (M : Mk X.K C f) (F : FnOk X.prog X.w X.K X.mg X.base CX k f fd ps sp) (hr : Room (k + 1) X.A)
    (hb : Binds X.K fd ps ds) (hd : Vals dvs ds) (hx : PassesAt CX X σ (E σ)) (I : Inv X pins σ H s) (r : Vals vs us)
    (h : ∀ x dx, H x = none → H dx = none → dx ≠ x → sp (.ref x :: (vs ++ dvs)) (upd (upd H dx (.own x)) x (.ins C dx [])) (fun v H2 => v = .non ∧ Q (.ref x) H2) (E σ)) :
    wpAny (model X.prog X.w) X.A (call (.ref C) us) (EP X pins σ Q) X.xe s := by
  have hq := h (s.heap.objs.size + 1) s.heap.objs.size (I.hok.fresh (Nat.le_succ _)) (I.hok.fresh (Nat.le_refl _)) (Nat.ne_of_lt (Nat.lt_succ_self _))
  have I2 := Inv.made (C := C) I
  have r2 : Vals (V.ref (s.heap.objs.size + 1) :: (vs ++ dvs)) (Value.ref (s.heap.objs.size + 1) :: (us ++ ds)) := .cons rfl (r.append hd)
  have hl : (Value.ref (s.heap.objs.size + 1) :: us ++ ds).length = ps.length := by
    have z := r2.length
    rw [F.len _ _ _ _ hq] at z
    exact z.symm
  have main := F.run _ X.stack _ _ ⟨Value.ref (s.heap.objs.size + 1) :: us, []⟩ (Value.ref (s.heap.objs.size + 1) :: (us ++ ds)) _ _ (E σ) (hr.make C us [])
    (I2.env0.make C us []) (hb _ (Value.ref (s.heap.objs.size + 1) :: us) I2.kIn hl) r2 hq
  refine wpAny_call (make_map (f := f) I.kIn M.makes M.init (beq_iff_eq.mp M.fn) (codeAny_mono main fun r s' hq' => ?_))
  cases r with
  | error er => exact hx pins _ _ er s' I2 hq'
  | ok fl =>
    cases fl with
    | ret u =>
      obtain ⟨v, H', I3, rv, ev, q3⟩ := I2.after hq'
      subst ev
      exact ⟨rv, ⟨V.ref (s.heap.objs.size + 1), H', I3, rfl, q3⟩⟩
    | next => exact False.elim hq'
    | brk => exact False.elim hq'
    | cont => exact False.elim hq'
theorem pe_makeS (M : Mk X.K C f) (F : FnOk X.prog X.w X.K X.mg X.base CX k f fd ps sp) (hr : Room (k + 1) X.A) (hg : Gl X x) (hm : X.mg x = some (.ref C)) (hb : Binds X.K fd ps ds) (hd : Vals dvs ds) (hx : ∀ σ, PassesAt CX X σ (E σ))
    (ha : PA X (e :: es) t) (hdb : (x == ("__debug__" : Str)) = false := by decide) (he : starEach (e :: es) X.env = (false, eval e X.env) :: starEach es X.env := by rfl) (hpl : (backTo pos (starEach es X.env)).any (·.1) = false := by rfl) :
    PE X (.Call (.Name x p) (e :: es) [] pos) (tMakeS C sp dvs E t) := by
  refine ⟨fun pins s σ H Q I h => wpAny_Call_Name_kw (ld_glob I hg hm ?_ hdb)⟩
  exact PySem.W.callWith_K (h₀ := X.base) I.ok.mod.kin M.kp (thn (ha.run pos pins s σ H _ I h) fun us s1 ⟨vs, H1, I1, r, q⟩ => ⟨I1.kIn, run_makeS M F hr hb hd (hx σ) I1 r q⟩) he hpl
end
end Hg
end L2
end

section
set_option Elab.async false
set_option linter.all false
set_option maxRecDepth 100000
set_option maxHeartbeats 4000000
/-! Readings, one step each (each is a reading's own definition, turned into a rule to be applied backwards). -/
namespace L2
namespace Hg
open PySem PySem.Spec PyProof.Rows
section
variable {K : PySem.W.Frag} {σ : St} {H : Hp} {Q : VK} {QB : Bool → Hp → Prop} {QL : List V → Hp → Prop} {QS : St → Hp → Prop} {D : Ends} {v x y : V} {i j : Nat} {ta tb tc te : TE} {t u : TT} {tl tr : TA} {ts t1 t2 : TS}
theorem sz {n : Nat} (h : n ≤ 100000) : n ≤ sizeLine := Nat.le_trans h (by decide)
theorem szl {n : Nat} (h : Nat.ble n 100000 = true) : n ≤ sizeLine := sz (Nat.le_of_ble_eq_true h)
theorem szlt {n : Nat} (h : Nat.ble n 100000 = true) : n < sizeLine := Nat.lt_of_le_of_lt (Nat.le_of_ble_eq_true h) (by decide : 100000 < sizeLine)
theorem at_upd {p q : Addr} {o u : HO} (n : q ≠ p) (h : H q = some o) : upd H p u q = some o := (upd_ne n).trans h
theorem free_upd {p q : Addr} {o : HO} (h : upd H p o q = none) : H q = none ∧ q ≠ p := by
  by_cases e : q = p
  · subst e; rw [upd_same] at h; cases h
  · exact ⟨(upd_ne e).symm.trans h, e⟩
/-! ### expressions -/
theorem r_var (h : σ[i]? = some (some v)) (k : Q v H) : tVar i σ H Q := ⟨v, h, k⟩
theorem r_c (k : Q v H) : tC v σ H Q := k
theorem r_op {r : R2} (k : ta σ H fun x H1 => tb σ H1 fun y H2 => r x y H2 Q) : tOp r ta tb σ H Q := k
theorem r_un {r : V → Hp → VK → Prop} (k : ta σ H fun x H1 => r x H1 Q) : tUn r ta σ H Q := k
theorem r_neg {a : Int} (k : Q (.int (-a)) H) : (rU fun i => .int (-i)) (.int a) H Q := ⟨a, rfl, k⟩
theorem r_cb {r : List V → Hp → VK → Prop} (k : tl σ H fun vs H1 => r vs H1 Q) : tCB r tl σ H Q := k
theorem r_nil (k : QL [] H) : tNil σ H QL := k
theorem r_cons (k : ta σ H fun x H1 => tr σ H1 fun xs H2 => QL (x :: xs) H2) : tCons ta tr σ H QL := k
theorem r_call {sp : Sp} {dvs : List V} {E : XK} (k : tl σ H fun vs H1 => sp (vs ++ dvs) H1 Q E) : tCall sp dvs E tl σ H Q := k
theorem r_callS {sp : Sp} {E : St → XK} (k : tl σ H fun vs H1 => sp vs H1 Q (E σ)) : tCallS sp E tl σ H Q := k
theorem r_tup (k : tl σ H fun xs H1 => xs.length ≤ sizeLine ∧ ∀ p, H1 p = none → Q (.ref p) (upd H1 p (.tup xs))) : tTup tl σ H Q := k
theorem r_lst (k : tl σ H fun xs H1 => xs.length ≤ sizeLine ∧ ∀ p, H1 p = none → Q (.ref p) (upd H1 p (.lst xs))) : tLst tl σ H Q := k
theorem r_if (k : t σ H fun c H1 => if c = true then ta σ H1 Q else tb σ H1 Q) : tIf t ta tb σ H Q := k
theorem r_test (k : te σ H fun x H' => ∃ c, x = .bl c ∧ QB c H') : tTest te σ H QB := k
theorem r_B (k : te σ H fun x H' => ∃ c, x = .bl c ∧ QB c H') : tB te σ H QB := k
theorem r_bl {b : Bool} {R : Bool → Prop} (k : R b) : ∃ c, V.bl b = .bl c ∧ R c := ⟨b, rfl, k⟩
theorem r_tru {b : Bool} {R : Bool → Prop} (k : R b) : ∃ c, TruV K (.bl b) H c ∧ R c := ⟨b, rfl, k⟩
theorem r_trK (k : te σ H fun x H' => ∃ c, TruV K x H' c ∧ QB c H') : tTr K te σ H QB := k
theorem r_and (k : t σ H fun c H1 => if c = true then u σ H1 QB else QB false H1) : tAnd t u σ H QB := k
theorem r_or (k : t σ H fun c H1 => if c = true then QB true H1 else u σ H1 QB) : tOr t u σ H QB := k
theorem r_not (k : t σ H fun c H1 => QB (!c) H1) : tNot t σ H QB := k
theorem r_andV (k : ta σ H fun x H1 => ∃ c, x = .bl c ∧ if c = true then tb σ H1 Q else Q (.bl false) H1) : tAndV ta tb σ H Q := k
theorem r_orV (k : ta σ H fun x H1 => ∃ c, x = .bl c ∧ if c = true then Q (.bl true) H1 else tb σ H1 Q) : tOrV ta tb σ H Q := k
theorem r_notV (k : ta σ H fun x H1 => ∃ c, x = .bl c ∧ Q (.bl (!c)) H1) : tNotV ta σ H Q := k
theorem r_chain {r r' : R2} (k : ta σ H fun x H1 => tb σ H1 fun y H2 => r x y H2 fun z H3 => ∃ c, z = .bl c ∧ (if c = true then tc σ H3 fun w H4 => r' y w H4 Q else Q (.bl false) H3)) : tChain r r' ta tb tc σ H Q := k
theorem r_ite {c : Bool} {A B : Prop} (h1 : c = true → A) (h2 : c = false → B) : if c = true then A else B := by
  cases c with
  | true => exact h1 rfl
  | false => exact h2 rfl
theorem r_T {A B : Prop} (h : A) : if true = true then A else B := h
theorem r_F {A B : Prop} (h : B) : if false = true then A else B := h
theorem r_nT {A B : Prop} (h : A) : if (!false) = true then A else B := h
theorem r_nF {A B : Prop} (h : B) : if (!true) = true then A else B := h
theorem r_Td {c : Prop} [Decidable c] {A B : Prop} (hc : c) (h : A) : if decide c = true then A else B := by rw [decide_eq_true hc]; exact h
theorem r_Fd {c : Prop} [Decidable c] {A B : Prop} (hc : ¬ c) (h : B) : if decide c = true then A else B := by rw [decide_eq_false hc]; exact h
theorem r_id {c : Prop} [Decidable c] {A B : Prop} (h1 : c → A) (h2 : ¬ c → B) : if decide c = true then A else B := by
  by_cases h : c
  · exact r_Td h (h1 h)
  · exact r_Fd h (h2 h)
/-! ### operators by values -/
theorem r_I0 {g : Int → Int → V} {a b : Int} (k : Q (g a b) H) : rI0 g (.int a) (.int b) H Q := ⟨a, b, rfl, rfl, k⟩
theorem r_I {C : Int → Int → Prop} {g : Int → Int → V} {a b : Int} (c : C a b) (k : Q (g a b) H) : rI C g (.int a) (.int b) H Q := ⟨a, b, rfl, rfl, c, k⟩
theorem r_addI {a b : Int} (k : Q (.int (a + b)) H) : uAdd K (.int a) (.int b) H Q := .inl ⟨a, b, rfl, rfl, k⟩
theorem r_addS {a b : Str} (z : a.length + b.length ≤ sizeLine) (k : Q (.str (a ++ b)) H) : uAdd K (.str a) (.str b) H Q := .inr (.inl ⟨a, b, rfl, rfl, z, k⟩)
theorem r_addL {a b : Addr} {xs ys : List V} (ha : H a = some (.lst xs)) (hb : H b = some (.lst ys)) (z : xs.length + ys.length ≤ sizeLine) (k : ∀ p, H p = none → Q (.ref p) (upd H p (.lst (xs ++ ys)))) : uAdd K (.ref a) (.ref b) H Q :=
  .inr (.inr (.inl ⟨a, b, xs, ys, rfl, rfl, ha, hb, z, k⟩))
theorem r_addT {a b : Addr} {xs ys : List V} (ha : SqT K H a xs) (hb : SqT K H b ys) (ne : xs ≠ []) (z : xs.length + ys.length ≤ sizeLine) (k0 : ys = [] → Q (.ref a) H) (k : ys ≠ [] → ∀ p, H p = none → Q (.ref p) (upd H p (.tup (xs ++ ys)))) : uAdd K (.ref a) (.ref b) H Q :=
  .inr (.inr (.inr ⟨a, b, xs, ys, rfl, rfl, ha, hb, ne, z, k0, k⟩))
theorem r_sub {a b : Int} (k : Q (.int (a - b)) H) : uSub (.int a) (.int b) H Q := ⟨a, b, rfl, rfl, k⟩
theorem r_mul {a b : Int} (c : CMul a b) (k : Q (.int (a * b)) H) : uMul (.int a) (.int b) H Q := .inl ⟨a, b, rfl, rfl, c, k⟩
theorem r_mulW {a b : Int} (c : CMulW a b) (k : Q (.int (a * b)) H) : uMul (.int a) (.int b) H Q := .inr (.inl ⟨a, b, rfl, rfl, c, k⟩)
theorem r_rep {a : Addr} {n : Int} {xs : List V} (ha : H a = some (.lst xs)) (h0 : -(2 ^ 63) ≤ n) (h1 : n < 2 ^ 63) (z : xs.length * n.toNat ≤ sizeLine) (k : ∀ p, H p = none → Q (.ref p) (upd H p (.lst (List.replicate n.toNat xs).flatten))) : uMul (.ref a) (.int n) H Q :=
  .inr (.inr ⟨a, n, xs, rfl, rfl, ha, h0, h1, z, k⟩)
theorem cmulL {a b : Int} (h : -(2 ^ 64) < a ∧ a < 2 ^ 64) : CMul a b := .inl h
theorem cmulR {a b : Int} (h : -(2 ^ 64) < b ∧ b < 2 ^ 64) : CMul a b := .inr h
theorem r_div {a b : Int} (h0 : 0 < b) (h1 : b < 1073741824) (k : Q (.int (a / b)) H) : uDiv (.int a) (.int b) H Q := .inl ⟨a, b, rfl, rfl, ⟨h0, h1⟩, k⟩
theorem r_divW {a b : Int} (c : CDivW a b) (k : Q (.int (a / b)) H) : uDiv (.int a) (.int b) H Q := .inr ⟨a, b, rfl, rfl, c, k⟩
theorem r_mod {a b : Int} (h0 : 0 < b) (k : Q (.int (a % b)) H) : uMod (.int a) (.int b) H Q := ⟨a, b, rfl, rfl, h0, k⟩
theorem r_pow {a b : Int} (c : CPow a b) (k : Q (.int (a ^ b.toNat)) H) : uPow (.int a) (.int b) H Q := ⟨a, b, rfl, rfl, c, k⟩
theorem r_lt {a b : Int} (k : Q (.bl (decide (a < b))) H) : uLt (.int a) (.int b) H Q := ⟨a, b, rfl, rfl, k⟩
theorem r_le {a b : Int} (k : Q (.bl (decide (a ≤ b))) H) : uLe (.int a) (.int b) H Q := ⟨a, b, rfl, rfl, k⟩
theorem r_gt {a b : Int} (k : Q (.bl (decide (b < a))) H) : uGt (.int a) (.int b) H Q := ⟨a, b, rfl, rfl, k⟩
theorem r_ge {a b : Int} (k : Q (.bl (decide (b ≤ a))) H) : uGe (.int a) (.int b) H Q := ⟨a, b, rfl, rfl, k⟩
theorem r_eq (s : scal x y = true) (k : Q (.bl (decide (x = y))) H) : uEq K x y H Q := .inl ⟨s, k⟩
theorem r_eqD {d e : PyData} (hd : Dp K H x d) (he : Dp K H y e) (sd : SeqAt.shaped d = true) (se : SeqAt.shaped e = true) (k : Q (.bl (PyData.eqv d e)) H) : uEq K x y H Q := .inr ⟨d, e, hd, he, sd, se, k⟩
theorem r_ne (s : scal x y = true) (k : Q (.bl (!decide (x = y))) H) : uNe K x y H Q := .inl ⟨s, k⟩
theorem r_neD {d e : PyData} (hd : Dp K H x d) (he : Dp K H y e) (sd : SeqAt.shaped d = true) (se : SeqAt.shaped e = true) (k : Q (.bl (!PyData.eqv d e)) H) : uNe K x y H Q := .inr ⟨d, e, hd, he, sd, se, k⟩
theorem r_isN (k : Q (.bl (decide (x = .non))) H) : rIsN x .non H Q := ⟨rfl, k⟩
theorem r_notN (k : Q (.bl (!decide (x = .non))) H) : rNotN x .non H Q := ⟨rfl, k⟩
theorem r_inQ {p : Addr} {xs : List V} (h : SqL K H p xs ∨ SqT K H p xs) (fx : flatV x = true) (fs : xs.all flatV = true) (k : Q (.bl (inV x xs)) H) : uIn K x (.ref p) H Q := .inl ⟨p, xs, rfl, h, fx, fs, k⟩
theorem r_inS {c : Nat} {z : Str} (k : Q (.bl (decide (c ∈ z.cps.toList))) H) : uIn K (.str ⟨#[c]⟩) (.str z) H Q := .inr ⟨c, z, rfl, rfl, k⟩
theorem r_ninQ {p : Addr} {xs : List V} (h : SqL K H p xs ∨ SqT K H p xs) (fx : flatV x = true) (fs : xs.all flatV = true) (k : Q (.bl (!inV x xs)) H) : uNotIn K x (.ref p) H Q := .inl ⟨p, xs, rfl, h, fx, fs, k⟩
/-- xs[i] of a list that stands in H (ixL), of any list or tuple that may be read -/
theorem r_ixL {p : Addr} {n : Int} {xs : List V} (h : SqL K H p xs) (ha : atI xs n = some v) (k : Q v H) : rIx K (.ref p) (.int n) H Q := .inl ⟨p, xs, n, v, rfl, rfl, h, ha, k⟩
theorem r_ixT {p : Addr} {n : Int} {xs : List V} (h : SqT K H p xs) (ha : atI xs n = some v) (k : Q v H) : rIx K (.ref p) (.int n) H Q := .inr (.inl ⟨p, xs, n, v, rfl, rfl, h, ha, k⟩)
theorem r_ixS {z : Str} {n : Int} {c : Nat} (h : z.length ≤ sizeLine) (ha : atI z.cps.toList n = some c) (k : Q (.str ⟨#[c]⟩) H) : rIx K (.str z) (.int n) H Q := .inr (.inr ⟨z, n, c, rfl, rfl, h, ha, k⟩)
/-! ### built-ins by values -/
theorem r_lenL {p : Addr} {xs : List V} (h : SqL K H p xs) (k : Q (.int (xs.length : Nat)) H) : uLen K [.ref p] H Q := .inl ⟨_, _, rfl, .inl ⟨xs, h, rfl⟩, k⟩
theorem r_lenT {p : Addr} {xs : List V} (h : SqT K H p xs) (k : Q (.int (xs.length : Nat)) H) : uLen K [.ref p] H Q := .inl ⟨_, _, rfl, .inr ⟨xs, h, rfl⟩, k⟩
theorem r_lenS {z : Str} (h : z.length ≤ sizeLine) (k : Q (.int (z.length : Nat)) H) : uLen K [.str z] H Q := .inl ⟨_, _, rfl, ⟨h, rfl⟩, k⟩
theorem r_lenD {p : Addr} {kvs : List (Key × V)} (h : H p = some (.dK kvs)) (k : Q (.int (kvs.length : Nat)) H) : uLen K [.ref p] H Q := .inr ⟨p, kvs, rfl, h, k⟩
theorem r_abs {a : Int} (k : Q (.int (if a < 0 then -a else a)) H) : uAbs [.int a] H Q := ⟨a, rfl, k⟩
theorem r_min2 {a b : Int} (k : Q (.int (if b < a then b else a)) H) : uMin2 [.int a, .int b] H Q := ⟨a, b, rfl, k⟩
theorem r_max2 {a b : Int} (k : Q (.int (if b > a then b else a)) H) : uMax2 [.int a, .int b] H Q := ⟨a, b, rfl, k⟩
theorem r_intI {a : Int} (k : Q (.int a) H) : uInt [.int a] H Q := .inl (.inl ⟨a, rfl, k⟩)
theorem r_intB {b : Bool} (k : Q (.int (if b then 1 else 0)) H) : uInt [.bl b] H Q := .inl (.inr ⟨b, rfl, k⟩)
theorem r_list {p : Addr} {xs : List V} (h : SqL K H p xs ∨ SqT K H p xs) (k : ∀ l, H l = none → Q (.ref l) (upd H l (.lst xs))) : uList K [.ref p] H Q := ⟨p, xs, rfl, h, k⟩
theorem r_tupL {p : Addr} {xs : List V} (h : SqL K H p xs) (k : ∀ l, H l = none → Q (.ref l) (upd H l (.tup xs))) : uTuple K [.ref p] H Q := ⟨p, xs, rfl, .inl ⟨h, k⟩⟩
theorem r_tupT {p : Addr} {xs : List V} (h : SqT K H p xs) (k : Q (.ref p) H) : uTuple K [.ref p] H Q := ⟨p, xs, rfl, .inr ⟨h, k⟩⟩
theorem r_isi {c : V} {t u : Value} {b : Bool} (hc : ClsV c u) (ht : TyX K H x t) (hk : PySem.W.kitOne K t u = some b) (k : Q (.bl b) H) : rIsi K [x, c] H Q := ⟨x, c, t, u, b, rfl, hc, ht, hk, k⟩
theorem r_repr {d : PyData} (hd : Dp K H x d) (hs : d.showable = true) (hn : d.hasDict = false) (hz : d.depth ≤ 60) (hl : d.shown.length ≤ sizeLine) (k : Q (.str d.shown) H) : rRepr K [x] H Q := ⟨x, d, rfl, hd, hs, hn, hz, hl, k⟩
/-! ### statements -/
theorem r_seq (k : t1 { D with nx := t2 D } σ H) : tSeq t1 t2 D σ H := k
theorem r_next (k : D.nx σ H) : tNext D σ H := k
theorem r_asg {g : TG} (k : te σ H fun x H1 => g x σ H1 D.nx) : tAsg te g D σ H := k
theorem r_gName (k : QS (σ.set i (some v)) H) : gName i v σ H QS := k
theorem r_gSub {to ti : TE} {s : TSet} (k : to σ H fun o H1 => ti σ H1 fun i H2 => s o i v H2 fun H3 => QS σ H3) : gSub to ti s v σ H QS := k
theorem r_setL {p : Addr} {n : Int} {xs : List V} {m : Nat} {QH : Hp → Prop} (h : H p = some (.lst xs)) (hi : ixN xs.length n = some m) (k : QH (upd H p (.lst (xs.set m v)))) : rSetL (.ref p) (.int n) v H QH := ⟨p, xs, n, m, rfl, rfl, h, hi, k⟩
theorem r_ret (k : te σ H D.rt) : tRet te D σ H := k
theorem r_ifS (k : t σ H fun b H1 => if b = true then t1 D σ H1 else t2 D σ H1) : tIfS t t1 t2 D σ H := k
theorem r_drop (k : te σ H fun _ H1 => D.nx σ H1) : tDrop te D σ H := k
theorem r_for {wi : TI} {g : TG} (k : wi σ H fun J H1 => ∃ W : Nat → Nat → St → Hp → Prop, (∃ m, W 0 m σ H1) ∧ ∀ i m σ H, W i m σ H →
  (J.stop i H ∧ D.nx σ H) ∨ (J.go i H ∧ ∃ N : St → Hp → Prop, (∀ σ' H', N σ' H' → ∃ m', m' < m ∧ W (i + 1) m' σ' H') ∧ ∀ x H', J.yld i H x H' → g x σ H' fun σ2 H2 => ts { D with nx := N, ct := N, bk := D.nx } σ2 H2)) : tFor wi g ts D σ H := k
/-- for k in range(n) -/
theorem r_forR {tl : TA} {n : Int} {g : TG} (Pv : Nat → St → Hp → Prop) (h : tl σ H fun vs H1 => vs = [.int n] ∧ -(2 ^ 62) ≤ n ∧ n < 2 ^ 62 ∧ Pv 0 σ H1)
    (mono : ∀ {P P' : List V → Hp → Prop}, (∀ vs H, P vs H → P' vs H) → tl σ H P → tl σ H P')
    (hs : ∀ i σ H, i < n.toNat → Pv i σ H → g (.int (i : Nat)) σ H fun σ2 H2 => ts { D with nx := Pv (i + 1), ct := Pv (i + 1), bk := D.nx } σ2 H2)
    (hd : ∀ σ H, Pv n.toNat σ H → D.nx σ H) : tFor (iRng1 tl) g ts D σ H := by
  refine mono (fun vs H1 q => ?_) h
  obtain ⟨rfl, h1, h2, q⟩ := q
  refine ⟨n, rfl, h1, h2, for_range (lo := 0) (n := n.toNat) Pv q (fun i σ H hi p => ?_) hd⟩
  rw [Int.zero_add]
  exact hs i σ H hi p
end
end Hg
end L2
end

section
set_option Elab.async false
set_option linter.all false
set_option maxRecDepth 100000
set_option maxHeartbeats 4000000
/-! A def of the text as one hypothesis: where it stands (DefAt), what it keeps (DefOk, DefG); classes and errors likewise; boxes of draws. -/
namespace L2
namespace Hg
open PySem PySem.Spec PyProof.Rows

structure DefAt (K : PySem.W.Frag) (mg : Str → Option Value) (x : Str) (st : Stmt) : Prop where
  ex : ∃ f fd, mg x = some (.ref f) ∧ Fun K x x st f fd
def DefOk (P : Program) (w : World) (K : PySem.W.Frag) (mg : Str → Option Value) (base : Heap) (CX : CXT) (k : Nat) (x : Str) (ps : List Str) (sp : Sp) : Prop :=
  ∃ f fd, mg x = some (.ref f) ∧ PySem.W.keepIn K (.ref f) = true ∧ FnOk P w K mg base CX k f fd ps sp ∧ Binds K fd ps []
def DefG (P : Program) (w : World) (K : PySem.W.Frag) (mg : Str → Option Value) (base : Heap) (CX : CXT) (k : Nat) (x : Str) (ps : List Str) (sp : Sp) : Prop :=
  ∃ f fd, mg x = some (.ref f) ∧ PySem.W.keepIn K (.ref f) = true ∧ FnG P w K mg base CX k f fd ps sp ∧ Binds K fd ps []
abbrev BindsBy (st : Stmt) (x : Str) (ps : List Str) : Prop := ∀ (kV doc pm : Value) (an : Option Addr) (cdv ct : Value) (us : List Value), us.length = ps.length →
  bindArgs (PySem.W.fnOf x x (defArgs st) (defBody st) (defScope st) .none kV doc pm an cdv ct) ⟨us, []⟩ = pure (ps.zip us)
section
variable {P : Program} {w : World} {K : PySem.W.Frag} {mg : Str → Option Value} {base : Heap} {k : Nat} {x : Str} {st : Stmt} {N ps : List Str} {sp : Sp}
theorem DefAt.ok (F : DefAt K mg x st) (S : FnScope N ps (defScope st)) (hb : BindsBy st x ps) (len : ∀ vs H Q E, sp vs H Q E → vs.length = ps.length)
    (hbody : ∀ (f : Addr) (cdv : Value) (A : Around) (outer : List Env) (s : Shared) (H : Hp) (vs : List V) (Q : VK) (E : XK), Room k (A.deeper (envOfC x (defScope st) s.heap.objs.size f cdv)) → sp vs H Q E →
      ∃ t, PSs (cxOf CX0 P w K mg base N x (defScope st) f cdv A outer s H E).nox (defBody st) t ∧ t { nx := fun _ H' => Q .non H', rt := Q } (start N vs) H) : DefOk P w K mg base CX0 (k + 1) x ps sp := by
  obtain ⟨f, fd, hm, F⟩ := F.ex
  exact ⟨f, fd, hm, F.kp, F.ok S len fun cdv A outer s H vs Q E hr h => hbody f cdv A outer s H vs Q E hr h, F.binds hb⟩
theorem DefAt.okX (F : DefAt K mg x st) (S : FnScope N ps (defScope st)) (hb : BindsBy st x ps) (len : ∀ vs H Q E, sp vs H Q E → vs.length = ps.length)
    (hbody : ∀ (f : Addr) (cdv : Value) (A : Around) (outer : List Env) (s : Shared) (H : Hp) (vs : List V) (Q : VK) (E : XK), Room k (A.deeper (envOfC x (defScope st) s.heap.objs.size f cdv)) → sp vs H Q E →
      ∃ t, PSs (cxOf (L2.CX P w) P w K mg base N x (defScope st) f cdv A outer s H E) (defBody st) t ∧ t { nx := fun _ H' => Q .non H', rt := Q } (start N vs) H) : DefOk P w K mg base (L2.CX P w) (k + 1) x ps sp := by
  obtain ⟨f, fd, hm, F⟩ := F.ex
  exact ⟨f, fd, hm, F.kp, F.okX S len fun cdv A outer s H vs Q E hr h => hbody f cdv A outer s H vs Q E hr h, F.binds hb⟩
theorem DefAt.okG (F : DefAt K mg x st) (S : FnScope N ps (defScope st)) (hb : BindsBy st x ps) (len : ∀ vs H Q E, sp vs H Q E → vs.length = ps.length)
    (hbody : ∀ (f : Addr) (cdv : Value) (A : Around) (outer : List Env) (s : Shared) (H : Hp) (vs : List V) (Q : VK) (E : XK), A.guards = some [] → Room k (A.deeper (envOfC x (defScope st) s.heap.objs.size f cdv)) → sp vs H Q E →
      ∃ t, PSs (cxOf CX0 P w K mg base N x (defScope st) f cdv A outer s H E).nox (defBody st) t ∧ t { nx := fun _ H' => Q .non H', rt := Q } (start N vs) H) : DefG P w K mg base CX0 (k + 1) x ps sp := by
  obtain ⟨f, fd, hm, F⟩ := F.ex
  exact ⟨f, fd, hm, F.kp, Hg.okG F S len fun cdv A outer s H vs Q E hg hr h => hbody f cdv A outer s H vs Q E hg hr h, F.binds hb⟩
end
section
variable {X : Cx} {CX : CXT} {k : Nat} {ps : List Str} {sp : Sp} {E : XK} {x : Str} {p pos : Pos} {e : Expr} {es : List Expr} {t : TA}
theorem pe_callD (F : DefOk X.prog X.w X.K X.mg X.base CX k x ps sp) (hr : Room k X.A) (hx : Passes CX X E) (hg : Gl X x) (ha : PA X (e :: es) t) (hdb : (x == ("__debug__" : Str)) = false := by decide)
    (he : starEach (e :: es) X.env = (false, eval e X.env) :: starEach es X.env := by rfl) (hpl : (backTo pos (starEach es X.env)).any (·.1) = false := by rfl) : PE X (.Call (.Name x p) (e :: es) [] pos) (tCall sp [] E t) :=
  let ⟨_, _, hm, hk, G, hb⟩ := F
  pe_call G hr hg hm hk hb .nil hx ha hdb he hpl
theorem pe_callD0 (F : DefOk X.prog X.w X.K X.mg X.base CX k x ps sp) (hr : Room k X.A) (hx : Passes CX X E) (hg : Gl X x) (hdb : (x == ("__debug__" : Str)) = false := by decide) : PE X (.Call (.Name x p) [] [] pos) (tCall sp [] E tNil) :=
  let ⟨_, _, hm, hk, G, hb⟩ := F
  pe_call0 G hr hg hm hk hb .nil hx hdb
theorem pe_callDG (F : DefG X.prog X.w X.K X.mg X.base CX k x ps sp) (hgd : X.A.guards = some []) (hr : Room k X.A) (hx : Passes CX X E) (hg : Gl X x) (ha : PA X (e :: es) t) (hdb : (x == ("__debug__" : Str)) = false := by decide)
    (he : starEach (e :: es) X.env = (false, eval e X.env) :: starEach es X.env := by rfl) (hpl : (backTo pos (starEach es X.env)).any (·.1) = false := by rfl) : PE X (.Call (.Name x p) (e :: es) [] pos) (tCall sp [] E t) :=
  let ⟨_, _, hm, hk, G, hb⟩ := F
  pe_callG G hgd hr hg hm hk hb .nil hx ha hdb he hpl
theorem pe_callDG0 (F : DefG X.prog X.w X.K X.mg X.base CX k x ps sp) (hgd : X.A.guards = some []) (hr : Room k X.A) (hx : Passes CX X E) (hg : Gl X x) (hdb : (x == ("__debug__" : Str)) = false := by decide) : PE X (.Call (.Name x p) [] [] pos) (tCall sp [] E tNil) :=
  let ⟨_, _, hm, hk, G, hb⟩ := F
  pe_callG0 G hgd hr hg hm hk hb .nil hx hdb
end

/-! ### errors -/
/-- the error class x at C: its own `__init__` st, over the base G named g -/
structure ErrAt (K : PySem.W.Frag) (mg : Str → Option Value) (x q : Str) (st : Stmt) (C : Addr) : Prop where
  hm : mg x = some (.ref C)
  cl : OexC K C
  it : ∃ f fd, PySem.W.findIn K (.ref C) "__init__" = some (some (.ref f)) ∧ PySem.W.typeIn K (.ref f) = some (.type "function") ∧ Fun K "__init__" q st f fd
structure BaseAt (K : PySem.W.Frag) (mg : Str → Option Value) (g : Str) (G : Addr) : Prop where
  hm : mg g = some (.ref G)
  bi : BaseInit K G
/-- what making such an error keeps -/
def ErrOk (P : Program) (w : World) (K : PySem.W.Frag) (mg : Str → Option Value) (base : Heap) (k : Nat) (x : Str) (C : Addr) (ps : List Str) (sp : Sp) : Prop :=
  mg x = some (.ref C) ∧ OexC K C ∧ ∃ f fd, PySem.W.findIn K (.ref C) "__init__" = some (some (.ref f)) ∧ PySem.W.typeIn K (.ref f) = some (.type "function") ∧ FnOk P w K mg base CX0 k f fd ps sp ∧ Binds K fd ps []
abbrev BindsAs (st : Stmt) (x q : Str) (ps : List Str) : Prop := ∀ (kV doc pm : Value) (an : Option Addr) (cdv ct : Value) (us : List Value), us.length = ps.length →
  bindArgs (PySem.W.fnOf x q (defArgs st) (defBody st) (defScope st) .none kV doc pm an cdv ct) ⟨us, []⟩ = pure (ps.zip us)
section
variable {P : Program} {w : World} {K : PySem.W.Frag} {mg : Str → Option Value} {base : Heap} {k : Nat} {x q : Str} {st : Stmt} {C : Addr} {N ps : List Str} {sp : Sp}
theorem ErrAt.ok (F : ErrAt K mg x q st C) (S : FnScope N ps (defScope st)) (hb : BindsAs st "__init__" q ps) (len : ∀ vs H Q E, sp vs H Q E → vs.length = ps.length)
    (hbody : ∀ (f : Addr) (cdv : Value) (A : Around) (outer : List Env) (s : Shared) (H : Hp) (vs : List V) (Q : VK) (E : XK), Room k (A.deeper (envOfC q (defScope st) s.heap.objs.size f cdv)) → sp vs H Q E →
      ∃ t, PSs (cxOf CX0 P w K mg base N q (defScope st) f cdv A outer s H E).nox (defBody st) t ∧ t { nx := fun _ H' => Q .non H', rt := Q } (start N vs) H) : ErrOk P w K mg base (k + 1) x C ps sp := by
  obtain ⟨f, fd, hi, ht, F1⟩ := F.it
  exact ⟨F.hm, F.cl, f, fd, hi, ht, F1.ok S len fun cdv A outer s H vs Q E hr h => hbody f cdv A outer s H vs Q E hr h, F1.binds hb⟩
end
section
variable {X : Cx} {k : Nat} {ps : List Str} {sp : Sp} {x : Str} {p pos : Pos} {C : Addr} {e : Expr} {es : List Expr} {ta : TA}
theorem pmkN (F : ErrOk X.prog X.w X.K X.mg X.base k x C ps sp) (hr : Room (k + 1) X.A) (hg : Gl X x) (hdb : (x == ("__debug__" : Str)) = false := by decide) : PMk X (.Call (.Name x p) [] [] pos) (tMkN C sp) :=
  let ⟨hm, T, _, _, iC, tI, F1, hb⟩ := F
  pmk_oexN T iC tI F1 hr hb (fun _ _ _ _ _ _ _ c => c.elim) hg hm hdb
theorem pmkF (F : ErrOk X.prog X.w X.K X.mg X.base k x C ps sp) (hr : Room (k + 1) X.A) (hg : Gl X x) (ha : PA X (e :: es) ta) (hdb : (x == ("__debug__" : Str)) = false := by decide)
    (he : starEach (e :: es) X.env = (false, eval e X.env) :: starEach es X.env := by rfl) (hpl : (backTo pos (starEach es X.env)).any (·.1) = false := by rfl) : PMk X (.Call (.Name x p) (e :: es) [] pos) (tMkO C sp [] ta) :=
  let ⟨hm, T, _, _, iC, tI, F1, hb⟩ := F
  pmk_oex T iC tI F1 hr hb .nil (fun _ _ _ _ _ _ _ c => c.elim) hg hm ha hdb he hpl
end

/-! ### classes -/
/-- the class x at C -/
structure ClsAt (K : PySem.W.Frag) (mg : Str → Option Value) (x : Str) (C : Addr) : Prop where
  hm : mg x = some (.ref C)
  cl : Cls K C
  mks : PySem.W.makesIn K C = true
  kp : PySem.W.keepIn K (.ref C) = true
/-- making an instance of x -/
def MakeOk (P : Program) (w : World) (K : PySem.W.Frag) (mg : Str → Option Value) (base : Heap) (CX : CXT) (k : Nat) (x : Str) (C : Addr) (ps : List Str) (dvs : List V) (sp : Sp) : Prop :=
  mg x = some (.ref C) ∧ ∃ f fd ds, Mk K C f ∧ FnOk P w K mg base CX k f fd ps sp ∧ Binds K fd ps ds ∧ Vals dvs ds
section
variable {X : Cx} {CX : CXT} {k : Nat} {ps : List Str} {dvs : List V} {sp : Sp} {E : XK} {ES : St → XK} {x : Str} {p pos : Pos} {C : Addr} {e : Expr} {es : List Expr} {t : TA}
theorem pe_makeD (F : MakeOk X.prog X.w X.K X.mg X.base CX k x C ps dvs sp) (hr : Room (k + 1) X.A) (hx : Passes CX X E) (hg : Gl X x) (ha : PA X (e :: es) t) (hdb : (x == ("__debug__" : Str)) = false := by decide)
    (he : starEach (e :: es) X.env = (false, eval e X.env) :: starEach es X.env := by rfl) (hpl : (backTo pos (starEach es X.env)).any (·.1) = false := by rfl) : PE X (.Call (.Name x p) (e :: es) [] pos) (tMake C sp dvs E t) :=
  let ⟨hm, _, _, _, M, G, hb, hd⟩ := F
  pe_make M G hr hg hm hb hd hx ha hdb he hpl
theorem pe_makeD0 (F : MakeOk X.prog X.w X.K X.mg X.base CX k x C ps dvs sp) (hr : Room (k + 1) X.A) (hx : Passes CX X E) (hg : Gl X x) (hdb : (x == ("__debug__" : Str)) = false := by decide) : PE X (.Call (.Name x p) [] [] pos) (tMake C sp dvs E tNil) :=
  let ⟨hm, _, _, _, M, G, hb, hd⟩ := F
  pe_make0 M G hr hg hm hb hd hx hdb
theorem pe_makeDS (F : MakeOk X.prog X.w X.K X.mg X.base CX k x C ps dvs sp) (hr : Room (k + 1) X.A) (hx : ∀ σ, PassesAt CX X σ (ES σ)) (hg : Gl X x) (ha : PA X (e :: es) t) (hdb : (x == ("__debug__" : Str)) = false := by decide)
    (he : starEach (e :: es) X.env = (false, eval e X.env) :: starEach es X.env := by rfl) (hpl : (backTo pos (starEach es X.env)).any (·.1) = false := by rfl) : PE X (.Call (.Name x p) (e :: es) [] pos) (tMakeS C sp dvs ES t) :=
  let ⟨hm, _, _, _, M, G, hb, hd⟩ := F
  pe_makeS M G hr hg hm hb hd hx ha hdb he hpl
end

/-! ### boxes of draws -/
/-- at b a list of three ints -/
def BoxAt (H : Hp) (b : Addr) : Prop := ∃ x y z : Int, H b = some (.lst [.int x, .int y, .int z])
/-- what was tracked stays, but for b, which is a box -/
structure Bx (b : Addr) (H H' : Hp) : Prop where
  keep : ∀ x o, x ≠ b → H x = some o → H' x = some o
  box : BoxAt H' b
theorem Bx.refl {b : Addr} {H : Hp} (h : BoxAt H b) : Bx b H H := ⟨fun _ _ _ z => z, h⟩
theorem Bx.trans {b : Addr} {H H1 H2 : Hp} (h : Bx b H H1) (g : Bx b H1 H2) : Bx b H H2 := ⟨fun x o n z => g.keep x o n (h.keep x o n z), g.box⟩
theorem Bx.upd {b p : Addr} {H H1 : Hp} {o : HO} (h : Bx b H H1) (hp : H1 p = none) : Bx b H (upd H1 p o) := by
  refine ⟨fun x u n z => ?_, ?_⟩
  · have q := h.keep x u n z
    rw [upd_ne (ne_of_none q hp)]; exact q
  · obtain ⟨x, y, z, q⟩ := h.box
    exact ⟨x, y, z, by rw [upd_ne (ne_of_none q hp)]; exact q⟩
theorem Bx.updD {b p : Addr} {H H1 : Hp} {o : HO} (h : Bx b H H1) (hp : H p = none) (n : p ≠ b) : Bx b H (L2.upd H1 p o) := by
  refine ⟨fun x u ne z => at_upd (ne_of_none z hp) (h.keep x u ne z), ?_⟩
  obtain ⟨x, y, z, q⟩ := h.box
  exact ⟨x, y, z, at_upd (Ne.symm n) q⟩
theorem Bx.set {b : Addr} {H H1 : Hp} (h : Bx b H H1) (x y z : Int) : Bx b H (L2.upd H1 b (.lst [.int x, .int y, .int z])) := ⟨fun a o n q => (upd_ne n).trans (h.keep a o n q), x, y, z, upd_same⟩
theorem BoxAt.upd {b p : Addr} {H : Hp} {o : HO} (h : BoxAt H b) (hp : H p = none) : BoxAt (upd H p o) b := ((Bx.refl h).upd hp).box
theorem BoxAt.ne {b p : Addr} {H : Hp} {o : HO} (h : BoxAt H b) (hp : H p = some o) (d : ∀ x y z : Int, o ≠ .lst [.int x, .int y, .int z]) : p ≠ b := by
  intro e
  subst e
  obtain ⟨x, y, z, q⟩ := h
  rw [hp] at q
  exact d x y z (Option.some.inj q)
theorem BoxAt.some {b : Addr} {H : Hp} (h : BoxAt H b) : ∃ o, H b = some o := let ⟨_, _, _, q⟩ := h; ⟨_, q⟩
theorem Bx.seqL {K : PySem.W.Frag} {b l : Addr} {H H' : Hp} {xs : List V} (h : Bx b H H') (n : l ≠ b) (q : SqL K H l xs) : SqL K H' l xs := by
  rcases q with (q | ⟨o, q⟩) | q
  · exact .inl (.inl (h.keep _ _ n q))
  · exact .inl (.inr ⟨o, h.keep _ _ n q⟩)
  · exact .inr q
theorem Bx.seqT {K : PySem.W.Frag} {b l : Addr} {H H' : Hp} {xs : List V} (h : Bx b H H') (n : l ≠ b) (q : SqT K H l xs) : SqT K H' l xs := by
  rcases q with (q | ⟨o, q⟩) | q
  · exact .inl (.inl (h.keep _ _ n q))
  · exact .inl (.inr ⟨o, h.keep _ _ n q⟩)
  · exact .inr q
theorem Bx.free {b p : Addr} {H H' : Hp} (h : Bx b H H') (hp : H' p = none) : H p = none := by
  cases e : H p with
  | none => rfl
  | some o =>
    by_cases n : p = b
    · subst n
      obtain ⟨x, y, z, q⟩ := h.box
      rw [hp] at q; cases q
    · rw [h.keep p o n e] at hp; cases hp
theorem Bx.seqF {K : PySem.W.Frag} {b l : Addr} {H H' : Hp} {xs : List V} (h : Bx b H H') (n : H b = none) (q : SqL K H l xs) : SqL K H' l xs := by
  rcases q with (q | ⟨o, q⟩) | q
  · exact .inl (.inl (h.keep _ _ (ne_of_none q n) q))
  · exact .inl (.inr ⟨o, h.keep _ _ (ne_of_none q n) q⟩)
  · exact .inr q
/-- a draw -/
def spTake : Sp := fun vs H Q _ => ∃ (b : Addr) (m : Int), vs = [.ref b, .int m] ∧ BoxAt H b ∧ 1 ≤ m ∧ m < 100000000000000000000 ∧
  ∀ (d : Int) (H' : Hp), 0 ≤ d → d < m → Bx b H H' → Q (.int d) H'
/-- a pick -/
def spPick (K : PySem.W.Frag) : Sp := fun vs H Q _ => ∃ (b l : Addr) (xs : List V), vs = [.ref b, .ref l] ∧ BoxAt H b ∧ (SqL K H l xs ∨ SqT K H l xs) ∧ l ≠ b ∧ 1 ≤ xs.length ∧ xs.length < 1000000 ∧
  ∀ (v : V) (H' : Hp), v ∈ xs → Bx b H H' → Q v H'
/-- a new box -/
def spBox (K : PySem.W.Frag) : Sp := fun vs H Q _ => ∃ (a : Addr) (ns : List Int) (k c : Int), vs = [.ref a, .int k, .int c] ∧ SqL K H a (ns.map V.int) ∧ 0 ≤ k ∧ k < 1000000 ∧ 0 ≤ c ∧ c < 1000000 ∧ ns.length ≤ 1000 ∧
  ∀ (b : Addr) (H' : Hp), H b = none → Bx b H H' → Q (.ref b) H'
end Hg
end L2
end

section
set_option Elab.async false
set_option linter.all false
set_option maxRecDepth 100000
set_option maxHeartbeats 400000
/-! Any values: None, bools, ints, texts, lists, tuples; their kinds, their data; what stays. -/
namespace L2
namespace Hg
open PySem PySem.Spec PyProof.Rows

/-- any value of a kind that isinstance can tell -/
inductive Kd (K : PySem.W.Frag) (H : Hp) : V → Prop
  | non : Kd K H .non
  | bl (b : Bool) : Kd K H (.bl b)
  | int (i : Int) : Kd K H (.int i)
  | str (x : Str) : Kd K H (.str x)
  | lst {a : Addr} {xs : List V} : SqL K H a xs → Kd K H (.ref a)
  | tup {a : Addr} {xs : List V} : SqT K H a xs → Kd K H (.ref a)
def isI : V → Bool | .int _ => true | _ => false
def isIB : V → Bool | .int _ => true | .bl _ => true | _ => false
def isB : V → Bool | .bl _ => true | _ => false
def isS : V → Bool | .str _ => true | _ => false
theorem tyx_list {K : PySem.W.Frag} {H : Hp} {a : Addr} {xs : List V} (h : SqL K H a xs) : TyX K H (.ref a) (.type "list") := by
  rcases h with (h | ⟨o, h⟩) | ⟨o, its, n, h, c, _⟩
  · exact .base (.lst h)
  · exact .base (.frz h)
  · exact .kList h c
theorem tyx_tup {K : PySem.W.Frag} {H : Hp} {a : Addr} {xs : List V} (h : SqT K H a xs) : TyX K H (.ref a) (.type "tuple") := by
  rcases h with (h | ⟨o, h⟩) | ⟨o, its, n, h, c, _⟩
  · exact .base (.tup h)
  · exact .fTuple h
  · exact .kTuple h c
section
variable {K : PySem.W.Frag} {H H' : Hp} {v : V}
theorem Kd.isi_int (h : Kd K H v) : ∃ t, TyX K H v t ∧ PySem.W.kitOne K t (.type "int") = some (isIB v) := by
  cases h with
  | non => exact ⟨_, .base .non, kit_ty (a := "NoneType") (by decide +kernel)⟩
  | bl b => exact ⟨_, .base (.bl b), kit_ty (a := "bool") (b := "int") (r := true) (by decide +kernel)⟩
  | int i => exact ⟨_, .base (.int i), kit_ty (a := "int") (b := "int") (r := true) (by decide +kernel)⟩
  | str x => exact ⟨_, .base (.str x), kit_ty (a := "str") (b := "int") (r := false) (by decide +kernel)⟩
  | lst h => exact ⟨_, tyx_list h, kit_ty (a := "list") (b := "int") (r := false) (by decide +kernel)⟩
  | tup h => exact ⟨_, tyx_tup h, kit_ty (a := "tuple") (b := "int") (r := false) (by decide +kernel)⟩
theorem Kd.isi_bool (h : Kd K H v) : ∃ t, TyX K H v t ∧ PySem.W.kitOne K t (.type "bool") = some (isB v) := by
  cases h with
  | non => exact ⟨_, .base .non, kit_ty (a := "NoneType") (by decide +kernel)⟩
  | bl b => exact ⟨_, .base (.bl b), kit_ty (a := "bool") (b := "bool") (r := true) (by decide +kernel)⟩
  | int i => exact ⟨_, .base (.int i), kit_ty (a := "int") (b := "bool") (r := false) (by decide +kernel)⟩
  | str x => exact ⟨_, .base (.str x), kit_ty (a := "str") (b := "bool") (r := false) (by decide +kernel)⟩
  | lst h => exact ⟨_, tyx_list h, kit_ty (a := "list") (b := "bool") (r := false) (by decide +kernel)⟩
  | tup h => exact ⟨_, tyx_tup h, kit_ty (a := "tuple") (b := "bool") (r := false) (by decide +kernel)⟩
theorem Kd.isi_str (h : Kd K H v) : ∃ t, TyX K H v t ∧ PySem.W.kitOne K t (.type "str") = some (isS v) := by
  cases h with
  | non => exact ⟨_, .base .non, kit_ty (a := "NoneType") (by decide +kernel)⟩
  | bl b => exact ⟨_, .base (.bl b), kit_ty (a := "bool") (b := "str") (r := false) (by decide +kernel)⟩
  | int i => exact ⟨_, .base (.int i), kit_ty (a := "int") (b := "str") (r := false) (by decide +kernel)⟩
  | str x => exact ⟨_, .base (.str x), kit_ty (a := "str") (b := "str") (r := true) (by decide +kernel)⟩
  | lst h => exact ⟨_, tyx_list h, kit_ty (a := "list") (b := "str") (r := false) (by decide +kernel)⟩
  | tup h => exact ⟨_, tyx_tup h, kit_ty (a := "tuple") (b := "str") (r := false) (by decide +kernel)⟩
theorem sameT {a : Addr} {xs : List V} (e : Same H H') (h : SqT K H a xs) : SqT K H' a xs := by
  rcases h with (h | ⟨o, h⟩) | h
  · exact .inl (.inl (e _ _ h))
  · exact .inl (.inr ⟨o, e _ _ h⟩)
  · exact .inr h
theorem Kd.mono (e : Same H H') (h : Kd K H v) : Kd K H' v := by
  cases h with
  | non => exact .non
  | bl b => exact .bl b
  | int i => exact .int i
  | str x => exact .str x
  | lst h => exact .lst (e.seq h)
  | tup h => exact .tup (sameT e h)
mutual
theorem Dp.mono (e : Same H H') : ∀ (d : PyData) (v : V), Dp K H v d → Dp K H' v d
  | .none, _, h => by cases h; exact .non
  | .bool b, _, h => by cases h; exact .bl b
  | .int i, _, h => by cases h; exact .int i
  | .str x, _, h => by cases h; exact .str x
  | .list ds, _, h => by
    cases h with
    | lst hs ha => exact .lst (e.seq hs) (DpAll.mono e ds _ ha)
  | .tuple ds, _, h => by
    cases h with
    | tup hs ha => exact .tup (sameT e hs) (DpAll.mono e ds _ ha)
  | .dict _, _, h => by cases h
theorem DpAll.mono (e : Same H H') : ∀ (ds : List PyData) (vs : List V), DpAll K H vs ds → DpAll K H' vs ds
  | [], _, h => by cases h; exact .nil
  | d :: ds, _, h => by
    cases h with
    | cons h1 h2 => exact .cons (Dp.mono e d _ h1) (DpAll.mono e ds _ h2)
end
theorem Dp.kd {d : PyData} (h : Dp K H v d) : Kd K H v := by
  cases h with
  | non => exact .non
  | bl b => exact .bl b
  | int i => exact .int i
  | str x => exact .str x
  | lst h _ => exact .lst h
  | tup h _ => exact .tup h
end
/-! ### the promises of `signs` -/
def fromV (v : V) (a b : Int) : Bool := match v with | .int i => decide (a ≤ i) && decide (i ≤ b) | _ => false
def numV (v : V) : Bool := match v with | .int i => decide (0 ≤ i) | _ => false
def spIsInt (K : PySem.W.Frag) : Sp := fun vs H Q _ => ∃ v, vs = [v] ∧ Kd K H v ∧ Q (.bl (isI v)) H
def spFrom (K : PySem.W.Frag) : Sp := fun vs H Q _ => ∃ v a b, vs = [v, .int a, .int b] ∧ Kd K H v ∧ Q (.bl (fromV v a b)) H
def spIsNum (K : PySem.W.Frag) : Sp := fun vs H Q _ => ∃ v, vs = [v] ∧ Kd K H v ∧ Q (.bl (numV v)) H
theorem isI_of (v : V) : (isIB v && !isB v) = isI v := by cases v <;> rfl
theorem isI_int {v : V} (h : isI v = true) : ∃ i, v = .int i := by
  cases v <;> first | exact ⟨_, rfl⟩ | cases h
/-! ### what stays of a heap but for a box -/
theorem same_del (H : Hp) (b : Addr) : Same (del H b) H := fun a o h => by
  unfold del at h
  split at h
  · cases h
  · exact h
theorem Bx.same {b : Addr} {H H' : Hp} (h : Bx b H H') : Same (del H b) (del H' b) := fun a o q => by
  unfold del at q ⊢
  split at q
  · cases q
  · rename_i n
    rw [if_neg n]
    exact h.keep a o n q
theorem same_new {H : Hp} {p : Addr} {o : HO} (h : H p = none) : Same H (upd H p o) := fun a u q => at_upd (ne_of_none q h) q
theorem bx_of_same {b : Addr} {H H' : Hp} (hb : BoxAt H b) (h : Same H H') : Bx b H H' :=
  ⟨fun a o _ q => h a o q, let ⟨x, y, z, q⟩ := hb; ⟨x, y, z, h _ _ q⟩⟩
theorem del_at {H : Hp} {a b : Addr} {o : HO} (n : a ≠ b) (h : H a = some o) : del H b a = some o := (del_ne n).trans h
/-! ### data that may be shown -/
/-- v is data of depth at most k, whose text has at most n signs -/
structure Sh (K : PySem.W.Frag) (H : Hp) (v : V) (d : PyData) (k n : Nat) : Prop where
  dp : Dp K H v d
  sw : d.showable = true
  nd : d.hasDict = false
  cl : d.canLay0 = true
  dpt : d.depth ≤ k
  len : d.shown.length ≤ n
section
variable {K : PySem.W.Frag} {H H' : Hp} {v : V} {d : PyData} {k k' n n' : Nat}
theorem Sh.mono (e : Same H H') (h : Sh K H v d k n) : Sh K H' v d k n := ⟨Dp.mono e _ _ h.dp, h.sw, h.nd, h.cl, h.dpt, h.len⟩
theorem Sh.up (h : Sh K H v d k n) (hk : k ≤ k') (hn : n ≤ n') : Sh K H v d k' n' := ⟨h.dp, h.sw, h.nd, h.cl, Nat.le_trans h.dpt hk, Nat.le_trans h.len hn⟩
theorem Sh.shaped (h : Sh K H v d k n) (hk : k ≤ 64) : SeqAt.shaped d = true := by
  unfold SeqAt.shaped
  rw [h.cl, decide_eq_true (Nat.le_trans h.dpt hk)] <;> rfl
theorem Sh.repr {Q : VK} (h : Sh K H v d k n) (hk : k ≤ 60) (hn : n ≤ 100000) (q : Q (.str d.shown) H) : rRepr K [v] H Q :=
  r_repr h.dp h.sw h.nd (Nat.le_trans h.dpt hk) (sz (Nat.le_trans h.len hn)) q
theorem sh_non : Sh K H .non .none 0 10 := ⟨.non, rfl, rfl, rfl, Nat.le_refl _, by decide +kernel⟩
theorem sh_bl (b : Bool) : Sh K H (.bl b) (.bool b) 0 10 := ⟨.bl b, rfl, rfl, rfl, Nat.le_refl _, by cases b <;> decide +kernel⟩
theorem sh_int {i : Int} (h : i.natAbs < 10 ^ 38) : Sh K H (.int i) (.int i) 0 40 := by
  refine ⟨.int i, ?_, rfl, rfl, Nat.le_refl _, ?_⟩
  · show decide (i.natAbs.log2 < 1920) = true
    refine decide_eq_true ?_
    by_cases h0 : i.natAbs = 0
    · rw [h0]; decide
    · refine (Nat.log2_lt h0).mpr (Nat.lt_trans h (by decide +kernel))
  · show (Str.ofString (toString i)).length ≤ 40
    have e := int_text_length_le10 (k := 38) (by decide) h
    refine Nat.le_trans ?_ (Nat.le_trans e (by decide))
    exact Nat.le_of_eq (PySem.ofString_length _)
theorem sh_str {x : Str} (ok : PyData.canLay0 (.str x) = true) (h : (reprText x).length ≤ n) : Sh K H (.str x) (.str x) 0 n := ⟨.str x, rfl, rfl, ok, Nat.le_refl _, h⟩
theorem sh_all {vs : List V} {ds : List PyData} (h : Paired (fun v d => Sh K H v d k n) vs ds) : DpAll K H vs ds ∧ PyData.showableAll ds = true ∧ PyData.hasDictAll ds = false ∧ PyData.canLayAll0 ds = true ∧ PyData.depthAll ds ≤ k ∧
    ((PyData.shownAll ds).map (·.length)).sum ≤ vs.length * n ∧ ds.length = vs.length ∧ (PyData.shownAll ds).length = vs.length := by
  induction h with
  | nil => exact ⟨.nil, rfl, rfl, rfl, Nat.zero_le _, Nat.zero_le _, rfl, rfl⟩
  | cons h _ ih =>
    obtain ⟨i1, i2, i3, i4, i5, i6, i7, i8⟩ := ih
    refine ⟨.cons h.dp i1, ?_, ?_, ?_, ?_, ?_, ?_, ?_⟩
    · simp only [PyData.showableAll, h.sw, i2, Bool.and_self]
    · simp only [PyData.hasDictAll, h.nd, i3, Bool.or_self]
    · simp only [PyData.canLayAll0, h.cl, i4, Bool.and_self]
    · simp only [PyData.depthAll]; exact Nat.max_le.mpr ⟨h.dpt, i5⟩
    · simp only [PyData.shownAll, List.map_cons, List.sum_cons, List.length_cons]
      have := h.len
      rw [Nat.succ_mul]
      omega
    · simp only [List.length_cons, i7]
    · simp only [PyData.shownAll, List.length_cons, i8]
theorem sh_tup {a : Addr} {vs : List V} {ds : List PyData} {m : Nat} (h : SqT K H a vs) (hp : Paired (fun v d => Sh K H v d k n) vs ds) (hl : vs.length * n + 2 * vs.length + 3 ≤ m) : Sh K H (.ref a) (.tuple ds) (k + 1) m := by
  obtain ⟨i1, i2, i3, i4, i5, i6, i7, i8⟩ := sh_all hp
  refine ⟨.tup h i1, ?_, ?_, ?_, ?_, ?_⟩
  · simp only [PyData.showable, i2]
  · simp only [PyData.hasDict, i3]
  · simp only [PyData.canLay0, i4]
  · simp only [PyData.depth]; omega
  · simp only [PyData.shown]
    have q := tupleText_len_le (PyData.shownAll ds)
    rw [i8] at q
    omega
theorem sh_lst {a : Addr} {vs : List V} {ds : List PyData} {m : Nat} (h : SqL K H a vs) (hp : Paired (fun v d => Sh K H v d k n) vs ds) (hl : vs.length * n + 2 * vs.length + 3 ≤ m) : Sh K H (.ref a) (.list ds) (k + 1) m := by
  obtain ⟨i1, i2, i3, i4, i5, i6, i7, i8⟩ := sh_all hp
  refine ⟨.lst h i1, ?_, ?_, ?_, ?_, ?_⟩
  · simp only [PyData.showable, i2]
  · simp only [PyData.hasDict, i3]
  · simp only [PyData.canLay0, i4]
  · simp only [PyData.depth]; omega
  · simp only [PyData.shown]
    have q := listText_len_le (PyData.shownAll ds)
    rw [i8] at q
    omega
end
/-! ### isinstance of a caught error -/
def rIsG (K : PySem.W.Frag) (a : Addr) (cls : Value) (d : Option Addr) : List V → Hp → VK → Prop := fun xs H Q => ∃ D : Addr, cls = .ref D ∧ d = none ∧ ExcC K D ∧ rIsE K D a xs H Q
theorem c_isG {X : Cx} {a : Addr} {cls : Value} {d : Option Addr} {oe : Obj} {pn : List (Addr × Obj)} (K : PySem.W.Frag) (hz : Zc cls d oe) (hf : ∃ vs, oe.data = .fields vs) (hK : X.K = K := by rfl) :
    CallR (X.suite a ((a, oe) :: pn)) (.builtin "isinstance") (rIsG K a cls d) := by
  subst hK
  intro pins s σ H xs us Q I r h
  obtain ⟨D, rfl, rfl, C, h⟩ := h
  exact call_isE C hz hf pins s σ H xs us Q I r h
theorem r_isG {K : PySem.W.Frag} {a D G : Addr} {b : Bool} {H : Hp} {Q : VK} (C : ExcC K D) (e : PySem.W.kitOne K (.ref D) (.ref G) = some b) (k : Q (.bl b) H) : rIsG K a (.ref D) none [.ref a, .ref G] H Q :=
  ⟨D, rfl, rfl, C, .ref G, .ref G, b, rfl, fun u h => h, e, k⟩
/-! ### fields -/
section
variable {K : PySem.W.Frag} {H : Hp} {Q : VK} {σ : St} {D : Ends} {ta tv : TE} {f : Str} {a C dx : Addr} {fs : List (Str × V)} {v : V}
theorem r_sFld (k : tv σ H fun y H1 => ta σ H1 fun x H2 => ∃ a C dx fs, x = .ref a ∧ H2 a = some (.ins C dx fs) ∧ Cls K C ∧ NoAttr K C f ∧ fs.length < 1000 ∧ D.nx σ (upd H2 a (.ins C dx (putF f y fs)))) : sFld K ta tv f D σ H := k
theorem r_put {R : Hp → Prop} (h : H a = some (.ins C dx fs)) (c : Cls K C) (n : NoAttr K C f) (z : fs.length < 1000) (k : R (upd H a (.ins C dx (putF f v fs)))) :
    ∃ a' C' dx' fs', V.ref a = .ref a' ∧ H a' = some (.ins C' dx' fs') ∧ Cls K C' ∧ NoAttr K C' f ∧ fs'.length < 1000 ∧ R (upd H a' (.ins C' dx' (putF f v fs'))) := ⟨a, C, dx, fs, rfl, h, c, n, z, k⟩
theorem r_fld (k : ta σ H fun x H1 => ∃ a C dx fs v, x = .ref a ∧ H1 a = some (.ins C dx fs) ∧ Cls K C ∧ NoAttr K C f ∧ fs.lookup f = some v ∧ Q v H1) : tFld K ta f σ H Q := k
theorem r_get {R : V → Prop} (h : H a = some (.ins C dx fs)) (c : Cls K C) (n : NoAttr K C f) (l : fs.lookup f = some v) (k : R v) :
    ∃ a' C' dx' fs' v', V.ref a = .ref a' ∧ H a' = some (.ins C' dx' fs') ∧ Cls K C' ∧ NoAttr K C' f ∧ fs'.lookup f = some v' ∧ R v' := ⟨a, C, dx, fs, v, rfl, h, c, n, l, k⟩
end
theorem putF_len {f : Str} {v : V} (l : List (Str × V)) : (putF f v l).length ≤ l.length + 1 := length_putF f v l
/-! ### dicts -/
section
variable {σ : St} {H : Hp} {Q : VK} {D : Ends} {td ty tv : TE}
theorem r_disp {trs : List (TE × TE)} (k : ∀ p, H p = none → tPairs trs σ (upd H p (.dK [])) fun ps H2 => H2 p = some (.dK []) ∧ ∃ kvs : List (Key × V), ps = kvs.map (fun kv => (kV kv.1, kv.2)) ∧ kvs.length ≤ 15 ∧ Q (.ref p) (upd H2 p (.dK (mergeK [] kvs)))) : tDisp trs σ H Q := k
theorem r_pairs {QP : List (V × V) → Hp → Prop} {r : List (TE × TE)} (k : td σ H fun x H1 => tv σ H1 fun y H2 => tPairs r σ H2 fun ps H3 => QP ((x, y) :: ps) H3) : tPairs ((td, tv) :: r) σ H QP := k
theorem r_pairs0 {QP : List (V × V) → Hp → Prop} (k : QP [] H) : tPairs [] σ H QP := k
theorem r_dput (k : tv σ H fun v H1 => td σ H1 fun x H2 => ty σ H2 fun y H3 => ∃ a H4, x = .ref a ∧ DPut H3 a y v H4 ∧ D.nx σ H4) : sDPut td ty tv D σ H := k
theorem r_dget (k : td σ H fun x H1 => ty σ H1 fun y H2 => ∃ a v, x = .ref a ∧ DGet H2 a y (some v) ∧ Q v H2) : tDGet td ty σ H Q := k
theorem r_dg {p : Addr} {kvs : List (Key × V)} {k : Key} {v : V} {R : V → Prop} (h : H p = some (.dK kvs)) (e : valV kvs k = some v) (q : R v) : ∃ a w, V.ref p = .ref a ∧ DGet H a (kV k) (some w) ∧ R w :=
  ⟨p, v, rfl, by rw [← e]; exact DGet.k h, q⟩
theorem r_dp {p : Addr} {kvs : List (Key × V)} {k : Key} {v : V} {R : Hp → Prop} (h : H p = some (.dK kvs)) (z : kvs.length < sizeLine) (q : R (upd H p (.dK (putK kvs k v)))) : ∃ a H4, V.ref p = .ref a ∧ DPut H a (kV k) v H4 ∧ R H4 :=
  ⟨p, _, rfl, DPut.k h z, q⟩
end
/-! ### loops and comprehensions -/
section
variable {σ : St} {H : Hp} {Q : VK} {D : Ends} {K : PySem.W.Frag}
theorem r_rng1 {ta : TA} {R : It → Hp → Prop} (k : ta σ H fun vs H1 => ∃ j : Int, vs = [.int j] ∧ -(2 ^ 62) ≤ j ∧ j < 2 ^ 62 ∧ R (Itr 0 j.toNat) H1) : iRng1 ta σ H R := k
theorem r_rng2 {ta : TA} {R : It → Hp → Prop} (k : ta σ H fun vs H1 => ∃ i j : Int, vs = [.int i, .int j] ∧ (-(2 ^ 62) ≤ i ∧ i < 2 ^ 62 ∧ -(2 ^ 62) ≤ j ∧ j < 2 ^ 62) ∧ R (Itr i (j - i).toNat) H1) : iRng2 ta σ H R := k
theorem r_iL {tl : TE} {R : It → Hp → Prop} (k : tl σ H fun x H1 => ∃ a, x = .ref a ∧ (∃ xs, SqL K H1 a xs) ∧ R (Itl K a) H1) : iList K tl σ H R := k
theorem r_iT {tl : TE} {R : It → Hp → Prop} (k : tl σ H fun x H1 => ∃ a, x = .ref a ∧ (∃ xs, SqT K H1 a xs) ∧ R (Itt K a) H1) : iTup K tl σ H R := k
theorem r_lc {wi : TI} {g : TG} {tt : TT} {te : TE} {vs : List Nat} (k : wi σ H fun J H1 => ∀ D, H1 D = none → ∃ W : Nat → Nat → Hp → Prop, (∃ m, W 0 m (upd H1 D (.lst []))) ∧ ∀ i m H, W i m H →
  (J.stop i H ∧ Q (.ref D) H) ∨ (J.go i H ∧ ∃ Nx : Hp → Prop, (∀ H', Nx H' → ∃ m', m' < m ∧ W (i + 1) m' H') ∧ ∀ x H', J.yld i H x H' → g x (wipe σ vs) H' fun σ2 H2 => wipe σ2 vs = wipe σ vs ∧ tt σ2 H2 fun b H3 =>
    if b = true then te σ2 H3 fun y H4 => ∃ acc, H4 D = some (.lst acc) ∧ acc.length < sizeLine ∧ Nx (upd H4 D (.lst (acc ++ [y]))) else Nx H3)) : tLc wi g tt te vs σ H Q := k
theorem r_gT {n : Nat} {t : TGs} {QS : St → Hp → Prop} {p : Addr} {xs : List V} (h : SqT K H p xs) (e : xs.length = n) (k : t xs σ H QS) : gTup K n t (.ref p) σ H QS := ⟨p, xs, rfl, h, e, k⟩
theorem r_gL {n : Nat} {t : TGs} {QS : St → Hp → Prop} {p : Addr} {xs : List V} (h : SqL K H p xs) (e : xs.length = n) (k : t xs σ H QS) : gLst K n t (.ref p) σ H QS := ⟨p, xs, rfl, h, e, k⟩
theorem r_gCons {t : TG} {u : TGs} {QS : St → Hp → Prop} {v : V} {r : List V} (k : t v σ H fun σ' H' => u r σ' H' QS) : gCons t u (v :: r) σ H QS := ⟨v, r, rfl, k⟩
theorem r_gNil {QS : St → Hp → Prop} (k : QS σ H) : gNil [] σ H QS := ⟨rfl, k⟩
theorem r_yes {QB : Bool → Hp → Prop} (k : QB true H) : tYes σ H QB := k
theorem take_succ {α : Type} : ∀ {l : List α} {i : Nat} {x : α}, l[i]? = some x → l.take (i + 1) = l.take i ++ [x]
  | [], i, x, h => by simp at h
  | a :: l, 0, x, h => by
    simp at h
    subst h
    rfl
  | a :: l, i + 1, x, h => by
    have ih := take_succ (l := l) (i := i) (x := x) (by simpa using h)
    simp only [List.take_succ_cons, ih, List.cons_append]
end
/-! ### what calls raise -/
theorem r_veI {K : PySem.W.Frag} {ta : TA} {σ : St} {H : Hp} {Q : VK} (k : ta σ H fun vs H1 => ∃ (a C : Addr) (ws : List V), vs = .ref a :: ws ∧ ws.length ≤ 1000 ∧ OexC K C ∧ H1 a = some (exo a C none) ∧ Q .non H1) : tVeI K ta σ H Q := k
theorem r_makeS {C : Addr} {sp : Sp} {dvs : List V} {E : St → XK} {t : TA} {σ : St} {H : Hp} {Q : VK} (k : t σ H fun vs H1 => ∀ x dx, H1 x = none → H1 dx = none → dx ≠ x →
  sp (.ref x :: (vs ++ dvs)) (upd (upd H1 dx (.own x)) x (.ins C dx [])) (fun v H2 => v = .non ∧ Q (.ref x) H2) (E σ)) : tMakeS C sp dvs E t σ H Q := k
theorem r_make {C : Addr} {sp : Sp} {dvs : List V} {E : XK} {t : TA} {σ : St} {H : Hp} {Q : VK} (k : t σ H fun vs H1 => ∀ x dx, H1 x = none → H1 dx = none → dx ≠ x →
  sp (.ref x :: (vs ++ dvs)) (upd (upd H1 dx (.own x)) x (.ins C dx [])) (fun v H2 => v = .non ∧ Q (.ref x) H2) E) : tMake C sp dvs E t σ H Q := k
end Hg
end L2
end

section
set_option Elab.async false
set_option linter.all false
set_option maxRecDepth 100000
set_option maxHeartbeats 4000000
/-! Methods and properties of own classes as one hypothesis; tuple * int; what stays of a heap. -/
namespace L2
namespace Hg
open PySem PySem.Spec PyProof.Rows

/-! ### methods -/
structure MetAt (K : PySem.W.Frag) (C : Addr) (m q : Str) (st : Stmt) : Prop where
  cl : Cls K C
  ex : ∃ f fd, Meth K C m f ∧ Fun K m q st f fd
def MetOk (P : Program) (w : World) (K : PySem.W.Frag) (mg : Str → Option Value) (base : Heap) (CX : CXT) (k : Nat) (C : Addr) (m : Str) (ps : List Str) (sp : Sp) : Prop :=
  Cls K C ∧ ∃ f fd, Meth K C m f ∧ FnOk P w K mg base CX k f fd ps sp ∧ Binds K fd ps []
structure PrpAt (K : PySem.W.Frag) (C : Addr) (m q : Str) (st : Stmt) : Prop where
  cl : Cls K C
  ex : ∃ p g fd, PropOf K C m p g ∧ Fun K m q st g fd
def PrpOk (P : Program) (w : World) (K : PySem.W.Frag) (mg : Str → Option Value) (base : Heap) (CX : CXT) (k : Nat) (C : Addr) (m : Str) (sp : Sp) : Prop :=
  Cls K C ∧ ∃ p g fd, PropOf K C m p g ∧ FnOk P w K mg base CX k g fd ["self"] sp ∧ Binds K fd ["self"] []
section
variable {P : Program} {w : World} {K : PySem.W.Frag} {mg : Str → Option Value} {base : Heap} {k : Nat} {m q : Str} {st : Stmt} {C : Addr} {N ps : List Str} {sp : Sp}
theorem MetAt.ok (F : MetAt K C m q st) (S : FnScope N ps (defScope st)) (hb : BindsAs st m q ps) (len : ∀ vs H Q E, sp vs H Q E → vs.length = ps.length)
    (hbody : ∀ (f : Addr) (cdv : Value) (A : Around) (outer : List Env) (s : Shared) (H : Hp) (vs : List V) (Q : VK) (E : XK), Room k (A.deeper (envOfC q (defScope st) s.heap.objs.size f cdv)) → sp vs H Q E →
      ∃ t, PSs (cxOf CX0 P w K mg base N q (defScope st) f cdv A outer s H E).nox (defBody st) t ∧ t { nx := fun _ H' => Q .non H', rt := Q } (start N vs) H) : MetOk P w K mg base CX0 (k + 1) C m ps sp := by
  obtain ⟨f, fd, hm, F1⟩ := F.ex
  exact ⟨F.cl, f, fd, hm, F1.ok S len fun cdv A outer s H vs Q E hr h => hbody f cdv A outer s H vs Q E hr h, F1.binds hb⟩
theorem MetAt.okX (F : MetAt K C m q st) (S : FnScope N ps (defScope st)) (hb : BindsAs st m q ps) (len : ∀ vs H Q E, sp vs H Q E → vs.length = ps.length)
    (hbody : ∀ (f : Addr) (cdv : Value) (A : Around) (outer : List Env) (s : Shared) (H : Hp) (vs : List V) (Q : VK) (E : XK), Room k (A.deeper (envOfC q (defScope st) s.heap.objs.size f cdv)) → sp vs H Q E →
      ∃ t, PSs (cxOf (L2.CX P w) P w K mg base N q (defScope st) f cdv A outer s H E) (defBody st) t ∧ t { nx := fun _ H' => Q .non H', rt := Q } (start N vs) H) : MetOk P w K mg base (L2.CX P w) (k + 1) C m ps sp := by
  obtain ⟨f, fd, hm, F1⟩ := F.ex
  exact ⟨F.cl, f, fd, hm, F1.okX S len fun cdv A outer s H vs Q E hr h => hbody f cdv A outer s H vs Q E hr h, F1.binds hb⟩
theorem PrpAt.ok (F : PrpAt K C m q st) (S : FnScope N ["self"] (defScope st)) (hb : BindsAs st m q ["self"]) (len : ∀ vs H Q E, sp vs H Q E → vs.length = 1)
    (hbody : ∀ (f : Addr) (cdv : Value) (A : Around) (outer : List Env) (s : Shared) (H : Hp) (vs : List V) (Q : VK) (E : XK), Room k (A.deeper (envOfC q (defScope st) s.heap.objs.size f cdv)) → sp vs H Q E →
      ∃ t, PSs (cxOf CX0 P w K mg base N q (defScope st) f cdv A outer s H E).nox (defBody st) t ∧ t { nx := fun _ H' => Q .non H', rt := Q } (start N vs) H) : PrpOk P w K mg base CX0 (k + 1) C m sp := by
  obtain ⟨p, f, fd, hm, F1⟩ := F.ex
  exact ⟨F.cl, p, f, fd, hm, F1.ok S len fun cdv A outer s H vs Q E hr h => hbody f cdv A outer s H vs Q E hr h, F1.binds hb⟩
end
section
variable {X : Cx} {CX : CXT} {k : Nat} {C : Addr} {m : Str} {ps : List Str} {sp : Sp} {E : XK} {ES : St → XK} {o e : Expr} {es : List Expr} {ta : TE} {t : TA} {apos pos : Pos}
theorem pe_metD {pl : Sem Bool} (F : MetOk X.prog X.w X.K X.mg X.base CX k C m ps sp) (hr : Room k X.A) (hx : Passes CX X E) (he : PE X o ta) (ha : PA X (e :: es) t)
    (hst : starEach (e :: es) X.env = (false, eval e X.env) :: starEach es X.env := by rfl) (hpl : (backTo pos (starEach es X.env)).any (·.1) = false := by rfl)
    (ht : eval (.Call (.Attribute o m apos) (e :: es) [] pos) X.env = (do
      let ov ← eval o X.env
      standAt apos.atName
      let (f, first) ← holding [ov] (getMethod ov m pl)
      callWith pos f first (backTo pos (starEach (e :: es) X.env)) (backToKw pos (keywordEach [] X.env))) := by rfl) :
    PE X (.Call (.Attribute o m apos) (e :: es) [] pos) (tMeth C m sp [] E ta t) :=
  let ⟨c, _, _, hm, G, hb⟩ := F
  pe_meth he c hm G hr hb .nil hx ha hst hpl ht
theorem pe_metD0 {pl : Sem Bool} (F : MetOk X.prog X.w X.K X.mg X.base CX k C m ps sp) (hr : Room k X.A) (hx : Passes CX X E) (he : PE X o ta)
    (ht : eval (.Call (.Attribute o m apos) [] [] pos) X.env = (do
      let ov ← eval o X.env
      standAt apos.atName
      let (f, first) ← holding [ov] (getMethod ov m pl)
      callWith pos f first (backTo pos (starEach [] X.env)) (backToKw pos (keywordEach [] X.env))) := by rfl) :
    PE X (.Call (.Attribute o m apos) [] [] pos) (tMeth C m sp [] E ta tNil) :=
  let ⟨c, _, _, hm, G, hb⟩ := F
  pe_meth0 he c hm G hr hb .nil hx ht
/-- o.m(e, ..) where what is raised is wished at the slots -/
def tMetS (C : Addr) (m : Str) (sp : Sp) (E : St → XK) (ta : TE) (t : TA) : TE := fun σ H Q => ta σ H fun x H1 => ∃ a dx fs, x = .ref a ∧ H1 a = some (.ins C dx fs) ∧ fs.lookup m = none ∧
  t σ H1 fun vs H2 => sp (x :: vs) H2 Q (E σ)
theorem pe_metDS {pl : Sem Bool} (F : MetOk X.prog X.w X.K X.mg X.base CX k C m ps sp) (hr : Room k X.A) (hx : ∀ σ, PassesAt CX X σ (ES σ)) (he : PE X o ta) (ha : PA X (e :: es) t)
    (hst : starEach (e :: es) X.env = (false, eval e X.env) :: starEach es X.env := by rfl) (hpl : (backTo pos (starEach es X.env)).any (·.1) = false := by rfl)
    (ht : eval (.Call (.Attribute o m apos) (e :: es) [] pos) X.env = (do
      let ov ← eval o X.env
      standAt apos.atName
      let (f, first) ← holding [ov] (getMethod ov m pl)
      callWith pos f first (backTo pos (starEach (e :: es) X.env)) (backToKw pos (keywordEach [] X.env))) := by rfl) :
    PE X (.Call (.Attribute o m apos) (e :: es) [] pos) (tMetS C m sp ES ta t) := by
  obtain ⟨c, f, fd, hm, G, hb⟩ := F
  refine ⟨fun pins s σ H Q I h => ?_⟩
  refine PySem.W.methodCall_KW (pl := pl) (thn (he.run pins s σ H _ I h) fun u s1 ⟨x, H1, I1, rx, a, dx, fs, ex, ea, l, q⟩ => ?_) ht
  subst ex
  obtain rfl : u = Value.ref a := rx
  refine getmeth_ok I1 ea c hm l ?_
  refine PySem.W.callWith_K (first := [.ref a]) (h₀ := X.base) I.ok.mod.kin hm.kp (thn (ha.run pos pins s1 σ H1 _ I1 q) fun us s2 ⟨vs, H2, I2, r, q2⟩ => ⟨I2.kIn, ?_⟩) hst hpl
  exact run_fnS (us := .ref a :: us) (vs := .ref a :: vs) G hr hb (hx σ) I2 (.cons rfl r) q2
theorem pe_prpD (F : PrpOk X.prog X.w X.K X.mg X.base CX k C m sp) (hr : Room (k + 1) X.A) (hx : Passes CX X.nox E) (he : PE X e ta)
    (hab : attributeBase e m X.env (eval e X.env) = eval e X.env := by rfl) : PE X (.Attribute e m pos) (tProp C sp [] E ta) :=
  let ⟨c, _, _, _, hm, G, hb⟩ := F
  pe_prop he c hm G hr hb .nil hx hab
variable {σ : St} {H : Hp} {Q : VK} {dvs : List V}
theorem r_meth (k : ta σ H fun x H1 => ∃ a dx fs, x = .ref a ∧ H1 a = some (.ins C dx fs) ∧ fs.lookup m = none ∧ t σ H1 fun vs H2 => sp (x :: (vs ++ dvs)) H2 Q E) : tMeth C m sp dvs E ta t σ H Q := k
theorem r_metS (k : ta σ H fun x H1 => ∃ a dx fs, x = .ref a ∧ H1 a = some (.ins C dx fs) ∧ fs.lookup m = none ∧ t σ H1 fun vs H2 => sp (x :: vs) H2 Q (ES σ)) : tMetS C m sp ES ta t σ H Q := k
theorem r_prop (k : ta σ H fun x H1 => ∃ a dx fs, x = .ref a ∧ H1 a = some (.ins C dx fs) ∧ sp (.ref a :: dvs) H1 Q E) : tProp C sp dvs E ta σ H Q := k
theorem r_obj {R : Prop} {a dx : Addr} {fs : List (Str × V)} (h : H a = some (.ins C dx fs)) (l : fs.lookup m = none) (k : R) :
    ∃ a' dx' fs', V.ref a = .ref a' ∧ H a' = some (.ins C dx' fs') ∧ fs'.lookup m = none ∧ R := ⟨a, dx, fs, rfl, h, l, k⟩
theorem r_pobj {R : Addr → Prop} {a dx : Addr} {fs : List (Str × V)} (h : H a = some (.ins C dx fs)) (k : R a) :
    ∃ a' dx' fs', V.ref a = .ref a' ∧ H a' = some (.ins C dx' fs') ∧ R a' := ⟨a, dx, fs, rfl, h, k⟩
/-! ### stars, parallel stores -/
variable {K : PySem.W.Frag} {te : TE} {QL : List V → Hp → Prop} {D : Ends} {i j l : Nat}
theorem r_star (k : te σ H fun x H1 => ∃ p xs, x = V.ref p ∧ (SqT K H1 p xs ∨ SqL K H1 p xs) ∧ t σ H1 fun ys H2 => QL (xs ++ ys) H2) : StX.tStar K te t σ H QL := k
theorem r_st {R : List V → Prop} {p : Addr} {xs : List V} (h : SqT K H p xs ∨ SqL K H p xs) (k : R xs) : ∃ p' xs', V.ref p = V.ref p' ∧ (SqT K H p' xs' ∨ SqL K H p' xs') ∧ R xs' := ⟨p, xs, rfl, h, k⟩
theorem r_par (k : t σ H fun vs H1 => ∃ v w, vs = [v, w] ∧ D.nx ((σ.set i (some v)).set j (some w)) H1) : tPar i j t D σ H := k
theorem r_par3 (k : t σ H fun vs H1 => ∃ u v w, vs = [u, v, w] ∧ D.nx (((σ.set i (some u)).set j (some v)).set l (some w)) H1) : tPar3 i j l t D σ H := k
theorem r_v2 {v w : V} {R : V → V → Prop} (k : R v w) : ∃ v' w', [v, w] = [v', w'] ∧ R v' w' := ⟨v, w, rfl, k⟩
theorem r_v3 {u v w : V} {R : V → V → V → Prop} (k : R u v w) : ∃ u' v' w', [u, v, w] = [u', v', w'] ∧ R u' v' w' := ⟨u, v, w, rfl, k⟩
/-! ### slices -/
variable {r : V → Option Int → Option Int → Hp → VK → Prop} {tl th : TO} {QO : Option Int → Hp → Prop}
theorem r_sl (k : te σ H fun x H1 => tl σ H1 fun l H2 => th σ H2 fun u H3 => r x l u H3 Q) : tSl r te tl th σ H Q := k
theorem r_part (k : te σ H fun x H1 => ∃ i, x = .int i ∧ QO (some i) H1) : tPart te σ H QO := k
theorem r_noPart (k : QO none H) : tNoPart σ H QO := k
theorem r_i {n : Int} {R : Int → Prop} (k : R n) : ∃ i, V.int n = .int i ∧ R i := ⟨n, rfl, k⟩
theorem pa_starK (K : PySem.W.Frag) {X : Cx} {e : Expr} {es : List Expr} {te : TE} {t : TA} {p : Pos} (he : PE X e te) (hr : PA X es t) (hs : starEach (.Starred e p :: es) X.env = (true, eval e X.env) :: starEach es X.env := by rfl) (hK : X.K = K := by rfl) : PA X (.Starred e p :: es) (StX.tStar K te t) := hK ▸ StX.pa_star he hr hs
theorem slT (K : PySem.W.Frag) {X : Cx} (hK : X.K = K := by rfl) : SlR X (rSlT K) := hK ▸ sl_tup
end
/-! ### cuts -/
def tSeqC (t u : TS) : TS := fun D σ H => ∃ P : St → Hp → Prop, t { D with nx := P } σ H ∧ ∀ σ' H', P σ' H' → u D σ' H'
theorem pss_cut {X : Cx} {st : Stmt} {rest : List Stmt} {t u : TS} (h1 : PS X st t) (h2 : PSs X rest u) : PSs X (st :: rest) (tSeqC t u) := by
  refine ⟨fun pins s σ H D I h => ?_⟩
  obtain ⟨P, h, q0⟩ := h
  refine wpAny_execs_cons (thn (h1.run pins s σ H { D with nx := P } I h) fun f s1 q => ?_)
  cases f with
  | next =>
    obtain ⟨σ', H', I', q⟩ := q
    exact h2.run pins s1 σ' H' D I' (q0 _ _ q)
  | ret v => exact q
  | brk => exact q
  | cont => exact q
theorem r_cut {t u : TS} {D : Ends} {σ : St} {H : Hp} (P : St → Hp → Prop) (h : t { D with nx := P } σ H) (k : ∀ σ' H', P σ' H' → u D σ' H') : tSeqC t u D σ H := ⟨P, h, k⟩
def tCut (t : TE) : TE := fun σ H Q => ∃ P : VK, t σ H P ∧ ∀ v H', P v H' → Q v H'
theorem pe_cut {X : Cx} {e : Expr} {t : TE} (h : PE X e t) : PE X e (tCut t) := by
  refine ⟨fun pins s σ H Q I hq => ?_⟩
  obtain ⟨P, hq, q0⟩ := hq
  refine thn (h.run pins s σ H P I hq) fun u s1 ⟨v, H1, I1, r, q⟩ => ⟨v, H1, I1, r, q0 _ _ q⟩
theorem r_cutE {t : TE} {σ : St} {H : Hp} {Q : VK} (P : VK) (h : t σ H P) (k : ∀ v H', P v H' → Q v H') : tCut t σ H Q := ⟨P, h, k⟩
def tCutT (t : TT) : TT := fun σ H Q => ∃ P : Bool → Hp → Prop, t σ H P ∧ ∀ v H', P v H' → Q v H'
theorem pt_cut {X : Cx} {e : Expr} {t : TT} (h : PT X e t) : PT X e (tCutT t) := by
  refine ⟨fun pins s σ H Q I hq => ?_⟩
  obtain ⟨P, hq, q0⟩ := hq
  exact thn (h.run pins s σ H P I hq) fun u s1 ⟨H1, I1, q⟩ => ⟨H1, I1, q0 _ _ q⟩
theorem r_cutT {t : TT} {σ : St} {H : Hp} {Q : Bool → Hp → Prop} (P : Bool → Hp → Prop) (h : t σ H P) (k : ∀ v H', P v H' → Q v H') : tCutT t σ H Q := ⟨P, h, k⟩
/-! ### tuple * int -/
theorem tuple_mul1 (l : Addr) (items : Array Value) (n : Nat) (dd : Option Addr) (sl : Array (Option Value)) (u : Tok) :
    Meets (Builtin.«tuple.__mul__» ⟨[.ref l, .int 1 u], []⟩) (fun _ R s => s.heap.get? l = some { cls := .type "tuple", dict := dd, data := .seq items n, slots := sl } ∧ R (.ok (.ret (Value.ref l))) s) :=
  .of_wp fun prog w A R s h => by
    obtain ⟨hp, g, d, tk, os⟩ := s
    obtain ⟨hl, h⟩ := h
    have f1 := AutoSeq1.idx_int
    have c1 : (items.isEmpty || (1 : Int) == 1) = true := by rw [Bool.or_eq_true]; exact .inr rfl
    have c0 : (decide ((1 : Int) < -(2 ^ 63)) || decide ((1 : Int) ≥ 2 ^ 63)) = false := by decide
    wp_walk using wpAny_loadPart' hl
    repeat (first
      | (refine wpAny_ite_false (decide_eq_false (by rw [c0]; exact Bool.false_ne_true)) ?_; wp_walk using wpAny_loadPart' hl)
      | (refine wpAny_ite_true (decide_eq_true c1) ?_; wp_walk using wpAny_loadPart' hl))
    exact ⟨_, rfl, h⟩
def rRep1 (K : PySem.W.Frag) : R2 := fun x y H Q => ∃ l xs, x = .ref l ∧ y = .int 1 ∧ SqT K H l xs ∧ Q (.ref l) H
theorem op_rep1 {X : Cx} : OpR X (binaryOp .Mult) (rRep1 X.K) := by
  intro pins s σ H x y v u Q I rx ry h
  obtain ⟨l, xs, rfl, rfl, hT, q⟩ := h
  cases rx
  obtain ⟨t, rfl⟩ := ry
  obtain ⟨its, r, ⟨⟨cls, dd, data, sl⟩, ho, hc, n, hd⟩, hs⟩ := I.tuple hT
  simp only at hc hd
  subst hc hd
  refine wpAny_binaryOp_repeat_ref (T := "tuple") (U := "int") (by decide) ⟨_, ho, rfl⟩ (fun s' => typeIs_int s' 1 t) noFill_tuple_mul F.fills_int_mul F.slot_int_rmul repeat_tuple F.slot_int_index.lookup
    (call_meets F.slot_int_rmul (typeIs_int s 1 t) F.entry_int_rmul (F.args_int_rmul_2 _ _) (int_rmul_tuple 1 t l its.toArray n dd sl)
      ⟨ho, rfl, ⟨_, ho, rfl⟩, call_meets F.slot_tuple_mul ⟨_, ho, rfl⟩ F.entry_tuple_mul (F.args_tuple_mul_2 _ _) (tuple_mul1 l its.toArray n dd sl t) ⟨ho, ?_⟩⟩)
  exact ⟨.ref l, H, I, rfl, q⟩
def uMulT (K : PySem.W.Frag) : R2 := fun x y H Q => rRep1 K x y H Q ∨ rRepT K x y H Q
theorem o_mulT (K : PySem.W.Frag) {X : Cx} (hK : X.K = K := by rfl) : OpR X (binaryOp .Mult) (uMulT K) := hK ▸ OpR.or op_rep1 op_repT
theorem flat_one {α : Type} (n : Nat) (x : α) : (List.replicate n [x]).flatten = List.replicate n x := by
  induction n with
  | zero => rfl
  | succ n ih => rw [List.replicate_succ, List.flatten_cons, ih]; rfl
theorem r_mulT1 {K : PySem.W.Frag} {H : Hp} {Q : VK} {l : Addr} {v : V} {k : Int} (h : H l = some (.tup [v])) (h1 : 1 ≤ k) (h2 : k ≤ 1000)
    (q : ∀ (p : Addr) (H' : Hp), Same H H' → H' p = some (.tup (List.replicate k.toNat v)) → Q (.ref p) H') : uMulT K (.ref l) (.int k) H Q := by
  by_cases e : k = 1
  · subst e
    exact .inl ⟨l, _, rfl, rfl, SqT.of h, q l H (fun _ _ z => z) h⟩
  · refine .inr ⟨l, k, _, rfl, rfl, SqT.of h, by simp, by omega, h2, by simp, fun p hp => q p _ (same_new hp) ?_⟩
    rw [upd_same, flat_one]
/-! ### what stays -/
/-- all tuples stay -/
def Tk (H H' : Hp) : Prop := ∀ q xs, H q = some (.tup xs) → H' q = some (.tup xs)
section
variable {H0 H H' H1 H2 : Hp} {p b a : Addr} {o : HO}
theorem Tk.refl : Tk H H := fun _ _ h => h
theorem Tk.trans (h : Tk H H1) (g : Tk H1 H2) : Tk H H2 := fun q xs e => g q xs (h q xs e)
theorem Same.refl : Same H H := fun _ _ h => h
theorem Same.at (s : Same H H1) (h : H p = some o) : H1 p = some o := s p o h
theorem Same.tk (h : Same H H') : Tk H H' := fun q xs e => h q _ e
theorem Bx.tk (h : Bx b H H') (hb : BoxAt H b) : Tk H H' := fun q xs e => h.keep q _ (hb.ne e fun _ _ _ z => nomatch z) e
theorem Tk.new (h : Tk H0 H) (hp : H p = none) : Tk H0 (upd H p o) := fun q xs e => at_upd (ne_of_none (h q xs e) hp) (h q xs e)
theorem Tk.newF (h : Tk H0 H) (hp : H0 p = none) : Tk H0 (upd H p o) := fun q xs e => at_upd (ne_of_none e hp) (h q xs e)
theorem Tk.setL {xs : List V} (h : Tk H0 H) (hp : H p = some (.lst xs)) : Tk H0 (upd H p o) := fun q ys e => by
  have g := h q ys e
  refine at_upd (fun z => ?_) g
  subst z
  rw [hp] at g
  exact nomatch Option.some.inj g
theorem Tk.setI {C dx : Addr} {fs : List (Str × V)} (h : Tk H0 H) (hp : H p = some (.ins C dx fs)) : Tk H0 (upd H p o) := fun q ys e => by
  have g := h q ys e
  refine at_upd (fun z => ?_) g
  subst z
  rw [hp] at g
  exact nomatch Option.some.inj g
theorem Same.updF (s : Same H0 H) (h : H0 p = none) : Same H0 (upd H p o) := fun q u e => at_upd (ne_of_none e h) (s q u e)
theorem Same.new (s : Same H0 H) (h : H p = none) : Same H0 (upd H p o) := fun q u e => at_upd (ne_of_none (s q u e) h) (s q u e)
theorem Same.bx (s : Same H0 H) (hx : Bx b H H') (h : H0 b = none) : Same H0 H' := fun q u e => hx.keep q u (ne_of_none e h) (s q u e)
theorem Same.free (s : Same H0 H) (h : H p = none) : H0 p = none := by
  cases e : H0 p with
  | none => rfl
  | some u => rw [s p u e] at h; cases h
theorem BoxAt.same (h : BoxAt H b) (s : Same H H') : BoxAt H' b := let ⟨x, y, z, q⟩ := h; ⟨x, y, z, s _ _ q⟩
theorem BoxAt.at (h : BoxAt H b) (n : b ≠ p) : BoxAt (L2.upd H p o) b := let ⟨x, y, z, q⟩ := h; ⟨x, y, z, at_upd n q⟩
/-- all stays but x -/
def Kx (x : Addr) (H H' : Hp) : Prop := ∀ q o, q ≠ x → H q = some o → H' q = some o
theorem Kx.at (k : Kx a H H') (n : p ≠ a) (h : H p = some o) : H' p = some o := k p o n h
theorem Kx.refl : Kx a H H := fun _ _ _ h => h
theorem Kx.trans (h : Kx a H H1) (g : Kx a H1 H2) : Kx a H H2 := fun q o n e => g q o n (h q o n e)
theorem Kx.set (h : Kx a H H1) : Kx a H (upd H1 a o) := fun q u n e => at_upd n (h q u n e)
theorem Kx.new (h : Kx a H H1) (hp : H p = none) : Kx a H (upd H1 p o) := fun q u n e => at_upd (ne_of_none e hp) (h q u n e)
theorem Kx.same (h : Kx a H H1) (s : Same H1 H2) : Kx a H H2 := fun q u n e => s q u (h q u n e)
theorem Same.kx (s : Same H0 H) (k : Kx a H H') (h : H0 a = none) : Same H0 H' := fun q u e => k q u (ne_of_none e h) (s q u e)
theorem Kx.tk {C dx : Addr} {fs : List (Str × V)} (k : Kx a H H') (hp : H a = some (.ins C dx fs)) : Tk H H' := fun q ys e => k q _ (fun z => by
  subst z
  rw [hp] at e
  exact nomatch Option.some.inj e) e
theorem BoxAt.fresh (h : BoxAt H b) (hp : H p = none) : b ≠ p := fun e => by
  obtain ⟨x, y, z, q⟩ := h
  rw [e, hp] at q
  exact nomatch q
/-- a pick of a list that was just written -/
theorem r_pickN {K : PySem.W.Frag} {Q : VK} {E : XK} {xs : List V} (h : BoxAt H b) (hp : H p = none) (h1 : 1 ≤ xs.length) (h2 : xs.length < 1000000) (k : ∀ (v : V) (H' : Hp), v ∈ xs → Bx b H H' → Q v H') :
    spPick K [.ref b, .ref p] (upd H p (.lst xs)) Q E :=
  ⟨b, p, xs, rfl, h.upd hp, .inl (SqL.of upd_same), Ne.symm (h.fresh hp), h1, h2, fun v H' hv hx => k v H' hv (((Bx.refl h).upd hp).trans hx)⟩
theorem r_pickT {K : PySem.W.Frag} {Q : VK} {E : XK} {xs : List V} (h : BoxAt H b) (hp : H p = none) (h1 : 1 ≤ xs.length) (h2 : xs.length < 1000000) (k : ∀ (v : V) (H' : Hp), v ∈ xs → Bx b H H' → Q v H') :
    spPick K [.ref b, .ref p] (upd H p (.tup xs)) Q E :=
  ⟨b, p, xs, rfl, h.upd hp, .inr (SqT.of upd_same), Ne.symm (h.fresh hp), h1, h2, fun v H' hv hx => k v H' hv (((Bx.refl h).upd hp).trans hx)⟩
theorem r_take {Q : VK} {E : XK} {m : Int} (h : BoxAt H b) (h1 : 1 ≤ m) (h2 : m < 100000000000000000000) (k : ∀ (d : Int) (H' : Hp), 0 ≤ d → d < m → Bx b H H' → Q (.int d) H') : spTake [.ref b, .int m] H Q E := ⟨b, m, rfl, h, h1, h2, k⟩
theorem ne_kind {u : HO} (h : H p = some o) (g : H a = some u) (n : o ≠ u) : p ≠ a := fun e => by
  subst e
  rw [h] at g
  exact n (Option.some.inj g)
theorem Same.seqL {K : PySem.W.Frag} {l : Addr} {xs : List V} (s : Same H H') (q : SqL K H l xs) : SqL K H' l xs := by
  rcases q with (q | ⟨u, q⟩) | q
  · exact .inl (.inl (s _ _ q))
  · exact .inl (.inr ⟨u, s _ _ q⟩)
  · exact .inr q
end
end Hg
end L2
end

section
set_option Elab.async false
set_option linter.all false
set_option maxRecDepth 100000
set_option maxHeartbeats 4000000
/-! The end of a law's row from a promise that is asked where no guard is set. -/
namespace L2
namespace Hg
open PySem PySem.Spec PyProof.Rows

theorem kit_sub {K : PySem.W.Frag} {C D : Addr} {b : Bool} (hd : PySem.W.hasDictIn K C = true) (ht : PySem.W.typeIn K (.ref C) = some (.type "type")) (h : PySem.W.subIn K (.ref D) (.ref C) = some b) (self : PySem.W.subIn K (.ref D) (.ref D) = some true) : PySem.W.kitOne K (.ref D) (.ref C) = some b := by
  obtain ⟨cd, hc, _⟩ := PySem.W.any_some hd
  have e2 : ((PySem.W.clsIn K C).isSome && PySem.W.typeIn K (.ref C) == some (.type "type")) = true := by rw [hc, ht] <;> rfl
  by_cases e : D = C
  · subst e
    rw [self] at h
    cases h
    show (if ((Value.ref D == Value.ref D) = true) then some true else _) = some true
    rw [if_pos (beq_self_eq_true _)]
  · show (if ((Value.ref D == Value.ref C) = true) then some true else (if ((PySem.W.clsIn K C).isSome && PySem.W.typeIn K (.ref C) == some (.type "type")) = true then PySem.W.subIn K (.ref D) (.ref C) else none)) = some b
    rw [if_neg (fun z => e (by have := beq_iff_eq.mp z; cases this; rfl)), if_pos e2]
    exact h

theorem law_callG {P : Program} {w : World} {K : PySem.W.Frag} {mg mb : Str → Option Value} {k : Nat} {fa a : Addr} {nm x : Str} {sp : Sp} {s₁ : Shared} {vs : List Value} {ns : List Int}
    (KX : K.In s₁.heap) (hns : s₁.heap.Ns mainGlobals mg) (hb : s₁.heap.Ns builtinsNs mb) (hbb : ∀ x : Str, x ≠ "__name__" → mb x = bootBuiltins x) (hlim : s₁.heap.NoLimit) (hg : s₁.gens = #[])
    (ha : s₁.heap.get? a = some { cls := .type "list", data := .seq vs.toArray }) (hi : IntsAre vs ns) (hl : ns.length ≤ sizeLine) (hr : Room k callerA)
    (hmg : mg nm = some (.ref fa)) (F : ∀ base : Heap, K.In base → base.Ns mainGlobals mg → DefG P w K mg base CX0 k nm [x] sp)
    (hsp : ∀ H : Hp, SqL K H a (ns.map V.int) → sp [.ref a] H (fun v _ => v = .bl true) fun _ _ _ => False) :
    codeAny (model P w) callerA (.call (.ref fa) ⟨[.ref a], []⟩) (fun r s' => r = .ok (.ret (.bool true)) ∧ OldK s₁.heap s'.heap ∧ s'.os = s₁.os ∧ AllBare s'.gens) s₁ := by
  have rv := vals_ints hi
  have lenV := hi.length
  have core : ∀ H : Hp, Only H → SqL K H a (ns.map V.int) → HOk P w H s₁.heap → (∀ b, H b ≠ none → b = a) → (H a ≠ none → K.lookup a = none) →
      codeAny (model P w) callerA (.call (.ref fa) ⟨[.ref a], []⟩) (fun r s' => r = .ok (.ret (.bool true)) ∧ OldK s₁.heap s'.heap ∧ s'.os = s₁.os ∧ AllBare s'.gens) s₁ := by
    intro H hO hS hok hA hK
    have only : ∀ {b : Addr}, H b ≠ none → b = a := fun {b} n => hA b n
    have hidK : ∀ {b : Addr} {o : Obj}, s₁.heap.get? b = some o → H b = none → (hidT s₁.heap H).get? b = some o := fun z n => hidT_get z n
    have noDict : ∀ {b : Addr} {o : Obj} {es : Array DictEntry} {ep : Nat}, s₁.heap.get? b = some o → o.data = .dict es ep → H b = none := by
      intro b o es ep z d
      cases q : H b with
      | none => rfl
      | some u =>
        obtain rfl : b = a := only (by rw [q]; simp)
        rw [ha] at z
        cases z
        cases (show Data.seq vs.toArray _ = Data.dict es ep from d)
    have nsK : ∀ {b : Addr} {m : Str → Option Value}, s₁.heap.Ns b m → (hidT s₁.heap H).Ns b m := by
      rintro b m ⟨o, es, ep, z, d, r⟩
      exact ⟨o, es, ep, hidK z (noDict z d), d, r⟩
    have hKb : K.In (hidT s₁.heap H) := by
      intro b o z
      refine hidK (KX b o z) ?_
      cases q : H b with
      | none => rfl
      | some u =>
        obtain rfl : b = a := only (by rw [q]; simp)
        rw [hK (by rw [q]; simp)] at z
        cases z
    have hM : Mod K mg (hidT s₁.heap H) := by
      obtain ⟨mc, h1, h2⟩ := hlim
      exact ⟨hKb, nsK hns, ⟨mb, nsK hb, hbb⟩, ⟨mc, nsK h1, h2⟩⟩
    have e0 : Env0 P w K mg (hidT s₁.heap H) callerA [] s₁ H := by
      refine ⟨rfl, hM, fun b o z => of_hidT z, Nat.le_of_eq (hidT_size _ _), trivial, fun b hb => ?_, hok, .of_eq hg⟩
      cases (show b ∈ ([] : List Addr) from hb)
    obtain ⟨f, fd, hm, _, FG, hbind⟩ := F _ hKb (nsK hns)
    rw [hmg] at hm
    cases hm
    have main := FG.run callerA [] s₁ H ⟨[.ref a], []⟩ [.ref a] [.ref a] _ _ rfl hr e0 (hbind s₁ [.ref a] KX rfl) (.cons rfl .nil) (hsp H hS)
    refine codeAny_mono main fun r s' h => ?_
    cases r with
    | error e => exact False.elim h
    | ok fl =>
      cases fl with
      | next => exact False.elim h
      | brk => exact False.elim h
      | cont => exact False.elim h
      | ret u =>
        obtain ⟨v, H', os, bare, un, hok', r', q⟩ := h
        obtain rfl : v = .bl true := q
        obtain rfl : u = Value.bool true := r'
        refine ⟨rfl, OldK.of_keep fun b o z => ?_, os, bare⟩
        cases q : H b with
        | none => exact un.keep b o z q (fun y => by cases (show b ∈ ([] : List Addr) from y)) (by simp)
        | some u =>
          rcases hO b with y | ⟨ob, xs, y⟩
          · rw [q] at y; cases y
          · obtain ⟨e1, _⟩ := hok b _ y
            obtain ⟨e2, _⟩ := hok' b _ (un.frzs b ob _ y)
            rw [z] at e1
            cases e1
            exact e2
  cases hk : K.lookup a with
  | some o =>
    have z := KX a o hk
    rw [ha] at z
    cases z
    refine core (fun _ => none) (fun _ => .inl rfl) (.inr ⟨_, vs.toArray, _, hk, rfl, rfl, rfl, ?_, by simpa using rv⟩) (fun b u y => ?_) (fun b y => absurd rfl y) fun y => absurd rfl y
    · rw [List.size_toArray, lenV]; exact hl
    · cases (show (none : Option HO) = some u from y)
  | none =>
    let ob : Obj := { cls := .type "list", data := .seq vs.toArray }
    refine core (fun b => if b = a then some (.frz ob (.lst (ns.map V.int))) else none) (fun b => ?_) (.inl (.inr ⟨ob, if_pos rfl⟩)) (fun b u y => ?_) (fun b y => ?_) fun _ => hk
    · by_cases e : b = a
      · exact .inr ⟨_, _, if_pos e⟩
      · exact .inl (if_neg e)
    · by_cases e : b = a
      · have y' := (if_pos e).symm.trans y
        cases y'
        subst e
        exact ⟨ha, by rw [List.length_map]; exact hl, vs, _, rv, ha⟩
      · have y' := (if_neg e).symm.trans y
        cases y'
    · by_cases e : b = a
      · exact e
      · exact absurd (if_neg e) y

theorem walk_ofG {l : PySem.W.OpenLaw} {n k : Nat} {q : Program} {loose : List Str} {XP : (Str → Option Value) → Heap → Prop} {YP : World → Heap → Prop} {d : DefRec} {K : Params → PySem.W.Frag} {sp : PySem.W.Frag → Sp} {x : Str}
    (hn : l.most = some n) (hn2 : n ≤ sizeLine) (hdf : d.params.defaults = []) (hr : Room k callerA)
    (hY : ∀ (w : World) (h : Heap), YP w h → (K w.params).In h)
    (F : ∀ (w : World) (mg : Str → Option Value) (h : Heap), (K w.params).In h → h.Ns mainGlobals mg →
      ∀ base : Heap, (K w.params).In base → base.Ns mainGlobals mg → DefG l.prog w (K w.params) mg base CX0 k d.name [x] (sp (K w.params)))
    (hsp : ∀ (K : PySem.W.Frag) (H : Hp) (a : Addr) (ns : List Int), ns.length ≤ n → SqL K H a (ns.map V.int) → sp K [.ref a] H (fun v _ => v = .bl true) fun _ _ _ => False) :
    PySem.W.WalkO q loose XP YP l.row.toRowW d [] (fun f vs => PySem.call f vs) := by
  refine Att.attach_call hn hdf fun w s₀ s₁ mg mb fa o pm cd doc a vs ns G Y ho hd hcd hmg hobj hints hlen hg => ?_
  exact law_callG (hY w _ Y) G.T.g G.T.b G.T.builtins G.T.nolimit hg hobj hints (Nat.le_trans hlen hn2) hr hmg (F w mg _ (hY w _ Y) G.T.g) fun H hS => hsp (K w.params) H a ns hlen hS
end Hg
end L2
end

section
set_option Elab.async false
set_option linter.all false
set_option maxRecDepth 100000
set_option maxHeartbeats 4000000
/-! Iterables that are a list or a tuple; attributes as targets; dicts: comprehensions, keys, members. -/
namespace L2
namespace Hg
open PySem PySem.Spec PyProof.Rows
def uAt (K : PySem.W.Frag) (x : V) (H1 : Hp) (R : It → Hp → Prop) : Prop := ∃ a, x = .ref a ∧ (((∃ xs, SqL K H1 a xs) ∧ R (Itl K a) H1) ∨ ((∃ xs, SqT K H1 a xs) ∧ R (Itt K a) H1))
/-- a list or a tuple -/
def uIter (K : PySem.W.Frag) (te : TE) : TI := fun σ H R => te σ H fun x H1 => uAt K x H1 R
section
variable {X : Cx} {tg l o : Expr} {tl ta : TE} {f : Str} {pos : Pos}
theorem pi_u (K : PySem.W.Frag) (hl : PE X l tl) (hK : X.K = K := by rfl) : PI X tg l (uIter K tl) := by
  subst hK
  refine ⟨fun pins s σ H R I h => ?_⟩
  refine thn (hl.run pins s σ H _ I h) fun v s1 ⟨x, H1, I1, r1, q1⟩ => ?_
  obtain ⟨a, e, q1⟩ := q1
  subst e
  cases r1
  rcases q1 with ⟨⟨xs, hq⟩, q⟩ | ⟨⟨xs, hq⟩, q⟩
  · obtain ⟨its, rv, p, hz⟩ := I1.list hq
    refine wpAny_pyIter_list p.isList ?_
    refine ⟨s1.heap.objs.size, [s1.heap.objs.size], _, _, H1, rfl, I1.kept (t' := s1.toks) fun b o e => Heap.get?_push_of_some _ e, turn_list a _, ⟨_, Heap.get?_push_size _ rfl, rfl, rfl⟩, fun b hb => ?_, q⟩
    have e : b = s1.heap.objs.size := by simpa using hb
    subst e
    exact I1.fpOk (Nat.le_refl _) (I1.hok.fresh (Nat.le_refl _))
  · obtain ⟨its, rv, p, hz⟩ := I1.tuple hq
    refine wpAny_pyIter_tuple (show s1.heap.IsTuple a its.toArray from p) ?_
    refine ⟨s1.heap.objs.size, [s1.heap.objs.size], _, _, H1, rfl, I1.kept (t' := s1.toks) fun b o e => Heap.get?_push_of_some _ e, turn_tuple a _, ⟨_, Heap.get?_push_size _ rfl, rfl, rfl⟩, fun b hb => ?_, q⟩
    have e : b = s1.heap.objs.size := by simpa using hb
    subst e
    exact I1.fpOk (Nat.le_refl _) (I1.hok.fresh (Nat.le_refl _))
theorem r_iU {K : PySem.W.Frag} {te : TE} {σ : St} {H : Hp} {R : It → Hp → Prop} (k : te σ H fun x H1 => uAt K x H1 R) : uIter K te σ H R := k
/-- the walk over a list or a tuple, told alike -/
theorem r_walk {K : PySem.W.Frag} {H : Hp} {R : It → Hp → Prop} {p : Addr} {xs : List V} (h : SqL K H p xs ∨ SqT K H p xs)
    (k : ∀ (J : It) (G : Hp → Prop), Walk J xs.length G (YAt xs) → G H → (∀ H' H'', Same H' H'' → G H' → G H'') → R J H) :
    uAt K (.ref p) H R := by
  refine ⟨p, rfl, ?_⟩
  rcases h with h | h
  · exact .inl ⟨⟨xs, h⟩, k _ _ walk_list h fun H' H'' s g => Same.seqL s g⟩
  · exact .inr ⟨⟨xs, h⟩, k _ _ walk_tup h fun H' H'' s g => sameT s g⟩
/-! ### o.f as a target -/
def gFld (K : PySem.W.Frag) (ta : TE) (f : Str) : TG := fun v σ H QS => ta σ H fun x H2 => ∃ a C dx fs, x = .ref a ∧ H2 a = some (.ins C dx fs) ∧ Cls K C ∧ NoAttr K C f ∧ fs.length < 1000 ∧ QS σ (upd H2 a (.ins C dx (putF f v fs)))
theorem pg_fld (K : PySem.W.Frag) (ho : PE X o ta) (hK : X.K = K := by rfl) : PG X (.Attribute o f pos) (gFld K ta f) := by
  subst hK
  refine ⟨fun pins s σ H v u Q I r h => ?_⟩
  rw [assign_Attribute]
  refine wpAny_bind (wpAny_holding (thn (ho.run pins s σ H _ I h) fun ov s1 ⟨x, H2, I2, rx, a, C, dx, fs, ex, ea, c, n, l, q2⟩ => ?_))
  subst ex
  obtain rfl : ov = Value.ref a := rx
  refine wpAny_bind (wpAny_standAt (wpAny_bind (wpAny_holding (setattr_ok I2 ea c n l r fun s3 I3 => ?_))))
  exact wpAny_release ⟨σ, _, I3, q2⟩
theorem r_gFld {K : PySem.W.Frag} {v : V} {σ : St} {H : Hp} {QS : St → Hp → Prop} (k : ta σ H fun x H2 => ∃ a C dx fs, x = .ref a ∧ H2 a = some (.ins C dx fs) ∧ Cls K C ∧ NoAttr K C f ∧ fs.length < 1000 ∧ QS σ (upd H2 a (.ins C dx (putF f v fs)))) : gFld K ta f v σ H QS := k
theorem r_putG {K : PySem.W.Frag} {C a dx : Addr} {H : Hp} {fs : List (Str × V)} {R : Addr → Addr → Addr → List (Str × V) → Prop} (h : H a = some (.ins C dx fs)) (c : Cls K C) (n : NoAttr K C f) (z : fs.length < 1000) (k : R a C dx fs) :
    ∃ a' C' dx' fs', V.ref a = .ref a' ∧ H a' = some (.ins C' dx' fs') ∧ Cls K C' ∧ NoAttr K C' f ∧ fs'.length < 1000 ∧ R a' C' dx' fs' := ⟨a, C, dx, fs, rfl, h, c, n, z, k⟩
end
/-! ### dicts -/
section
variable {σ : St} {H : Hp} {Q : VK} {QB : Bool → Hp → Prop} {td ty : TE}
theorem r_lockE {t : TE} {d : Addr} {kvs : List (Key × V)} (h : H d = some (.dK kvs)) (k : ∀ od, t σ (upd H d (.frz od (.dK kvs))) fun v H' => H' d = some (.frz od (.dK kvs)) ∧ Q v (upd H' d (.dK kvs))) : tLockE t σ H Q := ⟨d, _, h, trivial, k⟩
theorem r_keys {R : It → Hp → Prop} (k : td σ H fun x H1 => ∃ d o, x = .ref d ∧ ((∃ kvs, H1 d = some (.frz o (.dK kvs)) ∧ R (Itk d o kvs) H1) ∨ ∃ kvs, H1 d = some (.frz o (.dT kvs)) ∧ R (Itkt d o kvs) H1)) : iKeys td σ H R := k
theorem r_din (k : ty σ H fun y H1 => td σ H1 fun x H2 => ∃ a o, x = .ref a ∧ DGet H2 a y o ∧ Q (.bl o.isSome) H2) : tDIn ty td σ H Q := k
theorem r_dinG {p : Addr} {kvs : List (Key × V)} {k : Key} {R : Option V → Prop} (h : H p = some (.dK kvs)) (q : R (valV kvs k)) : ∃ a o, V.ref p = .ref a ∧ DGet H a (kV k) o ∧ R o := ⟨p, _, rfl, DGet.k h, q⟩
theorem r_dc {wi : TI} {g : TG} {tt : TT} {tk tv : TE} {vs : List Nat} (k : wi σ H fun J H1 => ∀ D, H1 D = none → ∃ W : Nat → Nat → Hp → Prop, (∃ m, W 0 m (upd H1 D (.dK []))) ∧ ∀ i m H, W i m H →
  (J.stop i H ∧ Q (.ref D) H) ∨ (J.go i H ∧ ∃ Nx : Hp → Prop, (∀ H', Nx H' → ∃ m', m' < m ∧ W (i + 1) m' H') ∧ ∀ x H', J.yld i H x H' → g x (wipe σ vs) H' fun σ2 H2 => wipe σ2 vs = wipe σ vs ∧ tt σ2 H2 fun b H3 =>
    if b = true then tk σ2 H3 fun y H4 => tv σ2 H4 fun z H5 => ∃ kvs k, y = kV k ∧ H5 D = some (.dK kvs) ∧ kvs.length < sizeLine ∧ Nx (upd H5 D (.dK (putK kvs k z))) else Nx H3)) : tDc wi g tt tk tv vs σ H Q := k
/-- a dict comprehension over any walk -/
theorem dc_it {J : It} {n : Nat} {G : Hp → Prop} {Y : Nat → Hp → V → Hp → Prop} (w : Walk J n G Y) {g : TG} {tt : TT} {tk tv : TE} {vs : List Nat} {H1 : Hp} {D : Addr} {Qd : Hp → Prop} (Pv : Nat → Hp → Prop) (h0 : Pv 0 (upd H1 D (.dK []))) (hG : ∀ i H, i ≤ n → Pv i H → G H)
    (hs : ∀ i x H H', i < n → Pv i H → Y i H x H' → g x (wipe σ vs) H' fun σ2 H2 => wipe σ2 vs = wipe σ vs ∧ tt σ2 H2 fun b H3 =>
      if b = true then tk σ2 H3 fun y H4 => tv σ2 H4 fun z H5 => ∃ kvs k, y = kV k ∧ H5 D = some (.dK kvs) ∧ kvs.length < sizeLine ∧ Pv (i + 1) (upd H5 D (.dK (putK kvs k z))) else Pv (i + 1) H3) (hd : ∀ H, Pv n H → Qd H) :
    ∃ W : Nat → Nat → Hp → Prop, (∃ m, W 0 m (upd H1 D (.dK []))) ∧ ∀ i m H, W i m H →
      (J.stop i H ∧ Qd H) ∨ (J.go i H ∧ ∃ Nx : Hp → Prop, (∀ H', Nx H' → ∃ m', m' < m ∧ W (i + 1) m' H') ∧ ∀ x H', J.yld i H x H' → g x (wipe σ vs) H' fun σ2 H2 => wipe σ2 vs = wipe σ vs ∧ tt σ2 H2 fun b H3 =>
        if b = true then tk σ2 H3 fun y H4 => tv σ2 H4 fun z H5 => ∃ kvs k, y = kV k ∧ H5 D = some (.dK kvs) ∧ kvs.length < sizeLine ∧ Nx (upd H5 D (.dK (putK kvs k z))) else Nx H3) := by
  refine ⟨fun i m H => m = n - i ∧ i ≤ n ∧ Pv i H, ⟨n, by simp, Nat.zero_le _, h0⟩, ?_⟩
  rintro i m H ⟨rfl, hi, p⟩
  have q := hG i H hi p
  by_cases hlt : i < n
  · refine .inr ⟨w.goes i H hlt q, Pv (i + 1), fun H' p' => ⟨n - (i + 1), by omega, rfl, hlt, p'⟩, fun x H' y => hs i x H H' hlt p (w.yields i H x H' hlt q y)⟩
  · have e : i = n := by omega
    subst e
    exact .inl ⟨w.stops H q, hd H p⟩
end
theorem r_xf {a C : Addr} {cls : Value} {d : Option Addr} {f : Str} {te : TE} {σ : St} {H : Hp} {Q : VK} (k : te σ H fun x H1 => x = .ref a ∧ cls = .ref C ∧ ∃ (dd : Addr) (fs : List (Str × V)) (v : V), d = some dd ∧ H1 dd = some (.xd fs) ∧ fs.lookup f = some v ∧ Q v H1) : tXf a cls d C f te σ H Q := k
theorem r_bm {K : PySem.W.Frag} {T : String} {r : V → List V → Hp → VK → Prop} {to : TE} {t : TA} {σ : St} {H : Hp} {Q : VK} (k : to σ H fun x H1 => tyV K T x H1 ∧ t σ H1 fun xs H2 => r x xs H2 Q) : tBM K T r to t σ H Q := k
theorem r_append {l : Addr} {xs : List V} {y : V} {H : Hp} {Q : VK} (h : H l = some (.lst xs)) (z : xs.length < sizeLine) (k : Q .non (upd H l (.lst (xs ++ [y])))) : rAppend (.ref l) [y] H Q := ⟨l, xs, y, rfl, rfl, h, z, k⟩
/-! ### a name that is a dict comprehension -/
section
variable {X : Cx}
theorem ps_setDc {i : Nat} {y : Str} {py : Pos} {kx vx tg iter : Expr} {ifs : List Expr} {scope : Scope} {own : List (Str × Nat)} {pos spos : Pos} {wi : TI} {g : TG} {tt : TT} {tk tv : TE} (hc : X.calm = true) (hN : X.N.Nodup) (hy : X.N[i]? = some y) (hyl : X.env.scope.names.lookup y = some .local)
    (hsw : swapsWith (.DictComp kx vx [⟨tg, iter, ifs, 0⟩] scope pos) (some (.Name y py)) spos.line X.env = pure true) (hi : PI X tg iter wi) (ok : BlkOk X.N X.env.scope scope own)
    (hg : ∀ (s : Shared) (H : Hp) (C : Addr) (cl : List (Str × Addr)) (fp : List Addr), PG (X.blk s H scope (compEnvC scope cl C X.env) fp) tg g) (ht : ∀ (s : Shared) (H : Hp) (C : Addr) (cl : List (Str × Addr)) (fp : List Addr), PTs (X.blk s H scope (compEnvC scope cl C X.env) fp) ifs tt)
    (hk : ∀ (s : Shared) (H : Hp) (C : Addr) (cl : List (Str × Addr)) (fp : List Addr), PE (X.blk s H scope (compEnvC scope cl C X.env) fp) kx tk)
    (he : ∀ (s : Shared) (H : Hp) (C : Addr) (cl : List (Str × Addr)) (fp : List Addr), PE (X.blk s H scope (compEnvC scope cl C X.env) fp) vx tv) (hs : ∀ x, foldedSetIterable iter X.env x = pure x := by intro _; rfl) :
    PS X (.Assign [.Name y py] (.DictComp kx vx [⟨tg, iter, ifs, 0⟩] scope pos) spos) (tAsg (tDc wi g tt tk tv (own.map (·.2))) (gName i)) := by
  refine ⟨fun pins s σ H D I h => ?_⟩
  rw [exec_Assign_Name_used _ _ _ _ hsw]
  refine wpAny_bind (wpAny_standAt (wpAny_bind ?_))
  show wpAny _ X.A (do let _ ← comprehension (.DictComp kx vx [⟨tg, iter, ifs, 0⟩] scope pos) scope X.env (firstIterPos [⟨tg, iter, ifs, 0⟩] pos) newDict false (eval iter X.env) (some (assign (.Name y py) X.env))) _ _ s
  have h : tDc wi g tt tk tv (own.map (·.2)) σ H (fun x H1 => gName i x σ H1 D.nx) := h
  refine wpAny_bind (thn (dc_core (Qf := fun _ s' => SP X pins D .next s') hc hN I hi ok hg ht hk he hs h fun L C s' m H' I' q hn f => ?_) fun _ s' hq => wpAny_pure (wpAny_pure hq))
  show wpAny _ _ (assign (.Name y py) X.env (.ref L)) _ _ _
  refine wpAny_assign_Name (store_ok2 (v := V.ref L) I' hN hy (.inl hyl) rfl (fun s2 I2 ⟨a, sb, ha⟩ => ?_) (.inr hyl))
  obtain ⟨f0, f1, f2, f3, f4, f5⟩ := f
  have haC : C ≠ a := by
    rcases ha with z | z
    · rw [z]; exact f1
    · exact fun e => f4 y a z e.symm
  refine ⟨m, hn.sameBut sb haC, fun h3 sb3 => ?_⟩
  exact ⟨_, H', I2.turned (t' := s2.toks) (fun b o hb e => (sb3.2 b hb).trans e) f0 f1 f3 f4 f5, q⟩
theorem sw_trueD {k v : Expr} {gs : List Comprehension} {scope : Scope} {pos py : Pos} {y : Str} {l : Nat} {env : Env} (hk : env.scope.kind = .function) (hy : env.scope.names.lookup y = some .local) (hl : (py.line == pos.line) = true)
    (ha : (scope.names.any fun (n, k) => n == y && (k == .local || k == .cell)) = false) : swapsWith (.DictComp k v gs scope pos) (some (.Name y py)) l env = pure true := by
  have ky : env.kindOf y = some .local := hy
  have hb : env.blockKind = .function := by unfold Env.blockKind; rw [hk]; rfl
  unfold swapsWith
  simp only [hb, ky, ha, Expr.pos, hl]
  rfl
end
end Hg
end L2
end

section
set_option Elab.async false
set_option linter.all false
set_option maxRecDepth 100000
set_option maxHeartbeats 4000000
/-! Operators of own classes: a op b, -a, x in a, a == b, a[i], a as a test. -/
namespace L2
namespace Hg
open PySem PySem.Spec PyProof.Rows
section
variable {X : Cx} {CX : CXT} {k : Nat} {C : Addr} {ps : List Str} {sp : Sp} {E : XK}
/-- the method runs at an instance and what stands behind it -/
theorem own_call {f : Addr} {fd : FuncData} {pins : List (Addr × Obj)} {σ : St} {H : Hp} {s : Shared} {Q : VK} {us : List Value} {vs : List V} (F : FnOk X.prog X.w X.K X.mg X.base CX k f fd ps sp) (hb : Binds X.K fd ps []) (hr : Room k X.A) (hx : Passes CX X E)
    (I : Inv X pins σ H s) (r : Vals vs us) (h : sp vs H Q E) : wpAny (model X.prog X.w) X.A (call (.ref f) us) (EP X pins σ Q) X.xe s := by
  have h' : sp (vs ++ []) H Q E := by rw [List.append_nil]; exact h
  exact run_fn F hr hb .nil hx I r h'
theorem relV_back {v : V} {u : Value} {s : Shared} {Q : Value → Shared → Prop} (r : RelV v u) (q : Q u s) : PySem.W.CmpBack Q u s := by
  cases v with
  | non => cases r; exact q
  | bl b => cases r; exact q
  | int i => obtain ⟨t, rfl⟩ := r; exact q
  | str x => obtain ⟨t, rfl⟩ := r; exact q
  | ref a => cases r; exact q
  | byt b => obtain ⟨t, rfl⟩ := r; exact q
  | flt b => obtain ⟨t, rfl⟩ := r; exact q
  | ty n => cases r; exact q
theorem ins_at {pins : List (Addr × Obj)} {σ : St} {H : Hp} {s : Shared} {a dx : Addr} {fs : List (Str × V)} (I : Inv X pins σ H s) (e : H a = some (.ins C dx fs)) : ∃ ox od, PySem.W.InstAt s.heap a ox C od := by
  obtain ⟨mA, O, _⟩ := ins_get I.hok e
  obtain ⟨od, J, _⟩ := O.look
  exact ⟨_, _, J⟩
/-- a op b, both of the class C -/
def rOwn (C : Addr) (sp : Sp) (E : XK) : R2 := fun x y H Q => ∃ (a dx : Addr) (fs : List (Str × V)) (b dy : Addr) (gs : List (Str × V)), x = .ref a ∧ y = .ref b ∧ H a = some (.ins C dx fs) ∧ H b = some (.ins C dy gs) ∧ sp [x, y] H Q E
theorem o_own {op : Operator} {m : Str} (M : MetOk X.prog X.w X.K X.mg X.base CX k C m ps sp) (sf : PySem.W.selfFirst X.K C = true) (hr : Room k X.A) (hx : Passes CX X E) (hm : PySem.dunder op.info.2 = m := by rfl) : OpR X (binaryOp op) (rOwn C sp E) := by
  subst hm
  obtain ⟨_, f, fd, hM, F, hb⟩ := M
  intro pins s σ H x y v u Q I rx ry h
  obtain ⟨a, dx, fs, b, dy, gs, rfl, rfl, ha, hb', q⟩ := h
  obtain rfl : v = Value.ref a := rx
  obtain rfl : u = Value.ref b := ry
  obtain ⟨m, Fr⟩ := I.fr
  obtain ⟨ox, od, J⟩ := ins_at I ha
  obtain ⟨oy, oe, J2⟩ := ins_at I hb'
  refine PySem.W.binop_K Fr I.ok.mod.kin J J2.type sf hM.at_ hM.fn (wpAny_mono (own_call (vs := [V.ref a, V.ref b]) F hb hr hx I (.cons rfl (.cons rfl .nil)) q) (fun w s' hq => ?_) fun _ _ z => z)
  obtain ⟨z, H1, I1, rz, q1⟩ := hq
  exact relV_back rz ⟨z, H1, I1, rz, q1⟩
/-- x in b, b of the class C -/
def rInOwn (C : Addr) (sp : Sp) (E : XK) : R2 := fun x y H Q => ∃ (b dy : Addr) (gs : List (Str × V)), y = .ref b ∧ H b = some (.ins C dy gs) ∧ sp [y, x] H (fun v H' => ∃ c, v = .bl c ∧ Q (.bl c) H') E
theorem truthy_bool {M : Model} {A : Around} {b : Bool} {Q : Bool → Shared → Prop} {E' : Value → Shared → Prop} {s : Shared} (h : Q b s) : wpAny M A (truthy (.bool b)) Q E' s := wpAny_pure h
theorem o_inOwn (M : MetOk X.prog X.w X.K X.mg X.base CX k C "__contains__" ps sp) (hr : Room k X.A) (hx : Passes CX X E) : OpR X (compareOp .In) (rInOwn C sp E) := by
  obtain ⟨_, f, fd, hM, F, hb⟩ := M
  intro pins s σ H x y v u Q I rx ry h
  obtain ⟨b, dy, gs, rfl, hb', q⟩ := h
  obtain rfl : u = Value.ref b := ry
  obtain ⟨m, Fr⟩ := I.fr
  obtain ⟨ox, od, J⟩ := ins_at I hb'
  refine PySem.W.in_K Fr I.ok.mod.kin J hM.at_ hM.fn (wpAny_mono (own_call (vs := [V.ref b, x]) F hb hr hx I (.cons rfl (.cons rx .nil)) q) (fun w s' hq => ?_) fun _ _ z => z)
  obtain ⟨z, H1, I1, rz, c, rfl, q1⟩ := hq
  obtain rfl : w = Value.bool c := rz
  exact truthy_bool ⟨.bl c, H1, I1, rfl, q1⟩
theorem o_notInOwn (M : MetOk X.prog X.w X.K X.mg X.base CX k C "__contains__" ps sp) (hr : Room k X.A) (hx : Passes CX X E) :
    OpR X (compareOp .NotIn) (fun x y H Q => ∃ (b dy : Addr) (gs : List (Str × V)), y = .ref b ∧ H b = some (.ins C dy gs) ∧ sp [y, x] H (fun v H' => ∃ c, v = .bl c ∧ Q (.bl (!c)) H') E) := by
  obtain ⟨_, f, fd, hM, F, hb⟩ := M
  intro pins s σ H x y v u Q I rx ry h
  obtain ⟨b, dy, gs, rfl, hb', q⟩ := h
  obtain rfl : u = Value.ref b := ry
  obtain ⟨m, Fr⟩ := I.fr
  obtain ⟨ox, od, J⟩ := ins_at I hb'
  refine PySem.W.notIn_K Fr I.ok.mod.kin J hM.at_ hM.fn (wpAny_mono (own_call (vs := [V.ref b, x]) F hb hr hx I (.cons rfl (.cons rx .nil)) q) (fun w s' hq => ?_) fun _ _ z => z)
  obtain ⟨z, H1, I1, rz, c, rfl, q1⟩ := hq
  obtain rfl : w = Value.bool c := rz
  exact truthy_bool ⟨.bl (!c), H1, I1, rfl, q1⟩
/-- a < b, a == b and so on, both of the class C -/
theorem o_cmpOwn {op : CmpOp} {m : Str} (M : MetOk X.prog X.w X.K X.mg X.base CX k C m ps sp) (hu : X.A.units < cLine) (hn : PySem.W.notFirst X.K C (.ref C) = true) (hr : Room k X.A) (hx : Passes CX X E) (hm : (cmpInfo op).2.1 = m := by rfl)
    (ho : ∀ a b, compareOp op a b = richCompare op a b := by intro _ _; rfl) : OpR X (compareOp op) (rOwn C sp E) := by
  subst hm
  obtain ⟨_, f, fd, hM, F, hb⟩ := M
  intro pins s σ H x y v u Q I rx ry h
  obtain ⟨a, dx, fs, b, dy, gs, rfl, rfl, ha, hb', q⟩ := h
  obtain rfl : v = Value.ref a := rx
  obtain rfl : u = Value.ref b := ry
  obtain ⟨m, Fr⟩ := I.fr
  obtain ⟨ox, od, J⟩ := ins_at I ha
  obtain ⟨oy, oe, J2⟩ := ins_at I hb'
  rw [ho]
  refine PySem.W.cmp_K hu Fr I.ok.mod.kin J J2.type hn hM.at_ hM.fn (wpAny_mono (own_call (vs := [V.ref a, V.ref b]) F hb hr hx I (.cons rfl (.cons rfl .nil)) q) (fun w s' hq => ?_) fun _ _ z => z)
  obtain ⟨z, H1, I1, rz, q1⟩ := hq
  exact relV_back rz ⟨z, H1, I1, rz, q1⟩
/-- -a, ~a -/
def rUnOwn (C : Addr) (sp : Sp) (E : XK) : V → Hp → VK → Prop := fun x H Q => ∃ (a dx : Addr) (fs : List (Str × V)), x = .ref a ∧ H a = some (.ins C dx fs) ∧ sp [x] H Q E
theorem un_invOwn (M : MetOk X.prog X.w X.K X.mg X.base CX k C "__invert__" ps sp) (hr : Room k X.A) (hx : Passes CX X E) : UnR X (unaryOp .Invert) (rUnOwn C sp E) := by
  obtain ⟨_, f, fd, hM, F, hb⟩ := M
  intro pins s σ H x v Q I rx h
  obtain ⟨a, dx, fs, rfl, ha, q⟩ := h
  obtain rfl : v = Value.ref a := rx
  obtain ⟨ox, od, J⟩ := ins_at I ha
  unfold unaryOp
  refine wpAny_holding ?_
  refine wpAny_bind (m := callSpecial? (.ref a) (Str.ofString "__invert__")) (PySem.W.special_fn I.kIn J hM.at_ (beq_iff_eq.mp hM.fn) ?_)
  exact wpAny_mono (own_call (vs := [V.ref a]) F hb hr hx I (.cons rfl .nil) q) (fun w s' hq => wpAny_pure hq) fun _ _ z => z
theorem un_negOwn (M : MetOk X.prog X.w X.K X.mg X.base CX k C "__neg__" ps sp) (hr : Room k X.A) (hx : Passes CX X E) : UnR X (unaryOp .USub) (rUnOwn C sp E) := by
  obtain ⟨_, f, fd, hM, F, hb⟩ := M
  intro pins s σ H x v Q I rx h
  obtain ⟨a, dx, fs, rfl, ha, q⟩ := h
  obtain rfl : v = Value.ref a := rx
  obtain ⟨ox, od, J⟩ := ins_at I ha
  unfold unaryOp
  refine wpAny_holding ?_
  refine wpAny_bind (m := callSpecial? (.ref a) (Str.ofString "__neg__")) (PySem.W.special_fn I.kIn J hM.at_ (beq_iff_eq.mp hM.fn) ?_)
  exact wpAny_mono (own_call (vs := [V.ref a]) F hb hr hx I (.cons rfl .nil) q) (fun w s' hq => wpAny_pure hq) fun _ _ z => z
/-- a as a test, by its `__bool__` -/
def rTruOwn (C : Addr) (sp : Sp) (E : XK) : V → Hp → (Bool → Hp → Prop) → Prop := fun x H Q => ∃ (a dx : Addr) (fs : List (Str × V)), x = .ref a ∧ H a = some (.ins C dx fs) ∧ sp [x] H (fun v H' => ∃ c, v = .bl c ∧ Q c H') E
theorem tru_own (M : MetOk X.prog X.w X.K X.mg X.base CX k C "__bool__" ps sp) (hr : Room k X.A) (hx : Passes CX X E) : TruR X (rTruOwn C sp E) := by
  obtain ⟨_, f, fd, hM, F, hb⟩ := M
  intro pins s σ H x v Q I rx h
  obtain ⟨a, dx, fs, rfl, ha, q⟩ := h
  obtain rfl : v = Value.ref a := rx
  obtain ⟨ox, od, J⟩ := ins_at I ha
  obtain ⟨m, Fr⟩ := I.fr
  refine PySem.W.truthy_K Fr I.ok.mod.kin J hM.at_ hM.fn (wpAny_mono (own_call (vs := [V.ref a]) F hb hr hx I (.cons rfl .nil) q) (fun w s' hq => ?_) fun _ _ z => z)
  obtain ⟨z, H1, I1, rz, c, rfl, q1⟩ := hq
  obtain rfl : w = Value.bool c := rz
  exact ⟨H1, I1, q1⟩
end
theorem ifBound_B {M : Model} {A : Around} {E : Value → Shared → Prop} {s : Shared} {K : PySem.W.Frag} {x C : Addr} {ox : Obj} {od : Option Obj} {name : Str} {id : String} {args : List Value} {Q : Option Value → Shared → Prop}
    (X : K.In s.heap) (J : PySem.W.InstAt s.heap x ox C od) (hs : PySem.W.findIn K (.ref C) name = some (some (.builtin id))) (hbd : bindSpecial (.builtin id) (.ref x) = pure (.builtin id, [.ref x]))
    (h : wpAny M A (call (.builtin id) (.ref x :: args)) (fun v => Q (some v)) E s) : wpAny M A (callSpecialIfBound? (.ref x) name args) Q E s := by
  simp only [callSpecialIfBound?, bindSpecialIfBound?, hbd]
  refine wpAny_holding ?_
  refine wpAny_bind (wpAny_bind (wpAny_bind (J.type.here ?_)))
  refine (PySem.W.looks_findIn X hs).here ?_
  refine wpAny_bind (wpAny_askSetting (wpAny_ite ?_))
  have last : wpAny M A (call (.builtin id) ([.ref x] ++ args) >>= fun v => pure (some v)) Q E s := wpAny_bind (wpAny_mono h (fun _ _ z => wpAny_pure z) fun _ _ z => z)
  split
  · exact wpAny_bind (wpAny_of_eq hbd (wpAny_pure (by exact last)))
  · exact wpAny_tryCatch (wpAny_bind (wpAny_of_eq hbd (wpAny_pure (by exact last))))
theorem ne_bind (self : Value) : bindSpecial (.builtin "object.__ne__") self = pure (.builtin "object.__ne__", [self]) := PySem.F.slot_object_ne.bind self
theorem ne_kind' : builtinKind "object.__ne__" = some .slot := by decide +kernel
theorem ne_split : splitId "object.__ne__" = some ("object", "__ne__") := by decide +kernel
theorem ne_plain : plainId "object.__ne__" = true := by decide +kernel
section
variable {X : Cx} {k : Nat} {C : Addr} {ps : List Str} {sp : Sp}
/-- a != b by object's own, which asks the class's == -/
theorem o_neOwn (M : MetOk X.prog X.w X.K X.mg X.base CX0 k C "__eq__" ps sp) (hne : PySem.W.findIn X.K (.ref C) "__ne__" = some (some (.builtin "object.__ne__"))) (hob : PySem.W.mroIn X.K C (.type "object") = some true)
    (hu : X.A.units + 64 < cLine) (hr : Room (k + 1) X.A) : OpR X (compareOp .NotEq) (fun x y H Q => ∃ (a dx : Addr) (fs : List (Str × V)) (b dy : Addr) (gs : List (Str × V)), x = .ref a ∧ y = .ref b ∧ H a = some (.ins C dx fs) ∧ H b = some (.ins C dy gs) ∧
      sp [x, y] H (fun v H' => ∃ c, v = .bl c ∧ Q (.bl (!c)) H') E0) := by
  obtain ⟨_, f, fd, hM, F, hb⟩ := M
  intro pins s σ H x y v u Q I rx ry h
  obtain ⟨a, dx, fs, b, dy, gs, rfl, rfl, ha, hb', q⟩ := h
  obtain rfl : v = Value.ref a := rx
  obtain rfl : u = Value.ref b := ry
  obtain ⟨ox, od, J⟩ := ins_at I ha
  obtain ⟨oy, oe, J2⟩ := ins_at I hb'
  show wpAny _ _ (richCompare .NotEq (.ref a) (.ref b)) _ _ _
  have run : wpAny (model X.prog X.w) X.A.in1 (call (.ref f) [.ref a, .ref b]) (EP X pins σ fun v H' => ∃ c, v = .bl c ∧ Q (.bl (!c)) H') (fun _ _ => False) s := by
    have h' : sp ([V.ref a, V.ref b] ++ []) H (fun v H' => ∃ c, v = .bl c ∧ Q (.bl (!c)) H') E0 := by rw [List.append_nil]; exact q
    have vals : Vals ([V.ref a, V.ref b] ++ []) ([Value.ref a, Value.ref b] ++ []) := .cons (show RelV (.ref a) (.ref a) from rfl) (.cons (show RelV (.ref b) (.ref b) from rfl) .nil)
    refine wpAny_call (codeAny_mono (F.run X.A.in1 X.stack s H ⟨[.ref a, .ref b], []⟩ ([Value.ref a, Value.ref b] ++ []) ([V.ref a, V.ref b] ++ []) _ E0 hr.in1 I.env0.in1 (hb s [.ref a, .ref b] I.kIn (F.len _ _ _ _ h')) vals h') fun r s' hq => ?_)
    cases r with
    | error e => exact False.elim hq
    | ok fl =>
      cases fl with
      | ret u => exact I.after hq
      | next => exact False.elim hq
      | brk => exact False.elim hq
      | cont => exact False.elim hq
  have inst : PySem.W.Looks (model X.prog X.w) s.heap (isInstance (.ref a) (.type "object")) true := J.type.andThen (PySem.W.looks_mroIn I.kIn hob)
  obtain ⟨m, Fr⟩ := I.fr
  have core : wpAny (model X.prog X.w) X.A (tryCompare (.ref a) "__ne__" (.ref b)) (fun r s' => ∃ v, r = some v ∧ EP X pins σ Q v s') X.xe s := by
    unfold tryCompare
    refine wpAny_bind (ifBound_B I.kIn J hne (ne_bind _) ?_)
    refine wpAny_call (codeAny_call_builtin ne_plain PySem.F.entry_object_ne ?_)
    refine PySem.W.check_slot ne_kind' ne_split inst (PySem.F.args_object_ne_2 _ _) ?_
    have hu1 : X.A.in1.units < cLine := by
      show X.A.units + 1 < cLine
      omega
    unfold Builtin.«object.__ne__»
    refine wpAny_bind (wpAny_pure ?_)
    refine wpAny_bind (wpAny_cRoomFor hu1 ?_)
    refine wpAny_bind (PySem.W.ifBound_K I.kIn J hM.at_ hM.fn (wpAny_mono run (fun w s' hq => ?_) fun _ _ z => False.elim z))
    obtain ⟨z, H1, I1, rz, c, rfl, q1⟩ := hq
    obtain rfl : w = Value.bool c := rz
    refine wpAny_bind (truthy_bool ?_)
    refine wpAny_pure ?_
    exact wpAny_pure ⟨_, rfl, .bl (!c), H1, I1, rfl, q1⟩
  have same : PySem.W.notFirst X.K C (.ref C) = true := by
    unfold PySem.W.notFirst
    rw [Bool.or_eq_true]
    exact .inl (beq_self_eq_true _)
  have hu0 : X.A.units < cLine := by omega
  unfold richCompare
  simp only [oneThing_ref]
  refine wpAny_holding (wpAny_bind (wpAny_cRoomFor hu0 ?_))
  refine wpAny_bind (J.type.here ?_)
  refine wpAny_bind (J2.type.here ?_)
  rw [if_neg (by simp)]
  refine wpAny_bind (wpAny_pure ?_)
  rw [if_neg Bool.false_ne_true]
  refine wpAny_bind (wpAny_mono core (fun r s' z => ?_) fun _ _ e => e)
  obtain ⟨v, rfl, hq⟩ := z
  exact wpAny_pure hq
end
theorem nf_self {K : PySem.W.Frag} {C : Addr} : PySem.W.notFirst K C (.ref C) = true := by
  unfold PySem.W.notFirst
  rw [Bool.or_eq_true]
  exact .inl (beq_self_eq_true _)
theorem hu0_of {A : Around} {k : Nat} (hr : Room k A) : A.units < cLine := Nat.lt_of_le_of_lt (Nat.le_add_right _ 64) hr.units
end Hg
end L2
end

section
set_option Elab.async false
set_option linter.all false
set_option maxRecDepth 100000
set_option maxHeartbeats 4000000
/-! a == b where b is of any kind; str(a) by an own `__str__`; a[i] by an own `__getitem__`; joined texts. -/
namespace L2
namespace Hg
open PySem PySem.Spec PyProof.Rows
theorem kit_tyOwn {K : PySem.W.Frag} {C : Addr} {T : String} {b : Bool} (hd : PySem.W.hasDictIn K C = true) (ht : PySem.W.typeIn K (.ref C) = some (.type "type")) (h : PySem.W.subIn K (.type T) (.ref C) = some b) : PySem.W.kitOne K (.type T) (.ref C) = some b := by
  obtain ⟨cd, hc, _⟩ := PySem.W.any_some hd
  have e2 : ((PySem.W.clsIn K C).isSome && PySem.W.typeIn K (.ref C) == some (.type "type")) = true := by rw [hc, ht] <;> rfl
  show (if ((Value.type T == Value.ref C) = true) then some true else (if ((PySem.W.clsIn K C).isSome && PySem.W.typeIn K (.ref C) == some (.type "type")) = true then PySem.W.subIn K (.type T) (.ref C) else none)) = some b
  rw [if_neg (fun z => by have := beq_iff_eq.mp z; cases this), if_pos e2]
  exact h
theorem kitAny2 {K : PySem.W.Frag} {t u1 u2 : Value} {a b : Bool} (h1 : PySem.W.kitOne K t u1 = some a) (h2 : PySem.W.kitOne K t u2 = some b) : PySem.W.kitAny K t [u1, u2] = some (a || b) := by
  unfold PySem.W.kitAny
  rw [h1]
  cases a with
  | true => rfl
  | false =>
    show (match PySem.W.kitOne K t u2 with | some true => some true | some false => PySem.W.kitAny K t [] | none => none) = _
    rw [h2]
    cases b <;> rfl
theorem nf_ty {K : PySem.W.Frag} {C : Addr} {T : String} (h : PySem.W.subIn K (.type T) (.ref C) = some false) : PySem.W.notFirst K C (.type T) = true := by
  unfold PySem.W.notFirst
  rw [Bool.or_eq_true]
  exact .inr (by rw [h]; rfl)
section
variable {X : Cx} {CX : CXT} {k : Nat} {C : Addr} {ps : List Str} {sp : Sp} {E : XK} {pins : List (Addr × Obj)} {σ : St} {H : Hp} {s : Shared}
theorem ty_at {x : V} {u t : Value} (I : Inv X pins σ H s) (rx : RelV x u) (ty : TyX X.K H x t) : PySem.W.Looks (model X.prog X.w) s.heap (typeOf u) t := by
  obtain ⟨P, kx, hp, _⟩ := kit_of I rx ty
  exact kx.ty _ _ I.kIn hp
/-- a < b, a == b, .., a of the class C, b of a kind that is no class below C -/
def rCmpA (K : PySem.W.Frag) (C : Addr) (sp : Sp) (E : XK) : R2 := fun x y H Q => ∃ (a dx : Addr) (fs : List (Str × V)) (t : Value), x = .ref a ∧ H a = some (.ins C dx fs) ∧ TyX K H y t ∧ PySem.W.notFirst K C t = true ∧ sp [x, y] H Q E
theorem o_cmpAny {op : CmpOp} {m : Str} (M : MetOk X.prog X.w X.K X.mg X.base CX k C m ps sp) (K : PySem.W.Frag) (hu : X.A.units < cLine) (hr : Room k X.A) (hx : Passes CX X E) (hm : (cmpInfo op).2.1 = m := by rfl)
    (ho : ∀ a b, compareOp op a b = richCompare op a b := by intro _ _; rfl) (hK : X.K = K := by rfl) : OpR X (compareOp op) (rCmpA K C sp E) := by
  subst hm hK
  obtain ⟨_, f, fd, hM, F, hb⟩ := M
  intro pins s σ H x y v u Q I rx ry h
  obtain ⟨a, dx, fs, t, rfl, ha, ty, hn, q⟩ := h
  obtain rfl : v = Value.ref a := rx
  obtain ⟨m, Fr⟩ := I.fr
  obtain ⟨ox, od, J⟩ := ins_at I ha
  rw [ho]
  refine PySem.W.cmp_K hu Fr I.ok.mod.kin J (ty_at I ry ty) hn hM.at_ hM.fn (wpAny_mono (own_call (vs := [V.ref a, y]) F hb hr hx I (.cons rfl (.cons ry .nil)) q) (fun w s' hq => ?_) fun _ _ z => z)
  obtain ⟨z, H1, I1, rz, q1⟩ := hq
  exact relV_back rz ⟨z, H1, I1, rz, q1⟩
theorem r_cmpA {K : PySem.W.Frag} {a dx : Addr} {fs : List (Str × V)} {t : Value} {y : V} {Q : VK} (ha : H a = some (.ins C dx fs)) (ty : TyX K H y t) (nf : PySem.W.notFirst K C t = true) (k : sp [.ref a, y] H Q E) : rCmpA K C sp E (.ref a) y H Q := ⟨a, dx, fs, t, rfl, ha, ty, nf, k⟩
theorem r_ownB {a dx b dy : Addr} {fs gs : List (Str × V)} {Q : VK} (ha : H a = some (.ins C dx fs)) (hb : H b = some (.ins C dy gs)) (k : sp [.ref a, .ref b] H Q E) : rOwn C sp E (.ref a) (.ref b) H Q := ⟨a, dx, fs, b, dy, gs, rfl, rfl, ha, hb, k⟩
theorem r_inOwn {x : V} {b dy : Addr} {gs : List (Str × V)} {Q : VK} (hb : H b = some (.ins C dy gs)) (k : sp [.ref b, x] H (fun v H' => ∃ c, v = .bl c ∧ Q (.bl c) H') E) : rInOwn C sp E x (.ref b) H Q := ⟨b, dy, gs, rfl, hb, k⟩
/-- str(a) by the class's own `__str__` -/
def rStrOwn (C : Addr) (sp : Sp) : List V → Hp → VK → Prop := fun xs H Q => ∃ (a dx : Addr) (fs : List (Str × V)), xs = [.ref a] ∧ H a = some (.ins C dx fs) ∧ sp [.ref a] H (fun v H' => ∃ y, v = .str y ∧ Q (.str y) H') E0
theorem c_strOwn (M : MetOk X.prog X.w X.K X.mg X.base CX0 k C "__str__" ps sp) (hu : X.A.units + 64 < cLine) (hr : Room (k + 2) X.A) : CallR X (.type "str") (rStrOwn C sp) := by
  obtain ⟨_, f, fd, hM, F, hb⟩ := M
  intro pins s σ H xs us Q I r h
  obtain ⟨a, dx, fs, rfl, ha, q⟩ := h
  cases r with
  | cons r1 r2 =>
    cases r2
    cases (show _ = Value.ref a from r1)
    obtain ⟨ox, od, J⟩ := ins_at I ha
    have run : wpAny (model X.prog X.w) X.A.in1.in1 (call (.ref f) [.ref a]) (EP X pins σ fun v H' => ∃ y, v = .str y ∧ Q (.str y) H') (fun _ _ => False) s := by
      have h' : sp ([V.ref a] ++ []) H (fun v H' => ∃ y, v = .str y ∧ Q (.str y) H') E0 := by rw [List.append_nil]; exact q
      have vals : Vals ([V.ref a] ++ []) ([Value.ref a] ++ []) := .cons (show RelV (.ref a) (.ref a) from rfl) .nil
      refine wpAny_call (codeAny_mono (F.run X.A.in1.in1 X.stack s H ⟨[.ref a], []⟩ ([Value.ref a] ++ []) ([V.ref a] ++ []) _ E0 hr.in1.in1 I.env0.in1.in1 (hb s [.ref a] I.kIn (F.len _ _ _ _ h')) vals h') fun r s' hq => ?_)
      cases r with
      | error e => exact False.elim hq
      | ok fl =>
        cases fl with
        | ret u => exact I.after hq
        | next => exact False.elim hq
        | brk => exact False.elim hq
        | cont => exact False.elim hq
    refine PySem.W.kso_call (by show X.A.units + 1 + 1 < cLine; omega) I.kIn J hM.at_ hM.fn (wpAny_mono run (fun u s' hq => ?_) fun _ _ z => False.elim z)
    obtain ⟨z, H1, I1, rz, y, rfl, q1⟩ := hq
    obtain ⟨t, rfl⟩ := rz
    exact ⟨.str y, H1, I1, ⟨t, rfl⟩, q1⟩
theorem r_strOwn {a dx : Addr} {fs : List (Str × V)} {Q : VK} (ha : H a = some (.ins C dx fs)) (k : sp [.ref a] H (fun v H' => ∃ y, v = .str y ∧ Q (.str y) H') E0) : rStrOwn C sp [.ref a] H Q := ⟨a, dx, fs, rfl, ha, k⟩
end
/-! ### a as a test -/
def tTrO (C : Addr) (sp : Sp) (E : XK) (ta : TE) : TT := fun σ H Q => ta σ H fun x H' => rTruOwn C sp E x H' Q
theorem pt_own {X : Cx} {CX : CXT} {k : Nat} {C : Addr} {ps : List Str} {sp : Sp} {E : XK} {a : Expr} {ta : TE} (M : MetOk X.prog X.w X.K X.mg X.base CX k C "__bool__" ps sp) (hr : Room k X.A) (hx : Passes CX X E) (ha : PE X a ta)
    (he : ∀ whole, isTrue a X.env whole = (do let v ← whole; standAt a.pos; holding [v] (truthy v)) := by intro _; rfl) : PT X a (tTrO C sp E ta) := pt_truthR ha (tru_own M hr hx) he
theorem r_trO {C : Addr} {sp : Sp} {E : XK} {ta : TE} {σ : St} {H : Hp} {Q : Bool → Hp → Prop} (k : ta σ H fun x H' => rTruOwn C sp E x H' Q) : tTrO C sp E ta σ H Q := k
theorem r_truO {C a dx : Addr} {sp : Sp} {E : XK} {fs : List (Str × V)} {H : Hp} {Q : Bool → Hp → Prop} (ha : H a = some (.ins C dx fs)) (k : sp [.ref a] H (fun v H' => ∃ c, v = .bl c ∧ Q c H') E) : rTruOwn C sp E (.ref a) H Q := ⟨a, dx, fs, rfl, ha, k⟩
/-! ### bool(a) by an own `__bool__` -/
open Builtin in
theorem bool_new_tree (v : Value) : «bool.__new__» ⟨[.type "bool", v], []⟩ = (do
    if !(← isType (.type "bool")) then
      rule "bool.__new__.no-type"; raiseError "TypeError" s!"bool.__new__(X): X is not a type object ({← typeNameOf (.type "bool")})"
    if !(← isSubtype (.type "bool") (.type "bool")) then
      rule "bool.__new__.no-subtype"; raiseError "TypeError" s!"bool.__new__({← typeName (.type "bool")}): {← typeName (.type "bool")} is not a subtype of bool"
    ret (.bool (← truthy v))) := rfl
section
variable {X : Cx} {k : Nat} {C : Addr} {ps : List Str} {sp : Sp} {H : Hp}
def rBoolOwn (C : Addr) (sp : Sp) : List V → Hp → VK → Prop := fun xs H Q => ∃ (a dx : Addr) (fs : List (Str × V)), xs = [.ref a] ∧ H a = some (.ins C dx fs) ∧ sp [.ref a] H (fun v H' => ∃ c, v = .bl c ∧ Q (.bl c) H') E0
theorem c_boolOwn (M : MetOk X.prog X.w X.K X.mg X.base CX0 k C "__bool__" ps sp) (hr : Room (k + 2) X.A) : CallR X (.type "bool") (rBoolOwn C sp) := by
  obtain ⟨_, f, fd, hM, F, hb⟩ := M
  intro pins s σ H xs us Q I r h
  obtain ⟨a, dx, fs, rfl, ha, q⟩ := h
  cases r with
  | cons r1 r2 =>
    cases r2
    cases (show _ = Value.ref a from r1)
    obtain ⟨ox, od, J⟩ := ins_at I ha
    obtain ⟨m, Fr⟩ := I.fr
    have run : wpAny (model X.prog X.w) X.A.in1.in1 (call (.ref f) [.ref a]) (EP X pins σ fun v H' => ∃ c, v = .bl c ∧ Q (.bl c) H') (fun _ _ => False) s := by
      have h' : sp ([V.ref a] ++ []) H (fun v H' => ∃ c, v = .bl c ∧ Q (.bl c) H') E0 := by rw [List.append_nil]; exact q
      have vals : Vals ([V.ref a] ++ []) ([Value.ref a] ++ []) := .cons (show RelV (.ref a) (.ref a) from rfl) .nil
      refine wpAny_call (codeAny_mono (F.run X.A.in1.in1 X.stack s H ⟨[.ref a], []⟩ ([Value.ref a] ++ []) ([V.ref a] ++ []) _ E0 hr.in1.in1 I.env0.in1.in1 (hb s [.ref a] I.kIn (F.len _ _ _ _ h')) vals h') fun r s' hq => ?_)
      cases r with
      | error e => exact False.elim hq
      | ok fl =>
        cases fl with
        | ret u => exact I.after hq
        | next => exact False.elim hq
        | brk => exact False.elim hq
        | cont => exact False.elim hq
    refine callType_codes (T := "bool") (Bi := Builtin.«object.__init__») (Q₁ := fun r s₁ => ∃ c, r = .bool c ∧ EP X pins σ Q (.bool c) s₁) PySem.F.called_bool (PySem.F.typeCall_bool_1 _) PySem.F.entry_object_init ?_ ?_
    · refine codeAny_of_tree (show wpAny _ X.A.in1.in1 (do checkBuiltinCall "bool.__new__" ⟨[.type "bool", .ref a], []⟩; again (.builtin "bool.__new__" ⟨[.type "bool", .ref a], []⟩)) _ _ s from ?_)
      refine wpAny_bind (wpAny_of_eq (PySem.F.newCall_bool_1 _) (wpAny_pure ⟨plainId_quiet (by decide +kernel) _, codeAny_builtin PySem.F.entry_bool_new ?_⟩))
      rw [Around.under_plainId (by decide +kernel) _, bool_new_tree]
      refine wpAny_bind (wpAny_pure ?_)
      refine wpAny_bind (wpAny_of_eq PySem.F.conv_sub_bool ?_)
      refine wpAny_bind (PySem.W.truthy_K Fr I.ok.mod.kin J hM.at_ hM.fn (wpAny_mono run (fun u s' hq => ?_) fun _ _ z => False.elim z))
      obtain ⟨z, H1, I1, rz, c, rfl, q1⟩ := hq
      obtain rfl : u = Value.bool c := rz
      exact wpAny_pure ⟨c, rfl, .bl c, H1, I1, rfl, q1⟩
    · rintro obj s₁ ⟨c, rfl, hq⟩
      exact ⟨rfl, PySem.F.args_object_init_2 _ _, object_init_meets PySem.F.called_bool.init.lookup PySem.F.called_bool.made (by decide) X.prog X.w X.A.in1 _ s₁ ⟨rfl, rfl, hq⟩⟩
theorem r_boolOwn {a dx : Addr} {fs : List (Str × V)} {Q : VK} (ha : H a = some (.ins C dx fs)) (k : sp [.ref a] H (fun v H' => ∃ c, v = .bl c ∧ Q (.bl c) H') E0) : rBoolOwn C sp [.ref a] H Q := ⟨a, dx, fs, rfl, ha, k⟩
end
/-! ### a[i] by an own `__getitem__` -/
def tSubO (C : Addr) (sp : Sp) (E : St → XK) (ta tb : TE) : TE := fun σ H Q => ta σ H fun x H1 => tb σ H1 fun y H2 => ∃ (a dx : Addr) (fs : List (Str × V)), x = .ref a ∧ H2 a = some (.ins C dx fs) ∧ sp [x, y] H2 Q (E σ)
section
variable {X : Cx} {CX : CXT} {k : Nat} {C : Addr} {ps : List Str} {sp : Sp} {E : St → XK} {a b : Expr} {ta tb : TE} {pos : Pos} {σ : St} {H : Hp} {Q : VK}
theorem pe_subOwn (M : MetOk X.prog X.w X.K X.mg X.base CX k C "__getitem__" ps sp) (hfi : ∀ f, PySem.W.findIn X.K (.ref C) "__getitem__" = some (some (.ref f)) → PySem.W.fnIn X.K f = true) (hr : Room (k + 1) X.A) (hx : ∀ σ, PassesAt CX X σ (E σ)) (ha : PE X a ta) (hb : PE X b tb)
    (hsl : ∀ v i, subscripted b true v i = runValue (.builtin "lifetime.subscript" ⟨[v, i], []⟩) := by intro _ _; with_unfolding_all rfl) : PE X (.Subscript a b pos) (tSubO C sp E ta tb) := by
  obtain ⟨_, f, fd, hM, F, hbi⟩ := M
  refine ⟨fun pins s σ H Q I h => ?_⟩
  refine Subscript_ (binT ha hb I (R := fun x y H2 => ∃ (a dx : Addr) (fs : List (Str × V)), x = .ref a ∧ H2 a = some (.ins C dx fs) ∧ sp [x, y] H2 Q (E σ)) h fun v u s2 x y H2 I2 rx ry q => ?_)
  obtain ⟨a, dx, fs, rfl, ea, q⟩ := q
  obtain rfl : v = Value.ref a := rx
  obtain ⟨m, Fr⟩ := I2.fr
  obtain ⟨ox, od, J⟩ := ins_at I2 ea
  refine PySem.W.sub_K Fr I2.ok.mod.kin J hM.at_ (hfi f hM.at_) hM.fn ?_ (hsl _ _)
  have h' : sp ([V.ref a, y] ++ []) H2 Q (E σ) := by rw [List.append_nil]; exact q
  have vals : Vals ([V.ref a, y] ++ []) ([Value.ref a, u] ++ []) := .cons (show RelV (.ref a) (.ref a) from rfl) (.cons ry .nil)
  refine wpAny_call (codeAny_mono (F.run X.A.in1 X.stack s2 H2 ⟨[.ref a, u], []⟩ ([Value.ref a, u] ++ []) ([V.ref a, y] ++ []) _ (E σ) hr.in1 I2.env0.in1 (hbi s2 [.ref a, u] I2.kIn (F.len _ _ _ _ h')) vals h') fun r s' hq => ?_)
  cases r with
  | error e => exact hx σ pins H2 s2 e s' I2 hq
  | ok fl =>
    cases fl with
    | ret u => exact I2.after hq
    | next => exact False.elim hq
    | brk => exact False.elim hq
    | cont => exact False.elim hq
theorem r_subO (k : ta σ H fun x H1 => tb σ H1 fun y H2 => ∃ (a dx : Addr) (fs : List (Str × V)), x = .ref a ∧ H2 a = some (.ins C dx fs) ∧ sp [x, y] H2 Q (E σ)) : tSubO C sp E ta tb σ H Q := k
theorem r_subI {p dx : Addr} {fs : List (Str × V)} {R : Addr → Prop} (h : H p = some (.ins C dx fs)) (q : R p) : ∃ (a dx : Addr) (fs : List (Str × V)), V.ref p = .ref a ∧ H a = some (.ins C dx fs) ∧ R a := ⟨p, dx, fs, rfl, h, q⟩
end
/-- raise C(name) -/
theorem r_mkV {K : PySem.W.Frag} {C : Addr} {f : Str} {v : V} {i : Nat} {σ : St} {H : Hp} {Q : XK} (T : OexC K C) (hf : PySem.W.findIn K (.ref C) f = some none) (hv : σ[i]? = some (some v)) (k : ∀ d, H d = none → Q (.ref C) (some d) (upd H d (.xd [(f, v)]))) :
    tMkO C (spInitF K C f) [] (tCons (tVar i) tNil) σ H Q := r_mkF (x := v) T hf ⟨v, hv, v, rfl, k⟩ (fun hh ⟨v, hv, h⟩ => ⟨v, hv, hh _ _ h⟩)
/-! ### str of ints and texts, joined texts -/
section
variable {X : Cx} {σ : St} {H : Hp} {Q : VK}
def uStr : List V → Hp → VK → Prop := fun xs H Q => (∃ i, xs = [.int i] ∧ i.natAbs.log2 < 1920 ∧ Q (.str (toString i)) H) ∨ ∃ a, xs = [.str a] ∧ Q (.str a) H
theorem c_str : CallR X (.type "str") uStr := CallR.or call_str_int SkE.call_str_str
theorem r_strI {i : Int} (z : i.natAbs.log2 < 1920) (k : Q (.str (toString i)) H) : uStr [.int i] H Q := .inl ⟨i, rfl, z, k⟩
def tFs (ts : List TE) : TE := fun σ H Q => tJs ts Str.empty σ H fun out H1 => Q (.str out) H1
theorem pe_fs {v1 v2 : Expr} {rest : List Expr} {ts : List TE} {pos : Pos} (h : PJ X (v1 :: v2 :: rest) ts) : PE X (.JoinedStr (v1 :: v2 :: rest) pos) (tFs ts) := pe_joined h
theorem r_fs {ts : List TE} (k : tJs ts Str.empty σ H fun out H1 => Q (.str out) H1) : tFs ts σ H Q := k
variable {QS : Str → Hp → Prop} {acc : Str} {t : TE} {ts : List TE} {te to : TE}
theorem r_js (k : t σ H fun x H1 => ∃ y, x = .str y ∧ (acc ++ y).length ≤ sizeLine ∧ tJs ts (acc ++ y) σ H1 QS) : tJs (t :: ts) acc σ H QS := k
theorem r_js0 (k : QS acc H) : tJs [] acc σ H QS := k
theorem r_jy {y : Str} {R : Str → Prop} (z : (acc ++ y).length ≤ sizeLine) (k : R y) : ∃ y', V.str y = .str y' ∧ (acc ++ y').length ≤ sizeLine ∧ R y' := ⟨y, rfl, z, k⟩
theorem r_fmt (k : te σ H fun x H1 => (∃ y : Str, x = .str y ∧ y.length ≤ sizeLine ∧ Q (.str y) H1) ∨ ∃ i : Int, x = .int i ∧ i.natAbs.log2 < 1920 ∧ Q (.str (toString i)) H1) : tFmt te σ H Q := k
theorem r_fmS {y : Str} {R : Str → Prop} {R2 : Int → Prop} (z : y.length ≤ sizeLine) (k : R y) : (∃ y' : Str, V.str y = .str y' ∧ y'.length ≤ sizeLine ∧ R y') ∨ ∃ i : Int, V.str y = .int i ∧ i.natAbs.log2 < 1920 ∧ R2 i := .inl ⟨y, rfl, z, k⟩
theorem r_fmI {i : Int} {R : Str → Prop} {R2 : Int → Prop} (z : i.natAbs.log2 < 1920) (k : R2 i) : (∃ y' : Str, V.int i = .str y' ∧ y'.length ≤ sizeLine ∧ R y') ∨ ∃ j : Int, V.int i = .int j ∧ j.natAbs.log2 < 1920 ∧ R2 j := .inr ⟨i, rfl, z, k⟩
def rJoin (K : PySem.W.Frag) : V → List V → Hp → VK → Prop := fun x xs H Q => ∃ a p, ∃ ys : List Str, x = .str a ∧ xs = [.ref p] ∧ (SqL K H p (ys.map V.str) ∨ SqT K H p (ys.map V.str)) ∧ (ys.map (·.length)).sum + ys.length * a.length ≤ 16777216 ∧ Q (.str (Txt.join a ys)) H
theorem pe_joinK {o e : Expr} {apos pos : Pos} (K : PySem.W.Frag) (ho : PE X o to) (he : PE X e te) (hs : starEach [e] X.env = [(false, eval e X.env)] := by rfl) (hbase : attributeBase o "join" X.env (eval o X.env) = eval o X.env := by rfl) (hline : (apos.endLine == pos.line) = true := by rfl) (hK : X.K = K := by rfl) :
    PE X (.Call (.Attribute o "join" apos) [e] [] pos) (tM1 (rJoin K) to te) := hK ▸ pe_join ho he hs hbase hline
def rSplit : V → List V → Hp → VK → Prop := fun x xs H Q => ∃ a b, x = .str a ∧ xs = [.str b] ∧ (b.length == 0) = false ∧ a.length + 2 ≤ sizeLine ∧ rNewStrs (Txt.split a b) H Q
theorem pe_splitK {o e : Expr} {apos pos : Pos} (ho : PE X o to) (he : PE X e te) (hs : starEach [e] X.env = [(false, eval e X.env)] := by rfl) (hbase : attributeBase o "split" X.env (eval o X.env) = eval o X.env := by rfl) (hline : (apos.endLine == pos.line) = true := by rfl) :
    PE X (.Call (.Attribute o "split" apos) [e] [] pos) (tM1 rSplit to te) := pe_split ho he hs hbase hline
theorem slL (K : PySem.W.Frag) {X : Cx} (hK : X.K = K := by rfl) : SlR X (rSlL K) := hK ▸ sl_list
theorem r_slL {K : PySem.W.Frag} {p : Addr} {xs : List V} {lo hi : Option Int} (h : SqL K H p xs) (k : ∀ q, H q = none → Q (.ref q) (upd H q (.lst (cutV xs lo hi)))) : rSlL K (.ref p) lo hi H Q := ⟨p, xs, rfl, h, k⟩
theorem cut_take (xs : List V) (n : Nat) : cutV xs none (some (n : Int)) = xs.take n := by
  unfold cutV HT.sIx
  have h : ¬ ((n : Int) < 0) := by omega
  simp only [if_neg h, List.drop_zero, Nat.sub_zero, Int.toNat_natCast]
  rw [List.take_eq_take_iff]
  omega
theorem r_bm0 {K : PySem.W.Frag} {T : String} {r : V → List V → Hp → VK → Prop} (k : to σ H fun x H1 => tyV K T x H1 ∧ r x [] H1 Q) : tBM0 K T r to σ H Q := k
theorem r_m1 {r : V → List V → Hp → VK → Prop} (k : to σ H fun x H1 => (∃ a, x = .str a) ∧ te σ H1 fun y H2 => r x [y] H2 Q) : tM1 r to te σ H Q := k
theorem r_isS {z : Str} {R : Prop} (k : R) : (∃ a, V.str z = .str a) ∧ R := ⟨⟨z, rfl⟩, k⟩
theorem r_join {K : PySem.W.Frag} {a : Str} {p : Addr} {ys : List Str} (h : SqL K H p (ys.map V.str) ∨ SqT K H p (ys.map V.str)) (z : (ys.map (·.length)).sum + ys.length * a.length ≤ 16777216) (k : Q (.str (Txt.join a ys)) H) : rJoin K (.str a) [.ref p] H Q := ⟨a, p, ys, rfl, rfl, h, z, k⟩
end
end Hg
end L2
end

section
set_option Elab.async false
set_option linter.all false
set_option maxRecDepth 100000
set_option maxHeartbeats 4000000
/-! max(xs, key=int), max(a, b, key=int). -/
namespace L2
namespace Hg
open PySem PySem.Spec PyProof.Rows
/-- what the list of the best one so far holds -/
def BestAt (h : Heap) (S : Addr) : Option Int → Prop
  | none => ∃ c, h.get? S = some (seqObj "list" #[] c)
  | some M => ∃ c t u, h.get? S = some (seqObj "list" #[.int M t, .int M u] c)
theorem BestAt.keep {h h' : Heap} {S : Addr} {b : Option Int} (k : ∀ o, h.get? S = some o → h'.get? S = some o) (x : BestAt h S b) : BestAt h' S b := by
  cases b with
  | none => obtain ⟨c, e⟩ := x; exact ⟨c, k _ e⟩
  | some M => obtain ⟨c, t, u, e⟩ := x; exact ⟨c, t, u, k _ e⟩
section
variable {prog : Program} {w : World} {A : Around} {s : Shared} {R : Result → Shared → Prop} {I S : Addr} {fp : List Addr} {n : Nat} {P : Nat → Value → Prop} {St : Nat → Heap → Prop} {ns : Nat → Int} {h0 : Heap}
theorem maxk_loop (W : Walks prog w A.in1 I fp [I] n P St) (hP : ∀ i v, P i v → ∃ t, v = .int (ns i) t) (fS : S ∉ fp) (ne : S ≠ I) (oI : h0.get? I = none) (oS : h0.get? S = none) (n0 : 0 < n)
    (fin : ∀ M t h tk, (∃ i, i < n ∧ ns i = M) → (∀ i, i < n → ns i ≤ M) → (∀ b o, h0.get? b = some o → h.get? b = some o) → R (.ok (.ret (.int M t))) { s with heap := h, toks := tk }) :
    ∀ (r j : Nat) (b : Option Int) (h : Heap) (tk : Nat), n - j = r → j ≤ n → St j h → BestAt h S b → (∀ b o, h0.get? b = some o → h.get? b = some o) → (b = none → j = 0) → (∀ M, b = some M → (∃ i, i < j ∧ ns i = M) ∧ ∀ i, i < j → ns i ≤ M) →
      codeAny (model prog w) A (.builtin "max.loop" ⟨[.ref I, .type "int", .ref S], []⟩) R { s with heap := h, toks := tk } := by
  have nm : (toString "max" ++ toString ".loop" : String) = "max.loop" := by decide
  have nbI : ∀ b o, h0.get? b = some o → b ∉ [I] := fun b o e z => by
    rw [List.mem_singleton.mp z, oI] at e
    exact nomatch e
  have nbS : ∀ b o, h0.get? b = some o → b ≠ S := fun b o e z => by
    rw [z, oS] at e
    exact nomatch e
  have SI : S ∉ [I] := fun z => ne (List.mem_singleton.mp z)
  intro r
  induction r with
  | zero =>
    intro j b h tk hr hj hst hb hk h1 h2
    have ej : j = n := by omega
    subst ej
    cases b with
    | none => have := h1 rfl; omega
    | some M =>
      obtain ⟨c, t, u, e⟩ := hb
      refine codeAny_builtin (PySem.F.entry_max_loop) ?_
      rw [Around.under_plainId (PySem.F.plain_max_loop) _]
      refine (show wpAny _ A.in1 (seqItems? (.ref S) >>= _) _ _ _ from wpAny_bind (wpAny_seqItems e rfl ?_))
      refine (show wpAny _ A.in1 (tryCatch (pyNext (.ref I)) _ >>= _) _ _ _ from wpAny_bind (wpAny_tryCatch (W.done _ _ _ hst fun g tk' kg => ?_)))
      have eS := kg S _ SI e
      have same := Heap.SameBut.update g S (Obj.mapSeq fun _ => (#[] : Array Value))
      refine (show wpAny _ A.in1 (updateSeq S (fun _ => #[]) >>= _) _ _ _ from wpAny_bind (wpAny_updateSeq eS rfl (wpAny_bind (wpAny_letGo (wpAny_pure ?_)))))
      obtain ⟨q1, q2⟩ := h2 M rfl
      exact fin M t _ _ q1 q2 fun b o z => (same.2 b (nbS b o z)).trans (kg b o (nbI b o z) (hk b o z))
  | succ r ih =>
    intro j b h tk hr hj hst hb hk h1 h2
    have lt : j < n := by omega
    have step : ∀ (d : Option Int) (t u : Tok) (g : Heap) (tk' : Nat), St (j + 1) g → BestAt g S d → (∀ b o, h0.get? b = some o → g.get? b = some o) → d ≠ none → (∀ M, d = some M → (∃ i, i < j + 1 ∧ ns i = M) ∧ ∀ i, i < j + 1 → ns i ≤ M) →
        codeAny (model prog w) A (.builtin "max.loop" ⟨[.ref I, .type "int", .ref S], []⟩) R { s with heap := g, toks := tk' } := fun d t u g tk' g1 g2 g3 g4 g5 =>
      ih (j + 1) d g tk' (by omega) lt g1 g2 g3 (fun z => absurd z g4) g5
    obtain ⟨its, c, e, hits⟩ : ∃ its c, h.get? S = some (seqObj "list" its c) ∧ ((b = none ∧ its = #[]) ∨ ∃ M t u, b = some M ∧ its = #[.int M t, .int M u]) := by
      cases b with
      | none => obtain ⟨c, e⟩ := hb; exact ⟨_, c, e, .inl ⟨rfl, rfl⟩⟩
      | some M => obtain ⟨c, t, u, e⟩ := hb; exact ⟨_, c, e, .inr ⟨M, t, u, rfl, rfl⟩⟩
    have isz : its.size ≤ sizeLine := by
      rcases hits with ⟨_, rfl⟩ | ⟨M, t, u, _, rfl⟩
      · exact Nat.zero_le _
      · exact (by decide : 2 ≤ sizeLine)
    refine codeAny_builtin (PySem.F.entry_max_loop) ?_
    rw [Around.under_plainId (PySem.F.plain_max_loop) _]
    refine (show wpAny _ A.in1 (seqItems? (.ref S) >>= _) _ _ _ from wpAny_bind (wpAny_seqItems e rfl ?_))
    refine (show wpAny _ A.in1 (tryCatch (pyNext (.ref I)) _ >>= _) _ _ _ from wpAny_bind (wpAny_tryCatch (W.item j _ _ _ lt hst fun v g tk' hv hst' kg => ?_)))
    obtain ⟨t, rfl⟩ := hP j v hv
    have eS := kg S _ SI e
    have hk' : ∀ b o, h0.get? b = some o → g.get? b = some o := fun b o z => kg b o (nbI b o z) (hk b o z)
    refine (show wpAny _ A.in1 (tryCatch (holding [Value.int (ns j) t] (call (.type "int") [.int (ns j) t])) _ >>= _) _ _ _ from wpAny_bind (wpAny_tryCatch (wpAny_holding (PySem.call_int_int ?_))))
    have put : ∀ (x y : Tok), St (j + 1) (g.update S (Obj.mapSeq fun _ => #[.int (ns j) x, .int (ns j) y])) ∧ BestAt (g.update S (Obj.mapSeq fun _ => #[.int (ns j) x, .int (ns j) y])) S (some (ns j)) ∧
        ∀ b o, h0.get? b = some o → (g.update S (Obj.mapSeq fun _ => #[.int (ns j) x, .int (ns j) y])).get? b = some o := fun x y => by
      have same := Heap.SameBut.update g S (Obj.mapSeq fun _ => #[Value.int (ns j) x, .int (ns j) y])
      exact ⟨W.frame _ _ _ hst' fun b hb o z => (same.2 b (fun q => fS (q ▸ hb))).trans z, ⟨_, _, _, get?_update_seq eS fun _ => #[.int (ns j) x, .int (ns j) y]⟩, fun b o z => (same.2 b (nbS b o z)).trans (hk' b o z)⟩
    rcases hits with ⟨rfl, rfl⟩ | ⟨M, t1, u1, rfl, rfl⟩
    · have j0 := h1 rfl
      subst j0
      obtain ⟨p1, p2, p3⟩ := put t t
      refine (show wpAny _ A.in1 (updateSeq S (fun _ => #[.int (ns 0) t, .int (ns 0) t]) >>= _) _ _ _ from wpAny_bind (wpAny_updateSeq eS rfl ?_))
      rw [nm]
      refine wpAny_pure ⟨plainId_quiet (PySem.F.plain_max_loop) _, step _ t t _ _ p1 p2 p3 (fun z => nomatch z) fun M' e' => ?_⟩
      cases e'
      exact ⟨⟨0, Nat.lt_succ_self _, rfl⟩, fun i hi => by rw [show i = 0 by omega]; exact Int.le_refl _⟩
    · obtain ⟨⟨i0, i1, rfl⟩, i3⟩ := h2 M rfl
      refine (show wpAny _ A.in1 (tryCatch (holding [Value.int (ns j) t, .int (ns j) t] (richCompare .Gt (.int (ns j) t) (.int (ns i0) u1) >>= _)) _ >>= _) _ _ _ from
        wpAny_bind (wpAny_tryCatch (wpAny_holding (wpAny_bind (CmpOf.ints_gt (P := fun i v => ∃ t, v = .int (ns i) t) ns (fun i v h => h) j i0 _ _ _ _ _ ⟨t, rfl⟩ ⟨u1, rfl⟩ ?_)))))
      refine wpAny_bind (wpAny_holding (wpAny_truthy_bool (wpAny_bind (wpAny_letGo (wpAny_pure ?_)))))
      by_cases better : ns j > ns i0
      · obtain ⟨p1, p2, p3⟩ := put t t
        simp only [better, decide_true, if_true]
        refine wpAny_bind (wpAny_updateSeq eS rfl (wpAny_bind (wpAny_letGo ?_)))
        rw [nm]
        refine wpAny_pure ⟨plainId_quiet (PySem.F.plain_max_loop) _, step _ t t _ _ p1 p2 p3 (fun z => nomatch z) fun M' e' => ?_⟩
        cases e'
        refine ⟨⟨j, Nat.lt_succ_self _, rfl⟩, fun i hi => ?_⟩
        by_cases e : i = j
        · rw [e]; exact Int.le_refl _
        · have := i3 i (by omega)
          omega
      · simp only [better, decide_false, Bool.false_eq_true, if_false]
        refine wpAny_bind (wpAny_letGo ?_)
        rw [nm]
        refine wpAny_pure ⟨plainId_quiet (PySem.F.plain_max_loop) _, step (some (ns i0)) t t _ _ hst' ⟨_, _, _, eS⟩ hk' (fun z => nomatch z) fun M' e' => ?_⟩
        cases e'
        refine ⟨⟨i0, by omega, rfl⟩, fun i hi => ?_⟩
        by_cases e : i = j
        · rw [e]; omega
        · exact i3 i (by omega)
end
/-- max(xs, key=int) of a list of ints -/
def rMaxKey (K : PySem.W.Frag) : List V → List V → Hp → VK → Prop := fun xs zs H Q => ∃ (a : Addr) (ns : List Int), xs = [.ref a] ∧ zs = [.ty "int"] ∧ SqL K H a (ns.map V.int) ∧ 0 < ns.length ∧ ∀ m, m ∈ ns → (∀ y, y ∈ ns → y ≤ m) → Q (.int m) H
theorem bind_key (v : Value) : Builtin.Builtins.bindParams "max" ["key", "default"] 0 ⟨[], [(Str.ofString "key", v)]⟩ = pure [some v, none] := rfl
theorem max_key2 (a b v : Value) : argsOk "max" ⟨[a, b], [(Str.ofString "key", v)]⟩ := by unfold argsOk; kernel_rfl
section
variable {X : Cx}
theorem cr_maxKey (K : PySem.W.Frag) (hc : X.calm = true) (hK : X.K = K := by rfl) : CallRK X (.builtin "max") [Str.ofString "key"] (rMaxKey K) := by
  subst hK
  intro pins s σ H xs zs us ws Q I r rz h
  obtain ⟨a, ns, rfl, rfl, hs, hne, q⟩ := h
  obtain ⟨its, rv, hl, _⟩ := I.list hs
  have hl := hl.isList
  rw [Vals.ref1 r]
  cases rz with
  | cons r1 r2 =>
    cases r2
    cases (show _ = Value.type "int" from r1)
    have hi := rv.ints
    have hlen := hi.length
    have la : a < s.heap.objs.size := let ⟨o, e, _⟩ := hl; Heap.lt_size e
    refine PyProof.Rows.kmk_tree (args := [.ref a]) (kw := [(Str.ofString "key", .type "int")]) PySem.F.kind_max PySem.F.plain_max PySem.F.entry_max (PyProof.Rows.kmk_max_key _ _) ?_
    refine (show wpAny _ X.A.in1 (Builtin.Builtins.bindParams "max" ["key", "default"] 0 ⟨[], [(Str.ofString "key", .type "int")]⟩ >>= _) _ _ s from wpAny_bind (wpAny_of_eq (bind_key _) (wpAny_bind (wpAny_pure (wpAny_bind (wpAny_pyIter_list hl (wpAny_bind (wpAny_newList ?_ (Nat.zero_le _)))))))))
    rw [show (toString "max" ++ toString ".loop" : String) = "max.loop" by decide]
    have sz : (s.heap.push { cls := .type "list_iterator", data := .fields #[.ref a, .int 0 0] }).objs.size = s.heap.objs.size + 1 := size_push' ..
    have eI : ((s.heap.push { cls := .type "list_iterator", data := .fields #[.ref a, .int 0 0] }).push (seqObj "list" #[] 0)).get? s.heap.objs.size = some { cls := .type "list_iterator", data := .fields #[.ref a, .int 0 0] } := Heap.get?_push_of_some _ (Heap.get?_push_size _ rfl)
    have W : Walks X.prog X.w X.A.in1 s.heap.objs.size [s.heap.objs.size, a] [s.heap.objs.size] its.toArray.size (fun i v => its.toArray[i]? = some v) (fun i h => h.IsListIter s.heap.objs.size a i ∧ h.IsList a its.toArray) := Walks.list (A := X.A.in1) (I.ok.hd hc) s.heap.objs.size a (Nat.ne_of_lt la) its.toArray
    have st0 : ((s.heap.push { cls := .type "list_iterator", data := .fields #[.ref a, .int 0 0] }).push (seqObj "list" #[] 0)).IsListIter s.heap.objs.size a 0 ∧ ((s.heap.push { cls := .type "list_iterator", data := .fields #[.ref a, .int 0 0] }).push (seqObj "list" #[] 0)).IsList a its.toArray :=
      ⟨⟨_, eI, rfl, rfl⟩, let ⟨o, e, rest⟩ := hl; ⟨o, Heap.get?_push_of_some _ (Heap.get?_push_of_some _ e), rest⟩⟩
    refine wpAny_pure ⟨plainId_quiet (PySem.F.plain_max_loop) _, ?_⟩
    refine maxk_loop (h0 := s.heap) (ns := fun i => ns.getD i 0) W (fun i v hv => ?_) (fun z => ?_) (by rw [sz]; exact Nat.succ_ne_self _) (Heap.get?_none_of_le (Nat.le_refl _)) (Heap.get?_none_of_le (by rw [sz]; exact Nat.le_succ _)) (by rw [List.size_toArray, hlen]; exact hne)
      (fun M t h tk m1 m2 k => ?_) _ 0 none _ _ rfl (Nat.zero_le _) st0 ⟨0, Heap.get?_push_size _ rfl⟩ (fun b o e => Heap.get?_push_of_some _ (Heap.get?_push_of_some _ e)) (fun _ => rfl) (fun M e => nomatch e)
    · have hv : its[i]? = some v := by simpa using hv
      have hi' : i < its.length := (List.getElem?_eq_some_iff.mp hv).1
      have hn : ns[i]? = some ns[i] := List.getElem?_eq_getElem (by omega)
      obtain ⟨t, ht⟩ := hi.get i _ hn
      rw [ht] at hv
      cases hv
      exact ⟨t, by simp [hn]⟩
    · rw [sz] at z
      rcases List.mem_cons.mp z with z | z
      · exact Nat.succ_ne_self _ z
      · exact absurd (List.mem_singleton.mp z) (Nat.ne_of_gt (Nat.lt_succ_of_lt la))
    · obtain ⟨i, i1, rfl⟩ := m1
      rw [List.size_toArray] at i1 m2
      refine ⟨.int _, H, I.kept k, ⟨_, rfl⟩, q _ ?_ fun y hy => ?_⟩
      · have hn : ns[i]? = some ns[i] := List.getElem?_eq_getElem (by omega)
        simp only [List.getD_eq_getElem?_getD, hn, Option.getD_some]
        exact List.getElem_mem _
      · obtain ⟨j, hj, rfl⟩ := List.getElem_of_mem hy
        have z := m2 j (by omega)
        have hn : ns[j]? = some ns[j] := List.getElem?_eq_getElem hj
        simp only [List.getD_eq_getElem?_getD, hn, Option.getD_some] at z ⊢
        exact z
/-- max(a, b, key=int) of two ints -/
def rMaxKey2 : List V → List V → Hp → VK → Prop := fun xs zs H Q => ∃ i j : Int, xs = [.int i, .int j] ∧ zs = [.ty "int"] ∧ Q (.int (if j > i then j else i)) H
theorem cr_maxKey2 (hc : X.calm = true) : CallRK X (.builtin "max") [Str.ofString "key"] rMaxKey2 := by
  intro pins s σ H xs zs us ws Q I r rz h
  obtain ⟨i, j, rfl, rfl, q⟩ := h
  cases r with
  | cons r1 r2 =>
  cases r2 with
  | cons r2 r3 =>
  cases r3
  obtain ⟨t1, rfl⟩ := r1
  obtain ⟨t2, rfl⟩ := r2
  cases rz with
  | cons r4 r5 =>
    cases r5
    cases (show _ = Value.type "int" from r4)
    let tup : Obj := { cls := .type "tuple", data := .seq [Value.int i t1, .int j t2].toArray }
    let itr : Obj := { cls := .type "tuple_iterator", data := .fields #[.ref s.heap.objs.size, .int 0 0] }
    have s1 : (s.heap.push tup).objs.size = s.heap.objs.size + 1 := size_push' ..
    have s2 : ((s.heap.push tup).push itr).objs.size = s.heap.objs.size + 1 + 1 := by rw [size_push', s1]
    have hT : (s.heap.push tup).IsTuple s.heap.objs.size [Value.int i t1, .int j t2].toArray := ⟨tup, Heap.get?_push_size _ rfl, rfl, _, rfl⟩
    refine PyProof.Rows.kmk_tree (args := [.int i t1, .int j t2]) (kw := [(Str.ofString "key", .type "int")]) PySem.F.kind_max PySem.F.plain_max PySem.F.entry_max (max_key2 _ _ _) ?_
    refine (show wpAny _ X.A.in1 (Builtin.Builtins.bindParams "max" ["key", "default"] 0 ⟨[], [(Str.ofString "key", .type "int")]⟩ >>= _) _ _ s from wpAny_bind (wpAny_of_eq (bind_key _) (wpAny_bind (wpAny_newTuple (wpAny_bind (wpAny_pyIter_tuple hT (wpAny_bind (wpAny_newList ?_ (Nat.zero_le _)))))))))
    rw [show (toString "max" ++ toString ".loop" : String) = "max.loop" by decide]
    have W : Walks X.prog X.w X.A.in1 (s.heap.push tup).objs.size [(s.heap.push tup).objs.size, s.heap.objs.size] [(s.heap.push tup).objs.size] [Value.int i t1, .int j t2].toArray.size (fun k v => [Value.int i t1, .int j t2].toArray[k]? = some v) (fun k h => h.IsTupleIter (s.heap.push tup).objs.size s.heap.objs.size k ∧ h.IsTuple s.heap.objs.size [Value.int i t1, .int j t2].toArray) :=
      Walks.tuple (A := X.A.in1) (I.ok.hd hc) (s.heap.push tup).objs.size s.heap.objs.size (by rw [s1]; exact Nat.ne_of_lt (Nat.lt_succ_self _)) _
    refine wpAny_pure ⟨plainId_quiet (PySem.F.plain_max_loop) _, ?_⟩
    refine maxk_loop (h0 := s.heap) (ns := fun k => if k = 0 then i else j) W (fun k v hv => ?_) (fun z => ?_) (by show ((s.heap.push tup).push itr).objs.size ≠ _; rw [s2, s1]; exact Nat.succ_ne_self _) (Heap.get?_none_of_le (by rw [s1]; exact Nat.le_succ _)) (Heap.get?_none_of_le (by show _ ≤ ((s.heap.push tup).push itr).objs.size; rw [s2]; exact Nat.le_add_right _ 2)) (show 0 < 2 by decide)
      (fun M t h tk m1 m2 k => ?_) _ 0 none _ _ rfl (Nat.zero_le _) ⟨⟨itr, Heap.get?_push_of_some _ (Heap.get?_push_size _ rfl), rfl, rfl⟩, ⟨tup, Heap.get?_push_of_some _ (Heap.get?_push_of_some _ (Heap.get?_push_size _ rfl)), rfl, _, rfl⟩⟩ ⟨0, Heap.get?_push_size _ rfl⟩
      (fun b o e => Heap.get?_push_of_some _ (Heap.get?_push_of_some _ (Heap.get?_push_of_some _ e))) (fun _ => rfl) (fun M e => nomatch e)
    · match k, hv with
      | 0, hv => exact ⟨t1, by cases hv; rfl⟩
      | 1, hv => exact ⟨t2, by cases hv; rfl⟩
      | k + 2, hv => simp at hv
    · have z : ((s.heap.push tup).push itr).objs.size ∈ [(s.heap.push tup).objs.size, s.heap.objs.size] := z
      rw [s2, s1] at z
      rcases List.mem_cons.mp z with z | z
      · exact Nat.succ_ne_self _ z
      · exact absurd (List.mem_singleton.mp z) (Nat.ne_of_gt (Nat.lt_succ_of_lt (Nat.lt_succ_self _)))
    · obtain ⟨k0, k1, rfl⟩ := m1
      have a0 := m2 0 (show 0 < 2 by decide)
      have a1 := m2 1 (show 1 < 2 by decide)
      refine ⟨.int _, H, I.kept k, ⟨_, rfl⟩, ?_⟩
      rw [if_pos rfl] at a0
      rw [if_neg (by decide)] at a1
      have e : (if k0 = 0 then i else j) = if j > i then j else i := by
        have : k0 = 0 ∨ k0 = 1 := by
          have : k0 < 2 := k1
          omega
        rcases this with rfl | rfl
        · rw [if_pos rfl] at a1 ⊢
          rw [if_neg (by omega)]
        · rw [if_neg (by decide)] at a0 ⊢
          split <;> omega
      rw [e]
      exact q
end
end Hg
end L2
end

section
set_option Elab.async false
set_option linter.all false
set_option maxRecDepth 100000
set_option maxHeartbeats 4000000
/-! Classmethods by place and by name; a class called by a local name. -/
namespace L2
namespace Hg
open PySem PySem.Spec PyProof.Rows
theorem fn_in {K : PySem.W.Frag} {f : Addr} {oc : Value} {od : Option Addr} {fd : FuncData} {sl : Array (Option Value)} (h : K.lookup f = some ⟨oc, od, .func fd, sl⟩) : PySem.W.fnIn K f = true := by
  show (match K.lookup f with | some ⟨_, _, .func _, _⟩ => true | _ => false) = true
  rw [h]
structure CmAt (K : PySem.W.Frag) (C : Addr) (m q : Str) (st : Stmt) : Prop where
  ex : ∃ (mc : Value) (p g : Addr) (fd : FuncData), ClX.CRead K C mc ∧ ClX.CMet K C mc m p g ∧ Fun K m q st g fd
def CmOk (P : Program) (w : World) (K : PySem.W.Frag) (mg : Str → Option Value) (base : Heap) (CX : CXT) (k : Nat) (C : Addr) (m q : Str) (st : Stmt) (ps : List Str) (sp : Sp) : Prop :=
  ∃ (mc : Value) (p g : Addr) (fd : FuncData), ClX.CRead K C mc ∧ ClX.CMet K C mc m p g ∧ Fun K m q st g fd ∧ FnOk P w K mg base CX k g fd ps sp ∧ Binds K fd ps []
section
variable {P : Program} {w : World} {K : PySem.W.Frag} {mg : Str → Option Value} {base : Heap} {k : Nat} {m q : Str} {st : Stmt} {C : Addr} {N ps : List Str} {sp : Sp}
theorem CmAt.ok (F : CmAt K C m q st) (S : FnScope N ps (defScope st)) (hb : BindsAs st m q ps) (len : ∀ vs H Q E, sp vs H Q E → vs.length = ps.length)
    (hbody : ∀ (f : Addr) (cdv : Value) (A : Around) (outer : List Env) (s : Shared) (H : Hp) (vs : List V) (Q : VK) (E : XK), Room k (A.deeper (envOfC q (defScope st) s.heap.objs.size f cdv)) → sp vs H Q E →
      ∃ t, PSs (cxOf CX0 P w K mg base N q (defScope st) f cdv A outer s H E).nox (defBody st) t ∧ t { nx := fun _ H' => Q .non H', rt := Q } (start N vs) H) : CmOk P w K mg base CX0 (k + 1) C m q st ps sp := by
  obtain ⟨mc, p, f, fd, r, c, F1⟩ := F.ex
  exact ⟨mc, p, f, fd, r, c, F1, F1.ok S len fun cdv A outer s H vs Q E hr h => hbody f cdv A outer s H vs Q E hr h, F1.binds hb⟩
theorem CmAt.okX (F : CmAt K C m q st) (S : FnScope N ps (defScope st)) (hb : BindsAs st m q ps) (len : ∀ vs H Q E, sp vs H Q E → vs.length = ps.length)
    (hbody : ∀ (f : Addr) (cdv : Value) (A : Around) (outer : List Env) (s : Shared) (H : Hp) (vs : List V) (Q : VK) (E : XK), Room k (A.deeper (envOfC q (defScope st) s.heap.objs.size f cdv)) → sp vs H Q E →
      ∃ t, PSs (cxOf (L2.CX P w) P w K mg base N q (defScope st) f cdv A outer s H E) (defBody st) t ∧ t { nx := fun _ H' => Q .non H', rt := Q } (start N vs) H) : CmOk P w K mg base (L2.CX P w) (k + 1) C m q st ps sp := by
  obtain ⟨mc, p, f, fd, r, c, F1⟩ := F.ex
  exact ⟨mc, p, f, fd, r, c, F1, F1.okX S len fun cdv A outer s H vs Q E hr h => hbody f cdv A outer s H vs Q E hr h, F1.binds hb⟩
/-- keywords alone, behind n values by place -/
theorem Fun.kb {f : Addr} {fd : FuncData} (F : Fun K m q st f fd) (n : Nat) (ks : List Str)
    (h : ∀ (kV doc pm : Value) (an : Option Addr) (cdv ct : Value) (us ws : List Value), us.length = n → ws.length = ks.length → bindArgs (PySem.W.fnOf m q (defArgs st) (defBody st) (defScope st) .none kV doc pm an cdv ct) ⟨us, ks.zip ws⟩ = pure (ps.zip (us ++ ws))) :
    KBn K fd ps n ks (fun us ws => us ++ ws) (fun vs zs => vs ++ zs) := by
  obtain ⟨oc, od, kV, doc, pm, an, cdv, ct, osl, rfl, lk, hcd⟩ := F.ex
  exact ⟨fun s us ws X l1 l2 => BindsTo.of_looks fun M => PySem.W.Looks.of_pure (h kV doc pm an cdv ct us ws l1 l2), fun r z => r.append z⟩
end
section
variable {X : Cx} {CX : CXT} {k : Nat} {C : Addr} {m q : Str} {st : Stmt} {ps : List Str} {sp : Sp} {E : XK} {o e : Expr} {es : List Expr} {kws : List Keyword} {pos apos p : Pos} {ta : TE} {t tk : TA} {pl : Sem Bool}
/-- C.m(e, ..) -/
def tCm (C : Addr) (sp : Sp) (E : XK) (ta : TE) (t : TA) : TE := fun σ H Q => ta σ H fun x H1 => x = .ref C ∧ t σ H1 fun vs H2 => sp (.ref C :: vs) H2 Q E
theorem pe_cm (F : CmOk X.prog X.w X.K X.mg X.base CX k C m q st ps sp) (hr : Room k X.A) (hx : Passes CX X E) (he : PE X o ta) (ha : PA X (e :: es) t)
    (hst : starEach (e :: es) X.env = (false, eval e X.env) :: starEach es X.env := by rfl) (hpl : (backTo pos (starEach es X.env)).any (·.1) = false := by rfl)
    (ht : eval (.Call (.Attribute o m apos) (e :: es) [] pos) X.env = (do
      let ov ← eval o X.env
      standAt apos.atName
      let (f, first) ← holding [ov] (getMethod ov m pl)
      callWith pos f first (backTo pos (starEach (e :: es) X.env)) (backToKw pos (keywordEach [] X.env))) := by rfl) :
    PE X (.Call (.Attribute o m apos) (e :: es) [] pos) (tCm C sp E ta t) := by
  obtain ⟨mc, pp, g, fd, r, c, F1, G, hb⟩ := F
  have R : FnR X.prog X.w X.K X.mg X.base CX k g sp := (G.raw hb .nil).imp fun vs H Q E h => by rw [List.append_nil]; exact h
  exact ClX.pe_cmeth he r c R hr hx ha hst hpl ht
/-- C.m() -/
theorem pe_cm0 (F : CmOk X.prog X.w X.K X.mg X.base CX k C m q st ps sp) (hr : Room k X.A) (hx : Passes CX X E) (he : PE X o ta)
    (ht : eval (.Call (.Attribute o m apos) [] [] pos) X.env = (do
      let ov ← eval o X.env
      standAt apos.atName
      let (f, first) ← holding [ov] (getMethod ov m pl)
      callWith pos f first (backTo pos (starEach [] X.env)) (backToKw pos (keywordEach [] X.env))) := by rfl) :
    PE X (.Call (.Attribute o m apos) [] [] pos) (tCm C sp E ta tNil) := by
  obtain ⟨mc, pp, g, fd, r, c, F1, G, hb⟩ := F
  have R : FnR X.prog X.w X.K X.mg X.base CX k g sp := (G.raw hb .nil).imp fun vs H Q E h => by rw [List.append_nil]; exact h
  refine ⟨fun pins s σ H Q I h => PySem.W.methodCall_KW (pl := pl) (thn (he.run pins s σ H _ I h) fun u s1 ⟨x, H1, I1, rx, ex, q⟩ => ?_) ht⟩
  subst ex
  obtain rfl : u = Value.ref C := rx
  refine ClX.getmethcm_ok I1 r c fun s2 I2 => ?_
  refine PySem.W.callWith_M0 (K := X.K) (g := g) (self := .ref C) ⟨ClX.pin_at I2, I2.kIn⟩ c.fi ?_
  exact ClX.run_cm R hr hx I2 .nil q
/-- C.m(k = e, ..) -/
theorem pe_cmK {ks : List Str} (F : CmOk X.prog X.w X.K X.mg X.base CX k C m q st ps sp) (hr : Room k X.A) (hx : Passes CX X E) (he : PE X o ta) (hkw : PK X kws tk)
    (hb : ∀ (kV doc pm : Value) (an : Option Addr) (cdv ct : Value) (us ws : List Value), us.length = 1 → ws.length = ks.length → bindArgs (PySem.W.fnOf m q (defArgs st) (defBody st) (defScope st) .none kV doc pm an cdv ct) ⟨us, ks.zip ws⟩ = pure (ps.zip (us ++ ws)))
    (hall : (backToKw pos (keywordEach kws X.env)).all (·.1.isSome) = true := by rfl) (hks : (backToKw pos (keywordEach kws X.env)).filterMap (·.1) = ks := by rfl)
    (hpl : ((backTo pos (starEach [] X.env)).any (·.1) || (backToKw pos (keywordEach kws X.env)).any (·.1.isNone)) = false := by rfl)
    (ht : eval (.Call (.Attribute o m apos) [] kws pos) X.env = (do
      let ov ← eval o X.env
      standAt apos.atName
      let (f, first) ← holding [ov] (getMethod ov m pl)
      callWith pos f first (backTo pos (starEach [] X.env)) (backToKw pos (keywordEach kws X.env))) := by rfl) :
    PE X (.Call (.Attribute o m apos) [] kws pos) (tCm C sp E ta fun σ H QL => tk σ H fun vs H2 => vs.length = ks.length ∧ QL vs H2) := by
  obtain ⟨mc, pp, g, fd, r, c, F1, G, _⟩ := F
  have KB := Fun.kb (ps := ps) F1 1 ks hb
  refine ⟨fun pins s σ H Q I h => PySem.W.methodCall_KW (pl := pl) (thn (he.run pins s σ H _ I h) fun u s1 ⟨x, H1, I1, rx, ex, q⟩ => ?_) ht⟩
  subst ex
  obtain rfl : u = Value.ref C := rx
  refine ClX.getmethcm_ok I1 r c fun s2 I2 => ?_
  refine PySem.W.callWith_of (P := PySem.W.MethP X.K s1.heap.objs.size g (.ref C)) hpl (PySem.W.keeps_M c.fi) (evalArgs_kw2_nil hall (thn (hkw.run pos _ s2 σ H1 _ I2 q) fun ws s3 ⟨zs, H2, I3, rz, lz, q2⟩ => ⟨⟨ClX.pin_at I3, I3.kIn⟩, ?_⟩))
  rw [hks]
  have z : wpAny (model X.prog X.w) X.A (call (.ref s1.heap.objs.size) [] (ks.zip ws)) (EP X ((s1.heap.objs.size, PySem.W.methodObj (.ref g) (.ref C)) :: pins) σ Q) X.xe s3 := by
    refine wpAny_call (PySem.W.method_call (ClX.pin_at I3) (codeAny_mono (G.run X.A X.stack s3 H2 ⟨[.ref C], ks.zip ws⟩ ([Value.ref C] ++ ws) ([V.ref C] ++ zs) Q E hr I3.env0 (KB.to s3 [.ref C] ws I3.kIn rfl (rz.length.symm.trans lz)) (KB.rel (.cons (show RelV (.ref C) (.ref C) from rfl) .nil) rz) q2) fun r s' hq => ?_))
    cases r with
    | error e => exact hx _ σ H2 s3 e s' I3 hq
    | ok fl =>
      cases fl with
      | ret u => exact I3.after hq
      | next => exact False.elim hq
      | brk => exact False.elim hq
      | cont => exact False.elim hq
  exact thn z fun _ _ y => ClX.unpinE y
/-- C.m(e, ..) where what is raised is wished at the slots -/
def tCmS (C : Addr) (sp : Sp) (ES : St → XK) (ta : TE) (t : TA) : TE := fun σ H Q => ta σ H fun x H1 => x = .ref C ∧ t σ H1 fun vs H2 => sp (.ref C :: vs) H2 Q (ES σ)
theorem pe_cmS {ES : St → XK} (F : CmOk X.prog X.w X.K X.mg X.base CX k C m q st ps sp) (hr : Room k X.A) (hx : ∀ σ, PassesAt CX X σ (ES σ)) (he : PE X o ta) (ha : PA X (e :: es) t)
    (hst : starEach (e :: es) X.env = (false, eval e X.env) :: starEach es X.env := by rfl) (hpl : (backTo pos (starEach es X.env)).any (·.1) = false := by rfl)
    (ht : eval (.Call (.Attribute o m apos) (e :: es) [] pos) X.env = (do
      let ov ← eval o X.env
      standAt apos.atName
      let (f, first) ← holding [ov] (getMethod ov m pl)
      callWith pos f first (backTo pos (starEach (e :: es) X.env)) (backToKw pos (keywordEach [] X.env))) := by rfl) :
    PE X (.Call (.Attribute o m apos) (e :: es) [] pos) (tCmS C sp ES ta t) := by
  obtain ⟨mc, pp, g, fd, r, c, F1, G, hb⟩ := F
  refine ⟨fun pins s σ H Q I h => PySem.W.methodCall_KW (pl := pl) (thn (he.run pins s σ H _ I h) fun u s1 ⟨x, H1, I1, rx, ex, q⟩ => ?_) ht⟩
  subst ex
  obtain rfl : u = Value.ref C := rx
  refine ClX.getmethcm_ok I1 r c fun s2 I2 => ?_
  refine ClX.callwith_cm I2 (ClX.base_none I1 (Nat.le_refl _)) c.fi (thn (ha.run pos _ s2 σ H1 _ I2 q) fun us s3 ⟨vs, H2, I3, rv, q2⟩ => ⟨⟨ClX.pin_at I3, I3.kIn⟩, ?_⟩) hst hpl
  have q3 : sp (V.ref C :: (vs ++ [])) H2 Q (ES σ) := by rw [List.append_nil]; exact q2
  have vals : Vals (V.ref C :: (vs ++ [])) (Value.ref C :: (us ++ [])) := .cons (show RelV (.ref C) (.ref C) from rfl) (rv.append .nil)
  have hl : ((Value.ref C :: us) ++ []).length = ps.length := by
    have z := vals.length
    rw [G.len _ _ _ _ q3] at z
    exact z.symm
  have hbb : BindsTo s3 fd ⟨.ref C :: us, []⟩ (ps.zip (Value.ref C :: (us ++ []))) := by
    have y := hb s3 (.ref C :: us) I3.kIn hl
    rwa [List.cons_append] at y
  have z : wpAny (model X.prog X.w) X.A (call (.ref s1.heap.objs.size) us) (EP X ((s1.heap.objs.size, PySem.W.methodObj (.ref g) (.ref C)) :: pins) σ Q) X.xe s3 := by
    refine wpAny_call (PySem.W.method_call (ClX.pin_at I3) (codeAny_mono (G.run X.A X.stack s3 H2 ⟨.ref C :: us, []⟩ (Value.ref C :: (us ++ [])) (V.ref C :: (vs ++ [])) Q (ES σ) hr I3.env0 hbb vals q3) fun r s' hq => ?_))
    cases r with
    | error e => exact hx σ _ H2 s3 e s' I3 hq
    | ok fl =>
      cases fl with
      | ret u => exact I3.after hq
      | next => exact False.elim hq
      | brk => exact False.elim hq
      | cont => exact False.elim hq
  exact thn z fun _ _ y => ClX.unpinE y
variable {σ : St} {H : Hp} {Q : VK} {QL : List V → Hp → Prop}
theorem r_cmS {ES : St → XK} (k : ta σ H fun x H1 => x = .ref C ∧ t σ H1 fun vs H2 => sp (.ref C :: vs) H2 Q (ES σ)) : tCmS C sp ES ta t σ H Q := k
theorem r_cm (k : ta σ H fun x H1 => x = .ref C ∧ t σ H1 fun vs H2 => sp (.ref C :: vs) H2 Q E) : tCm C sp E ta t σ H Q := k
theorem r_isC {R : Prop} (k : R) : V.ref C = .ref C ∧ R := ⟨rfl, k⟩
/-! ### isinstance of a caught error, of several classes -/
def rIsGT (K : PySem.W.Frag) (a : Addr) (cls : Value) (d : Option Addr) : List V → Hp → VK → Prop := fun xs H Q => ∃ (D tp : Addr) (cs : List V) (ws : List Value) (b : Bool), cls = .ref D ∧ d = none ∧ ExcC K D ∧ xs = [.ref a, .ref tp] ∧ H tp = some (.tup cs) ∧
  Paired ClsV cs ws ∧ PySem.W.kitAny K (.ref D) ws = some b ∧ Q (.bl b) H
theorem c_isGT {X : Cx} {a : Addr} {cls : Value} {d : Option Addr} {oe : Obj} {pn : List (Addr × Obj)} (K : PySem.W.Frag) (hz : Zc cls d oe) (hf : ∃ vs, oe.data = .fields vs) (hK : X.K = K := by rfl) :
    CallR (X.suite a ((a, oe) :: pn)) (.builtin "isinstance") (rIsGT K a cls d) := by
  subst hK
  intro pins s σ H xs us Q I r h
  obtain ⟨D, tp, cs, ws, b, rfl, rfl, C, rfl, hT, k, e, q⟩ := h
  obtain ⟨u1, u2, rfl, r1, r2⟩ := vals2 r
  cases (show u2 = Value.ref tp from r2)
  cases (show u1 = Value.ref a from r1)
  obtain ⟨hget, _⟩ := I.pin (a, oe) (List.mem_append.mpr (.inl List.mem_cons_self))
  obtain ⟨vs, hv⟩ := hf
  have J : PySem.W.InstAt s.heap a oe D none := by
    obtain ⟨oc, od, oda, osl⟩ := oe
    obtain ⟨h1, h2⟩ := hz
    dsimp only at h1 h2 hv
    subst h1 h2 hv
    exact ⟨hget, rfl, rfl, trivial⟩
  obtain ⟨_, its, rv, o, h1, h2, n, h3⟩ := (show ObjOk X.prog X.w H s.heap tp (.tup cs) from I.hok tp _ hT)
  have e3 := ClsV.all k rv
  subst e3
  obtain ⟨oc, od, dt, sl⟩ := o
  simp only at h2 h3
  subst h2 h3
  exact PySem.W.kia_tup (PySem.W.handS_kitx_exc C.hg C.hk C.hs C.hd C.ha C.hn C.ht C.hm) I.kIn J h1 e (fun z => nomatch z) fun tk => ⟨.bl b, H, I.kept (t' := tk) fun _ _ z => z, rfl, q⟩
/-! ### a class held by a local name -/
def tMakeL (i : Nat) (C : Addr) (sp : Sp) (dvs : List V) (E : XK) (t : TA) : TE := fun σ H Q => σ[i]? = some (some (.ref C)) ∧ tMakeS C sp dvs (fun _ => E) t σ H Q
theorem pe_makeL {i : Nat} {x y : Str} {dvs : List V} (F : MakeOk X.prog X.w X.K X.mg X.base CX k x C ps dvs sp) (hr : Room (k + 1) X.A) (hx : Passes CX X E) (hN : X.N[i]? = some y) (hv : Vis X.env.scope y) (ha : PA X (e :: es) t)
    (hdb : (y == ("__debug__" : Str)) = false := by decide) (hcd : (y == ("__classdict__" : Str)) = false := by decide)
    (he : starEach (e :: es) X.env = (false, eval e X.env) :: starEach es X.env := by rfl) (hpl : (backTo pos (starEach es X.env)).any (·.1) = false := by rfl) : PE X (.Call (.Name y p) (e :: es) [] pos) (tMakeL i C sp dvs E t) := by
  obtain ⟨hm, _, _, _, M, G, hb, hd⟩ := F
  refine ⟨fun pins s σ H Q I h => ?_⟩
  obtain ⟨hs, h⟩ := h
  refine wpAny_Call_Name_kw (thn ((pe_var (pos := p) hN hv hdb hcd).run pins s σ H (fun v H1 => v = .ref C ∧ H1 = H) I ⟨.ref C, hs, rfl, rfl⟩) fun u s1 ⟨v, H1, I1, r1, q1⟩ => ?_)
  obtain ⟨rfl, rfl⟩ := q1
  cases r1
  exact PySem.W.callWith_K (h₀ := X.base) I.ok.mod.kin M.kp (thn (ha.run pos pins s1 σ _ _ I1 h) fun us s2 ⟨vs, H2, I2, r, q⟩ => ⟨I2.kIn, run_makeS (E := fun _ => E) M G hr hb hd (fun pins H s e s' => hx pins σ H s e s') I2 r q⟩) he hpl
theorem r_makeL {i : Nat} {dvs : List V} (hs : σ[i]? = some (some (.ref C))) (k : tMakeS C sp dvs (fun _ => E) t σ H Q) : tMakeL i C sp dvs E t σ H Q := ⟨hs, k⟩
/-! ### xs[::-1], keywords of built-ins -/
theorem pe_revK {te : TE} {kk : Nat} {p1 p2 p3 : Pos} (K' : PySem.W.Frag) (he : PE X e te) (hK : X.K = K' := by rfl) : PE X (.Subscript e (.Slice none none (some (.UnaryOp .USub (.Constant (.int 1) kk p1) p2)) p3) pos) (tRevL K' te) := hK ▸ pe_revL he
theorem r_revL {K : PySem.W.Frag} {te : TE} (k : te σ H fun x H1 => ∃ a xs, x = .ref a ∧ SqL K H1 a xs ∧ ∀ p, H1 p = none → Q (.ref p) (upd H1 p (.lst xs.reverse))) : tRevL K te σ H Q := k
theorem r_rev {K : PySem.W.Frag} {a : Addr} {xs : List V} {R : Addr → List V → Prop} (h : SqL K H a xs) (k : R a xs) : ∃ a' xs', V.ref a = .ref a' ∧ SqL K H a' xs' ∧ R a' xs' := ⟨a, xs, rfl, h, k⟩
theorem r_iStr {te : TE} {R : It → Hp → Prop} (k : te σ H fun v H1 => ∃ x, v = .str x ∧ R (Its x) H1) : iStr te σ H R := k
theorem r_ckw {r : List V → List V → Hp → VK → Prop} (k : t σ H fun vs H1 => tk σ H1 fun zs H2 => r vs zs H2 Q) : tCKw r t tk σ H Q := k
theorem r_maxK {K : PySem.W.Frag} {a : Addr} {ns : List Int} (h : SqL K H a (ns.map V.int)) (ne : 0 < ns.length) (k : ∀ m, m ∈ ns → (∀ y, y ∈ ns → y ≤ m) → Q (.int m) H) : rMaxKey K [.ref a] [.ty "int"] H Q := ⟨a, ns, rfl, rfl, h, ne, k⟩
theorem r_maxK2 {i j : Int} (k : Q (.int (if j > i then j else i)) H) : rMaxKey2 [.int i, .int j] [.ty "int"] H Q := ⟨i, j, rfl, rfl, k⟩
end
end Hg
end L2
end
set_option Elab.async false
set_option linter.all false
set_option maxRecDepth 100000
set_option autoImplicit false
set_option maxHeartbeats 200000
namespace L2
namespace Hg
open PySem PySem.Spec PyProof.Rows
local macro_rules | `(tactic| tm_at "r1") => `(tactic| first
  | with_reducible refine' r_seq ?_
  | with_reducible refine' r_asg ?_
  | with_reducible refine' r_gName ?_
  | with_reducible refine' r_op ?_
  | ((with_reducible refine' r_var ?hv ?_); (case hv => rfl))
  | with_reducible refine' r_c ?_
  | with_reducible refine' r_cons ?_
  | with_reducible refine' r_nil ?_
  | with_reducible refine' r_cb ?_
  | with_reducible refine' r_call ?_
  | with_reducible refine' r_callS ?_
  | with_reducible refine' r_ifS ?_
  | with_reducible refine' r_ret ?_
  | with_reducible refine' r_drop ?_
  | with_reducible refine' r_next ?_
  | with_reducible refine' r_test ?_
  | with_reducible refine' r_B ?_
  | with_reducible refine' r_bl ?_
  | with_reducible refine' r_tru ?_
  | with_reducible refine' r_trK ?_
  | with_reducible refine' r_and ?_
  | with_reducible refine' r_or ?_
  | with_reducible refine' r_not ?_
  | with_reducible refine' r_andV ?_
  | with_reducible refine' r_orV ?_
  | with_reducible refine' r_notV ?_
  | with_reducible refine' r_if ?_
  | with_reducible refine' r_chain ?_
  | with_reducible refine' r_un ?_
  | with_reducible refine' r_for ?_
  | with_reducible refine' r_rng1 ?_
  | with_reducible refine' r_rng2 ?_
  | with_reducible refine' r_iL ?_
  | with_reducible refine' r_iT ?_
  | with_reducible refine' r_lc ?_
  | with_reducible refine' r_yes ?_
  | with_reducible refine' r_gCons ?_
  | with_reducible refine' r_gNil ?_
  | with_reducible refine' r_pairs ?_
  | with_reducible refine' r_pairs0 ?_
  | with_reducible refine' r_disp ?_
  | with_reducible refine' r_dput ?_
  | with_reducible refine' r_dget ?_
  | with_reducible refine' r_veI ?_
  | with_reducible refine' r_sFld ?_
  | with_reducible refine' r_fld ?_
  | with_reducible refine' r_makeS ?_
  | with_reducible refine' r_make ?_
  | with_reducible refine' r_lst ?_
  | with_reducible refine' r_tup ?_
  | with_reducible refine' r_addI ?_
  | with_reducible refine' r_sub ?_
  | with_reducible refine' r_lt ?_
  | with_reducible refine' r_le ?_
  | with_reducible refine' r_gt ?_
  | with_reducible refine' r_ge ?_
  | with_reducible refine' r_abs ?_
  | with_reducible refine' r_intI ?_
  | with_reducible refine' r_intB ?_
  | with_reducible refine' r_min2 ?_
  | with_reducible refine' r_max2 ?_
  | with_reducible refine' r_isN ?_
  | with_reducible refine' r_notN ?_
  | with_reducible refine' r_neg ?_
  | ((with_reducible refine' r_mod ?hv ?_); (case hv => decide))
  | ((with_reducible refine' r_mul (cmulL ?hv) ?_); (case hv => decide))
  | ((with_reducible refine' r_mul (cmulR ?hv) ?_); (case hv => decide))
  | ((with_reducible refine' r_pow ?hv ?_); (case hv => refine ⟨?_, ?_, ?_⟩ <;> decide))
  | with_reducible refine' r_T ?_
  | with_reducible refine' r_nT ?_
  | with_reducible refine' r_nF ?_
  | with_reducible refine' r_F ?_
  | with_reducible refine' r_meth ?_
  | with_reducible refine' r_metS ?_
  | with_reducible refine' r_prop ?_
  | with_reducible refine' r_star ?_
  | with_reducible refine' r_par ?_
  | with_reducible refine' r_par3 ?_
  | with_reducible refine' r_v2 ?_
  | with_reducible refine' r_v3 ?_
  | with_reducible refine' r_sl ?_
  | with_reducible refine' r_part ?_
  | with_reducible refine' r_noPart ?_
  | with_reducible refine' r_i ?_
  | with_reducible refine' r_gSub ?_
  | with_reducible refine' r_gFld ?_
  | with_reducible refine' r_xf ?_
  | with_reducible refine' r_bm ?_
  | with_reducible refine' r_iU ?_
  | with_reducible refine' r_keys ?_
  | with_reducible refine' r_din ?_
  | with_reducible refine' r_dc ?_
  | with_reducible refine' r_fs ?_
  | with_reducible refine' r_js ?_
  | with_reducible refine' r_js0 ?_
  | with_reducible refine' r_fmt ?_
  | with_reducible refine' r_m1 ?_
  | with_reducible refine' r_isS ?_
  | with_reducible refine' r_bm0 ?_
  | with_reducible refine' r_trO ?_
  | with_reducible refine' r_cm ?_
  | with_reducible refine' r_cmS ?_
  | with_reducible refine' r_isC ?_
  | with_reducible refine' r_makeS ?_
  | with_reducible refine' r_revL ?_
  | with_reducible refine' r_ckw ?_
  | with_reducible refine' r_iStr ?_
  | ((with_reducible refine' r_makeL ?hv ?_); (case hv => rfl))
  | with_reducible refine' r_subO ?_
  | fail)
local macro_rules | `(tactic| tm_at "rd") => `(tactic| repeat tm_at "r1")
local macro_rules | `(tactic| tm_at "hs") => `(tactic| first
  | with_reducible assumption
  | (with_reducible exact upd_same)
  | ((with_reducible show upd _ _ _ _ = _); (with_reducible refine' at_upd ?hn ?ho); (case hn => tm_at "ne"); (case ho => tm_at "hs"))
  | ((with_reducible refine' Bx.keep ?hx _ _ ?hn ?ho); (case hx => with_reducible assumption); (case hn => tm_at "ne"); (case ho => tm_at "hs"))
  | ((with_reducible refine' Same.at ?hx ?ho); (case hx => with_reducible assumption); (case ho => tm_at "hs"))
  | ((with_reducible refine' Kx.at ?hx ?hn ?ho); (case hx => with_reducible assumption); (case hn => tm_at "ne"); (case ho => tm_at "hs"))
  | fail)
local macro_rules | `(tactic| tm_at "ne") => `(tactic| first
  | with_reducible assumption
  | exact Ne.symm (by with_reducible assumption)
  | ((with_reducible refine' ne_of_none ?ha ?hb); (case hb => with_reducible assumption); (case ha => with_reducible assumption))
  | ((with_reducible refine' Ne.symm (ne_of_none ?ha ?hb)); (case hb => with_reducible assumption); (case ha => with_reducible assumption))
  | ((with_reducible refine' ne_of_none ?ha ?hb); (case hb => with_reducible assumption); (case ha => tm_at "hs"))
  | ((with_reducible refine' Ne.symm (ne_of_none ?ha ?hb)); (case hb => with_reducible assumption); (case ha => tm_at "hs"))
  | fail)
local macro_rules | `(tactic| tm_at "fr") => `(tactic| repeat (rename upd _ _ _ _ = Option.none => hfr; have hfr2 := free_upd hfr; clear hfr; obtain ⟨hfr3, hfr4⟩ := hfr2))
local macro_rules | `(tactic| tm_at "sq") => `(tactic| first
  | with_reducible assumption
  | exact SqL.of (by tm_at "hs")
  | exact SqT.of (by tm_at "hs")
  | fail)
local macro_rules | `(tactic| tm_at "r2") => `(tactic| first
  | tm_at "r1"
  | ((with_reducible refine' r_ixL ?ha ?hb ?_); (case ha => tm_at "sq"); (case hb => rfl))
  | ((with_reducible refine' r_ixT ?ha ?hb ?_); (case ha => tm_at "sq"); (case hb => rfl))
  | ((with_reducible refine' r_setL ?ha ?hb ?_); (case ha => tm_at "hs"); (case hb => rfl))
  | ((with_reducible refine' r_lenL ?ha ?_); (case ha => tm_at "sq"))
  | ((with_reducible refine' r_lenT ?ha ?_); (case ha => tm_at "sq"))
  | fail)
local macro_rules | `(tactic| tm_at "go") => `(tactic| repeat tm_at "r2")
local macro_rules | `(tactic| tm_at "fn") => `(tactic| first
  | with_reducible assumption
  | ((with_reducible refine' Same.free ?hs ?hn); (case hn => with_reducible assumption); (case hs => tm_at "sm"))
  | fail)
local macro_rules | `(tactic| tm_at "sm") => `(tactic| first
  | with_reducible assumption
  | with_reducible exact Same.refl
  | ((with_reducible refine' Same.new ?ha ?hb); (case hb => with_reducible assumption); (case ha => tm_at "sm"))
  | ((with_reducible refine' Same.updF ?ha ?hb); (case hb => tm_at "fn"); (case ha => tm_at "sm"))
  | ((with_reducible refine' Same.bx ?ha ?hx ?hb); (case hx => with_reducible assumption); (case hb => tm_at "fn"); (case ha => tm_at "sm"))
  | ((with_reducible refine' Same.kx ?ha ?hx ?hb); (case hx => with_reducible assumption); (case hb => tm_at "fn"); (case ha => tm_at "sm"))
  | ((with_reducible refine' Same.trans ?ha ?hx); (case hx => with_reducible assumption); (case ha => tm_at "sm"))
  | fail)
local macro_rules | `(tactic| tm_at "tk") => `(tactic| first
  | with_reducible assumption
  | with_reducible exact Tk.refl
  | ((with_reducible refine' Tk.new ?ha ?hb); (case hb => with_reducible assumption); (case ha => tm_at "tk"))
  | ((with_reducible refine' Tk.setL ?ha ?hb); (case hb => tm_at "hs"); (case ha => tm_at "tk"))
  | ((with_reducible refine' Tk.setI ?ha ?hb); (case hb => tm_at "hs"); (case ha => tm_at "tk"))
  | ((with_reducible refine' Tk.trans ?ha (Bx.tk ?hx ?hb)); (case hx => with_reducible assumption); (case hb => tm_at "bx"); (case ha => tm_at "tk"))
  | ((with_reducible refine' Tk.trans ?ha (Kx.tk ?hx ?hb)); (case hx => with_reducible assumption); (case hb => tm_at "hs"); (case ha => tm_at "tk"))
  | ((with_reducible refine' Tk.trans ?ha (Same.tk ?hx)); (case hx => with_reducible assumption); (case ha => tm_at "tk"))
  | ((with_reducible refine' Tk.trans ?ha ?hx); (case hx => with_reducible assumption); (case ha => tm_at "tk"))
  | fail)
local macro_rules | `(tactic| tm_at "bx") => `(tactic| first
  | with_reducible assumption
  | ((with_reducible refine' Bx.box ?hx); (case hx => with_reducible assumption))
  | ((with_reducible refine' BoxAt.at ?ha ?hn); (case hn => tm_at "ne"); (case ha => tm_at "bx"))
  | ((with_reducible refine' BoxAt.same ?ha ?hs); (case hs => with_reducible assumption); (case ha => tm_at "bx"))
  | exact ⟨_, _, _, by tm_at "hs"⟩
  | fail)
section
variable {P : Program} {w : World} {K : PySem.W.Frag} {mg : Str → Option Value} {base : Heap} {aGround aNum aInv aIT aRd : Addr}
def top (i : Nat) : Stmt := PySem.Challenge.pw_heldground_k07_texts_of_sets.main.body.getD i (.Pass ⟨0, 0, 0, 0⟩)
abbrev s_law_box : Stmt := top 23
theorem sc_law_box : FnScope ["_law_script", "_law_k", "_law_own", "_law_cell", "_law_seed"] ["_law_script", "_law_k", "_law_own"] (defScope s_law_box) := ⟨rfl, rfl, rfl, by decide +kernel, rfl, by decide +kernel, by decide +kernel⟩
abbrev s_law_take : Stmt := top 24
theorem sc_law_take : FnScope ["_law_box_here", "_law_many", "_law_raw", "_law_wide", "_law_digit"] ["_law_box_here", "_law_many"] (defScope s_law_take) := ⟨rfl, rfl, rfl, by decide +kernel, rfl, by decide +kernel, by decide +kernel⟩
abbrev s_law_pick : Stmt := top 25
theorem sc_law_pick : FnScope ["_law_box_here", "_law_items"] ["_law_box_here", "_law_items"] (defScope s_law_pick) := ⟨rfl, rfl, rfl, by decide +kernel, rfl, by decide +kernel, by decide +kernel⟩
abbrev s_law_some : Stmt := top 26
theorem sc_law_some : FnScope ["_law_box_here", "_law_most", "_law_ones", "_law_form", "_law_rests", "_law_since", "_law_period", "_law_small", "_law_size", "_law_number_here", "_law_rest"] ["_law_box_here", "_law_most"] (defScope s_law_some) := ⟨rfl, rfl, rfl, by decide +kernel, rfl, by decide +kernel, by decide +kernel⟩
abbrev s_law_text : Stmt := top 28
theorem sc_law_text : FnScope ["_law_given", "_law_words", "_law_ones", "_law_since", "_law_period", "_law_rests", "_law_n", "_law_rest"] ["_law_given"] (defScope s_law_text) := ⟨rfl, rfl, rfl, by decide +kernel, rfl, by decide +kernel, by decide +kernel⟩
abbrev s_law_number : Stmt := top 29
theorem sc_law_number : FnScope ["_law_words", "_law_at", "_law_least", "_law_most", "_law_word", "_law_sign"] ["_law_words", "_law_at", "_law_least", "_law_most"] (defScope s_law_number) := ⟨rfl, rfl, rfl, by decide +kernel, rfl, by decide +kernel, by decide +kernel⟩
abbrev s_law_rests_due : Stmt := top 30
theorem sc_law_rests_due : FnScope ["_law_words", "_law_at", "_law_given", "_law_period", "_law_rests", "_law_found"] ["_law_words", "_law_at", "_law_given", "_law_period"] (defScope s_law_rests_due) := ⟨rfl, rfl, rfl, by decide +kernel, rfl, by decide +kernel, by decide +kernel⟩
abbrev s_law_due : Stmt := top 31
theorem sc_law_due : FnScope ["_law_line_text", "_law_last", "_law_since", "_law_period", "_law_words", "_law_ones", "_law_at", "_law_found"] ["_law_line_text"] (defScope s_law_due) := ⟨rfl, rfl, rfl, by decide +kernel, rfl, by decide +kernel, by decide +kernel⟩
abbrev s_law_read : Stmt := top 32
theorem sc_law_read : FnScope ["_law_line_text", "_law_found", "e"] ["_law_line_text"] (defScope s_law_read) := ⟨rfl, rfl, rfl, by decide +kernel, rfl, by decide +kernel, by decide +kernel⟩
abbrev s_law : Stmt := top 33
theorem sc_law : FnScope ["_law_script", "_law_k", "_law_box_here", "_law_turn", "_law_thing", "_law_given", "_law_some_here", "_law_shown", "_law_words", "_law_line", "_law_due_here", "_law_at", "_law_odd"] ["_law_script"] (defScope s_law) := ⟨rfl, rfl, rfl, by decide +kernel, rfl, by decide +kernel, by decide +kernel⟩
abbrev s_is_integer : Stmt := top 9
theorem sc_is_integer : FnScope ["value"] ["value"] (defScope s_is_integer) := ⟨rfl, rfl, rfl, by decide +kernel, rfl, by decide +kernel, by decide +kernel⟩
abbrev s_number_of : Stmt := top 10
theorem sc_number_of : FnScope ["word", "letter"] ["word"] (defScope s_number_of) := ⟨rfl, rfl, rfl, by decide +kernel, rfl, by decide +kernel, by decide +kernel⟩
abbrev s_all_from : Stmt := top 15
theorem sc_all_from : FnScope ["values", "least", "most", "one"] ["values", "least", "most"] (defScope s_all_from) := ⟨rfl, rfl, rfl, by decide +kernel, rfl, by decide +kernel, by decide +kernel⟩
abbrev s_is_told : Stmt := top 16
theorem sc_is_told : FnScope ["form", "number", "some", "since", "period", "rests"] ["form", "number"] (defScope s_is_told) := ⟨rfl, rfl, rfl, by decide +kernel, rfl, by decide +kernel, by decide +kernel⟩
abbrev s_least_period : Stmt := top 17
theorem sc_least_period : FnScope ["period", "rests", "size", "short", "rest"] ["period", "rests"] (defScope s_least_period) := ⟨rfl, rfl, rfl, by decide +kernel, rfl, by decide +kernel, by decide +kernel⟩
abbrev s_least_form : Stmt := top 18
theorem sc_least_form : FnScope ["told", "since", "period", "rests", "known", "number"] ["told", "since", "period", "rests"] (defScope s_least_form) := ⟨rfl, rfl, rfl, by decide +kernel, rfl, by decide +kernel, by decide +kernel⟩
abbrev s_Numbers__init : Stmt := inClass (top 20) 0
theorem sc_Numbers__init : FnScope ["self", "listed", "since", "period", "rests"] ["self", "listed", "since", "period", "rests"] (defScope s_Numbers__init) := ⟨rfl, rfl, rfl, by decide +kernel, rfl, by decide +kernel, by decide +kernel⟩
abbrev s_Numbers_form : Stmt := inClass (top 20) 7
theorem sc_Numbers_form : FnScope ["self"] ["self"] (defScope s_Numbers_form) := ⟨rfl, rfl, rfl, by decide +kernel, rfl, by decide +kernel, by decide +kernel⟩
abbrev s_Numbers_read : Stmt := inClass (top 20) 4
theorem sc_Numbers_read : FnScope ["cls", "text", "listed", "since", "period", "rests"] ["cls", "text"] (defScope s_Numbers_read) := ⟨rfl, rfl, rfl, by decide +kernel, rfl, by decide +kernel, by decide +kernel⟩
abbrev s_Numbers__contains : Stmt := inClass (top 20) 9
theorem sc_Numbers__contains : FnScope ["self", "value"] ["self", "value"] (defScope s_Numbers__contains) := ⟨rfl, rfl, rfl, by decide +kernel, rfl, by decide +kernel, by decide +kernel⟩
abbrev s_Numbers__eq : Stmt := inClass (top 20) 14
theorem sc_Numbers__eq : FnScope ["self", "other", "here"] ["self", "other"] (defScope s_Numbers__eq) := ⟨rfl, rfl, rfl, by decide +kernel, rfl, by decide +kernel, by decide +kernel⟩
abbrev s_Numbers__str : Stmt := inClass (top 20) 13
theorem sc_Numbers__str : FnScope ["self", "first", "last", "number", "rest"] ["self"] (defScope s_Numbers__str) := ⟨rfl, rfl, rfl, by decide +kernel, rfl, by decide +kernel, by decide +kernel⟩
abbrev s_NumbersReader__init : Stmt := inClass (top 21) 0
theorem sc_NumbersReader__init : FnScope ["self", "words"] ["self", "words"] (defScope s_NumbersReader__init) := ⟨rfl, rfl, rfl, by decide +kernel, rfl, by decide +kernel, by decide +kernel⟩
abbrev s_NumbersReader_next_word : Stmt := inClass (top 21) 1
theorem sc_NumbersReader_next_word : FnScope ["self"] ["self"] (defScope s_NumbersReader_next_word) := ⟨rfl, rfl, rfl, by decide +kernel, rfl, by decide +kernel, by decide +kernel⟩
abbrev s_NumbersReader_next_number : Stmt := inClass (top 21) 2
theorem sc_NumbersReader_next_number : FnScope ["self", "least", "most", "found"] ["self", "least", "most"] (defScope s_NumbersReader_next_number) := ⟨rfl, rfl, rfl, by decide +kernel, rfl, by decide +kernel, by decide +kernel⟩
abbrev s_NumbersReader_pass_sign : Stmt := inClass (top 21) 3
theorem sc_NumbersReader_pass_sign : FnScope ["self", "word"] ["self", "word"] (defScope s_NumbersReader_pass_sign) := ⟨rfl, rfl, rfl, by decide +kernel, rfl, by decide +kernel, by decide +kernel⟩
abbrev s_NumbersReader_has_more : Stmt := inClass (top 21) 4
theorem sc_NumbersReader_has_more : FnScope ["self"] ["self"] (defScope s_NumbersReader_has_more) := ⟨rfl, rfl, rfl, by decide +kernel, rfl, by decide +kernel, by decide +kernel⟩
abbrev s_NumbersReader_told_form : Stmt := inClass (top 21) 5
theorem sc_NumbersReader_told_form : FnScope ["self", "listed", "most", "since", "period", "rests"] ["self"] (defScope s_NumbersReader_told_form) := ⟨rfl, rfl, rfl, by decide +kernel, rfl, by decide +kernel, by decide +kernel⟩
abbrev s_InvalidNumbers__init : Stmt := inClass (top 3) 0
theorem sc_InvalidNumbers__init : FnScope ["self", "word"] ["self", "word"] (defScope s_InvalidNumbers__init) := ⟨rfl, rfl, rfl, by decide +kernel, rfl, by decide +kernel, by decide +kernel⟩
abbrev s_InvalidText__init : Stmt := inClass (top 4) 0
theorem sc_InvalidText__init : FnScope ["self", "at"] ["self", "at"] (defScope s_InvalidText__init) := ⟨rfl, rfl, rfl, by decide +kernel, rfl, by decide +kernel, by decide +kernel⟩
structure Txt (K : PySem.W.Frag) (mg : Str → Option Value) (aGround aNum aInv aIT aRd : Addr) : Prop where
  m_GroundError : mg "GroundError" = some (.ref aGround)
  b_GroundError : BaseInit K aGround
  m_InvalidNumbers : mg "InvalidNumbers" = some (.ref aInv)
  m_InvalidText : mg "InvalidText" = some (.ref aIT)
  m_MOST_DIGITS : ∃ t, mg "MOST_DIGITS" = some (.int 6 t)
  m_DIGITS : ∃ t, mg "DIGITS" = some (.str "0123456789" t)
  m_HUGE : ∃ t, mg "HUGE" = some (.int 1000000000000000000 t)
  m_MOST_TOLD : ∃ t, mg "MOST_TOLD" = some (.int 999999 t)
  clN : Cls K aNum
  nL : NoAttr K aNum "listed"
  nS : NoAttr K aNum "since"
  nP : NoAttr K aNum "period"
  nR : NoAttr K aNum "rests"
  clR : Cls K aRd
  rW : NoAttr K aRd "words"
  rA : NoAttr K aRd "at"
  xw : PySem.W.findIn K (.ref aInv) "word" = some none
  xwT : PySem.W.findIn K (.ref aIT) "at" = some none
  xfT : XfC K aIT
  exmT : PySem.W.exmOne K (.ref aIT) (.ref aIT) = some true
  xcT : ExcC K aIT
  tyN : ∀ (H : Hp) (a dx : Addr) (fs : List (Str × V)), H a = some (.ins aNum dx fs) → TyX K H (.ref a) (.ref aNum)
  m_Numbers : mg "Numbers" = some (.ref aNum)
  m_NumbersReader : mg "NumbersReader" = some (.ref aRd)
  ne_Numbers : PySem.W.findIn K (.ref aNum) "__ne__" = some (some (.builtin "object.__ne__"))
  ob_Numbers : PySem.W.mroIn K aNum (.type "object") = some true
  n_str : mg "str" = none
  n_int : mg "int" = none
  n_len : mg "len" = none
  n_abs : mg "abs" = none
  n_repr : mg "repr" = none
  n_range : mg "range" = none
  n_min : mg "min" = none
  n_max : mg "max" = none
  n_bool : mg "bool" = none
  n_isinstance : mg "isinstance" = none
  n_tuple : mg "tuple" = none
  n_list : mg "list" = none
  n_all : mg "all" = none
  n_sorted : mg "sorted" = none
theorem divw {a m : Int} (h1 : 1 ≤ m) (h2 : m < 100000000000000000000) : CDivW a m := by
  refine ⟨by omega, ?_⟩
  have e : m.natAbs ≠ 0 := by omega
  refine (Nat.log2_lt e).mpr (Nat.lt_of_lt_of_le (m := 100000000000000000000) (by omega) ?_)
  exact Nat.le_trans (Nat.le_of_ble_eq_true (by decide +kernel) : 100000000000000000000 ≤ 2 ^ 100) (Nat.pow_le_pow_right (by decide) (by decide))
theorem ok_take (F : DefAt K mg "_law_take" s_law_take) (T : Txt K mg aGround aNum aInv aIT aRd) : DefOk P w K mg base CX0 1 "_law_take" ["_law_box_here", "_law_many"] spTake := by
  refine F.ok sc_law_take (fun _ _ _ _ _ _ us hl => match us, hl with | [_, _], _ => rfl) (fun vs H Q E h => ?_) (fun f cdv A outer s H vs Q E hr h => ?_)
  · obtain ⟨b, m, rfl, _⟩ := h
    rfl
  · obtain ⟨b, m, rfl, ⟨x, y, z, hb⟩, m1, m2, k⟩ := h
    refine ⟨_, (pss_cons (ps_if (pt_cmpR o_gt (pe_ix (ix_u K) (pv 0) pe_int (fun _ _ => rfl)) pe_int (nomark _)) (pss_cons (ps_set (i := 4) sc_law_take.nd rfl (Or.inl rfl) (pe_op o_mod (pe_callTy c_int (by rfl) T.n_int (by decide +kernel) (pa_cons (pe_ix (ix_u K) (pv 0) pe_int (fun _ _ => rfl)) pa_nil)) (pv 1)))
  (pss_cons (ps_asg (pe_op o_div (pe_ix (ix_u K) (pv 0) pe_int (fun _ _ => rfl)) (pv 1)) (pg_sub (pv 0) pe_int set_list))
  (pss_one (ps_ret (pv 4)))))
  pss_nil)
  (pss_cons (ps_asg (pe_op (o_add K) (pe_ix (ix_u K) (pv 0) pe_int (fun _ _ => rfl)) pe_int) (pg_sub (pv 0) pe_int set_list))
  (pss_cons (ps_set (i := 2) sc_law_take.nd rfl (Or.inl rfl) (pe_op o_mod (pe_callTy c_int (by rfl) T.n_int (by decide +kernel) (pa_cons (pe_op o_mul (pe_op (o_add K) (pe_ix (ix_u K) (pv 0) pe_int (fun _ _ => rfl)) (pe_op o_mul pe_int (pe_ix (ix_u K) (pv 0) pe_int (fun _ _ => rfl)))) pe_int) pa_nil)) pe_int))
  (pss_cons (ps_asg (pe_op (o_add K) (pe_op o_mod (pe_callTy c_int (by rfl) T.n_int (by decide +kernel) (pa_cons (pe_op (o_add K) (pe_op o_mul (pv 2) pe_int) pe_int) pa_nil)) pe_int) pe_int) (pg_sub (pv 0) pe_int set_list))
  (pss_cons (ps_if (pt_cmpR o_lt (pv 1) (pe_op o_pow pe_int pe_int) (nomark _)) (pss_one (ps_ret (pe_op o_mod (pe_callTy c_int (by rfl) T.n_int (by decide +kernel) (pa_cons (pe_op o_div (pe_op (o_add K) (pe_op o_mul (pv 2) pe_int) (pe_ix (ix_u K) (pv 0) pe_int (fun _ _ => rfl))) pe_int) pa_nil)) (pv 1))))
  pss_nil)
  (pss_cons (ps_set (i := 3) sc_law_take.nd rfl (Or.inl rfl) (pe_op o_mul (pe_op (o_add K) (pe_op o_mul (pv 2) pe_int) (pe_ix (ix_u K) (pv 0) pe_int (fun _ _ => rfl))) (pe_op o_pow pe_int pe_int)))
  (pss_one (ps_ret (pe_op o_mod (pe_callTy c_int (by rfl) T.n_int (by decide +kernel) (pa_cons (pe_op (o_add K) (pe_op (o_add K) (pv 3) (pe_op o_mul (pe_op o_pow (pe_ix (ix_u K) (pv 0) pe_int (fun _ _ => rfl)) pe_int) pe_int)) (pv 2)) pa_nil)) (pv 1)))))))))), ?_⟩
    tm_at "go"
    refine r_id (fun h0 => ?_) (fun h0 => ?_)
    · tm_at "go"
      refine r_mod (by omega) ?_
      tm_at "go"
      refine r_divW (divw m1 m2) ?_
      tm_at "go"
      exact k _ _ (Int.emod_nonneg _ (by omega)) (Int.emod_lt_of_pos _ (by omega)) ((Bx.refl ⟨_, _, _, hb⟩).set _ _ _)
    · tm_at "go"
      have b1 : ∀ x : Int, 0 ≤ x % 2147483629 + 1 ∧ x % 2147483629 + 1 < 2 ^ 31 := fun x => by
        have := Int.emod_nonneg x (b := 2147483629) (by decide)
        have := Int.emod_lt_of_pos x (b := 2147483629) (by decide)
        omega
      have b2 : ∀ x : Int, 0 ≤ x % 2147483647 ∧ x % 2147483647 < 2 ^ 31 := fun x => by
        have := Int.emod_nonneg x (b := 2147483647) (by decide)
        have := Int.emod_lt_of_pos x (b := 2147483647) (by decide)
        omega
      refine r_id (fun _ => ?_) (fun _ => ?_)
      · tm_at "go"
        refine r_div (by decide) (by decide) ?_
        tm_at "go"
        refine r_mod (by omega) ?_
        tm_at "go"
        exact k _ _ (Int.emod_nonneg _ (by omega)) (Int.emod_lt_of_pos _ (by omega)) (((Bx.refl ⟨_, _, _, hb⟩).set _ _ _).set _ _ _)
      · tm_at "go"
        have c2 := b2 ((y + 104729 * (z + 1)) * 69623)
        have c1 := b1 ((y + 104729 * (z + 1)) * 69623 % 2147483647 * 48271 + 30103)
        generalize (y + 104729 * (z + 1)) * 69623 % 2147483647 = raw at c1 c2 ⊢
        generalize (raw * 48271 + 30103) % 2147483629 + 1 = seed at c1 ⊢
        refine r_mul (cmulL ⟨by omega, by omega⟩) ?_
        tm_at "go"
        refine r_pow ⟨by decide, by decide, by omega⟩ ?_
        tm_at "go"
        refine r_mod (by omega) ?_
        tm_at "go"
        exact k _ _ (Int.emod_nonneg _ (by omega)) (Int.emod_lt_of_pos _ (by omega)) (((Bx.refl ⟨_, _, _, hb⟩).set _ _ _).set _ _ _)
theorem ok_pick (F : DefAt K mg "_law_pick" s_law_pick) (T : Txt K mg aGround aNum aInv aIT aRd) (D_law_take : DefOk P w K mg base CX0 1 "_law_take" ["_law_box_here", "_law_many"] spTake) :
    DefOk P w K mg base CX0 2 "_law_pick" ["_law_box_here", "_law_items"] (spPick K) := by
  refine F.ok sc_law_pick (fun _ _ _ _ _ _ us hl => match us, hl with | [_, _], _ => rfl) (fun vs H Q E h => ?_) (fun f cdv A outer s H vs Q E hr h => ?_)
  · obtain ⟨b, l, xs, rfl, _⟩ := h
    rfl
  · obtain ⟨b, l, xs, rfl, hb, hl, nl, m1, m2, k⟩ := h
    refine ⟨_, (pss_one (ps_ret (pe_ix (ix_u K) (pv 1) (pe_callD D_law_take (hr.mono (by decide)) pass0 rfl (pa_cons (pv 0) (pa_cons (pe_callB (c_len K) (by rfl) T.n_len (by decide +kernel) (pa_cons (pv 1) pa_nil)) pa_nil))) (fun _ _ => rfl)))), ?_⟩
    have fin : ∀ (d : Int) (H' : Hp), 0 ≤ d → d < (xs.length : Nat) → Bx b H H' → rIx K (.ref l) (.int d) H' Q := fun d H' h0 h1 hx => by
      obtain ⟨j, rfl⟩ : ∃ j : Nat, d = j := ⟨d.toNat, by omega⟩
      have hj : j < xs.length := by omega
      have e : xs[j]? = some xs[j] := List.getElem?_eq_getElem hj
      rcases hl with hl | hl
      · exact r_ixL (Bx.seqL hx nl hl) (atI_nat e) (k _ _ (List.getElem_mem hj) hx)
      · exact r_ixT (Bx.seqT hx nl hl) (atI_nat e) (k _ _ (List.getElem_mem hj) hx)
    tm_at "go"
    have ln : ∀ {Q' : VK}, Q' (.int (xs.length : Nat)) H → uLen K [.ref l] H Q' := fun q => by
      rcases hl with hl | hl
      · exact r_lenL hl q
      · exact r_lenT hl q
    refine ln ?_
    tm_at "go"
    exact ⟨b, _, rfl, hb, by omega, by omega, fin⟩
theorem ok_box (F : DefAt K mg "_law_box" s_law_box) (T : Txt K mg aGround aNum aInv aIT aRd) : DefOk P w K mg base CX0 1 "_law_box" ["_law_script", "_law_k", "_law_own"] (spBox K) := by
  refine F.ok sc_law_box (fun _ _ _ _ _ _ us hl => match us, hl with | [_, _, _], _ => rfl) (fun vs H Q E h => ?_) (fun f cdv A outer s H vs Q E hr h => ?_)
  · obtain ⟨a, ns, k, c, rfl, _⟩ := h
    rfl
  · obtain ⟨a, ns, k, c, rfl, hS, k0, k1, c0, c1, nl, q⟩ := h
    refine ⟨_, (pss_cons (ps_set (i := 3) sc_law_box.nd rfl (Or.inl rfl) (pe_op (o_add K) (pe_op (o_add K) (pe_op o_mul pe_int (pv 1)) (pe_op o_mul pe_int (pv 2))) pe_int))
  (pss_cons (ps_if (pt_cmpR o_lt (pv 1) (pe_callB (c_len K) (by rfl) T.n_len (by decide +kernel) (pa_cons (pv 0) pa_nil)) (nomark _)) (pss_one (ps_set (i := 3) sc_law_box.nd rfl (Or.inl rfl) (pe_callB c_abs (by rfl) T.n_abs (by decide +kernel) (pa_cons (pe_ix (ix_u K) (pv 0) (pv 1) (fun _ _ => rfl)) pa_nil))))
  (pss_one (ps_if (pt_cmpR o_gt (pe_callB (c_len K) (by rfl) T.n_len (by decide +kernel) (pa_cons (pv 0) pa_nil)) pe_int (nomark _)) (pss_one (ps_set (i := 3) sc_law_box.nd rfl (Or.inl rfl) (pe_op (o_add K) (pv 3) (pe_op o_mul (pe_op o_mod (pe_callTy c_int (by rfl) T.n_int (by decide +kernel) (pa_cons (pe_callB c_abs (by rfl) T.n_abs (by decide +kernel) (pa_cons (pe_ix (ix_u K) (pv 0) (pe_op o_mod (pe_callTy c_int (by rfl) T.n_int (by decide +kernel) (pa_cons (pv 1) pa_nil)) (pe_callB (c_len K) (by rfl) T.n_len (by decide +kernel) (pa_cons (pv 0) pa_nil))) (fun _ _ => rfl)) pa_nil)) pa_nil)) pe_int) pe_int))))
  pss_nil)))
  (pss_cons (ps_set (i := 4) sc_law_box.nd rfl (Or.inl rfl) (pe_op (o_add K) (pe_op o_mod (pe_callTy c_int (by rfl) T.n_int (by decide +kernel) (pa_cons (pe_op (o_add K) (pe_op o_mul (pe_op o_mod (pe_callTy c_int (by rfl) T.n_int (by decide +kernel) (pa_cons (pv 3) pa_nil)) pe_int) pe_int) (pe_op o_mul pe_int (pe_op (o_add K) (pv 1) (pe_op o_mul pe_int (pv 2))))) pa_nil)) pe_int) pe_int))
  (pss_one (ps_ret (pe_lst (pa_cons (pe_ix (ix_u K) (pe_lst (pa_cons pe_int (pa_cons (pv 3) pa_nil))) (pe_callTy c_int (by rfl) T.n_int (by decide +kernel) (pa_cons (pe_cmpR o_ge (pv 3) (pe_op o_pow pe_int pe_int) (nomark _)) pa_nil)) (fun _ _ => rfl)) (pa_cons (pv 4) (pa_cons pe_int pa_nil))))))))), ?_⟩
    have at_ : ∀ j : Nat, j < ns.length → ∃ n : Int, atI (ns.map V.int) (j : Int) = some (.int n) := fun j hj => ⟨ns[j], atI_nat (by simp [hj])⟩
    obtain ⟨j, rfl⟩ : ∃ j : Nat, k = j := ⟨k.toNat, by omega⟩
    tm_at "go"
    have done : ∀ (cell v seed : Int) (p p2 : Addr), H p = none → upd H p (.lst [.int 0, .int cell]) p2 = none →
        Q (.ref p2) (upd (upd H p (.lst [.int 0, .int cell])) p2 (.lst [.int v, .int seed, .int 0])) := fun cell v seed p p2 hp h2 => by
      obtain ⟨f2, _⟩ := free_upd h2
      refine q p2 _ f2 ⟨fun x o n e => ?_, v, seed, 0, upd_same⟩
      exact at_upd n (at_upd (ne_of_none e hp) e)
    have ix : ∀ (cell : Int) (p : Addr) (Q1 : VK), (∀ v : Int, Q1 (.int v) (upd H p (.lst [.int 0, .int cell]))) →
        rIx K (.ref p) (.int (if decide (10 ^ Int.toNat 18 ≤ cell) then 1 else 0)) (upd H p (.lst [.int 0, .int cell])) Q1 := fun cell p Q1 k => by
      refine r_ixL (v := .int (if decide (10 ^ Int.toNat 18 ≤ cell) then cell else 0)) (SqL.of upd_same) ?_ (k _)
      split <;> rfl
    have lenE : (List.map V.int ns).length = ns.length := List.length_map ..
    refine r_id (fun h0 => ?_) (fun h0 => ?_)
    · obtain ⟨n, hn⟩ := at_ j (by omega)
      tm_at "go"
      refine r_ixL hS hn ?_
      tm_at "go"
      refine ⟨szl rfl, fun p hp => ?_⟩
      tm_at "go"
      refine ix _ p _ fun v => ?_
      tm_at "go"
      exact ⟨szl rfl, fun p2 h2 => done _ _ _ _ _ hp h2⟩
    · tm_at "go"
      refine r_id (fun h1 => ?_) (fun h1 => ?_)
      · have hj : j % ns.length < ns.length := Nat.mod_lt _ (by omega)
        obtain ⟨n, hn⟩ := at_ _ hj
        tm_at "go"
        refine r_mod (by omega) ?_
        refine r_ixL hS (by rw [lenE, ← Int.natCast_emod]; exact hn) ?_
        tm_at "go"
        refine ⟨szl rfl, fun p hp => ?_⟩
        tm_at "go"
        refine ix _ p _ fun v => ?_
        tm_at "go"
        exact ⟨szl rfl, fun p2 h2 => done _ _ _ _ _ hp h2⟩
      · tm_at "go"
        refine ⟨szl rfl, fun p hp => ?_⟩
        tm_at "go"
        refine ix _ p _ fun v => ?_
        tm_at "go"
        exact ⟨szl rfl, fun p2 h2 => done _ _ _ _ _ hp h2⟩
theorem ok_is_integer (F : DefAt K mg "is_integer" s_is_integer) (T : Txt K mg aGround aNum aInv aIT aRd) : DefOk P w K mg base CX0 1 "is_integer" ["value"] (spIsInt K) := by
  refine F.ok sc_is_integer (fun _ _ _ _ _ _ us hl => match us, hl with | [_], _ => rfl) (fun vs H Q E h => ?_) (fun f cdv A outer s H vs Q E hr h => ?_)
  · obtain ⟨v, rfl, _⟩ := h
    rfl
  · obtain ⟨v, rfl, hv, k⟩ := h
    refine ⟨_, (pss_one (ps_ret (pe_and (pe_callB (c_isi K) (by rfl) T.n_isinstance (by decide +kernel) (pa_cons (pv 0) (pa_cons (pe_bT (T := "int") (by rfl) T.n_int (by decide +kernel)) pa_nil))) (pe_one (pe_not (pe_callB (c_isi K) (by rfl) T.n_isinstance (by decide +kernel) (pa_cons (pv 0) (pa_cons (pe_bT (T := "bool") (by rfl) T.n_bool (by decide +kernel)) pa_nil)))))))), ?_⟩
    obtain ⟨t1, ty1, e1⟩ := hv.isi_int
    obtain ⟨t2, ty2, e2⟩ := hv.isi_bool
    rw [← isI_of] at k
    tm_at "go"
    refine r_isi (.ty _) ty1 e1 ?_
    tm_at "go"
    refine r_ite (fun h1 => ?_) (fun h1 => ?_)
    · tm_at "go"
      refine r_isi (.ty _) ty2 e2 ?_
      tm_at "go"
      rw [h1] at k
      exact k
    · rw [h1] at k
      exact k
/-! ### arguments that are a list or a tuple, or none of both -/
def scV : V → Bool | .ref _ => false | _ => true
def Arg (K : PySem.W.Frag) (H : Hp) (v : V) : Option (List V) → Prop
  | none => Kd K H v ∧ scV v = true
  | some xs => ∃ p, v = .ref p ∧ (SqL K H p xs ∨ SqT K H p xs) ∧ xs.length ≤ 10000 ∧ ∀ y ∈ xs, Kd K H y
theorem Arg.mono {K : PySem.W.Frag} {H H' : Hp} {v : V} {o : Option (List V)} (s : Same H H') (h : Arg K H v o) : Arg K H' v o := by
  cases o with
  | none => exact ⟨h.1.mono s, h.2⟩
  | some xs =>
    obtain ⟨p, e, hs, hl, hk⟩ := h
    exact ⟨p, e, hs.imp (Same.seqL s) (sameT s), hl, fun y hy => (hk y hy).mono s⟩
theorem Arg.isi {K : PySem.W.Frag} {H : Hp} {v : V} {o : Option (List V)} (h : Arg K H v o) : ∃ t, TyX K H v t ∧ PySem.W.kitAny K t [.type "list", .type "tuple"] = some o.isSome := by
  cases o with
  | none =>
    obtain ⟨h, sc⟩ := h
    cases h with
    | non => exact ⟨_, .base .non, kitAny2 (a := false) (b := false) (kit_ty (a := "NoneType") (by decide +kernel)) (kit_ty (a := "NoneType") (by decide +kernel))⟩
    | bl b => exact ⟨_, .base (.bl b), kitAny2 (a := false) (b := false) (kit_ty (a := "bool") (by decide +kernel)) (kit_ty (a := "bool") (by decide +kernel))⟩
    | int i => exact ⟨_, .base (.int i), kitAny2 (a := false) (b := false) (kit_ty (a := "int") (by decide +kernel)) (kit_ty (a := "int") (by decide +kernel))⟩
    | str x => exact ⟨_, .base (.str x), kitAny2 (a := false) (b := false) (kit_ty (a := "str") (by decide +kernel)) (kit_ty (a := "str") (by decide +kernel))⟩
    | lst h => cases sc
    | tup h => cases sc
  | some xs =>
    obtain ⟨p, rfl, hs | hs, _⟩ := h
    · exact ⟨_, tyx_list hs, kitAny2 (a := true) (b := false) (kit_ty (a := "list") (by decide +kernel)) (kit_ty (a := "list") (by decide +kernel))⟩
    · exact ⟨_, tyx_tup hs, kitAny2 (a := false) (b := true) (kit_ty (a := "tuple") (by decide +kernel)) (kit_ty (a := "tuple") (by decide +kernel))⟩
def allV (o : Option (List V)) (a b : Int) : Bool := match o with | none => false | some xs => xs.all fun y => fromV y a b
def spAllFrom (K : PySem.W.Frag) : Sp := fun vs H Q _ => ∃ (v : V) (a b : Int) (o : Option (List V)), vs = [v, .int a, .int b] ∧ Arg K H v o ∧ ∀ H', Same H H' → Q (.bl (allV o a b)) H'
section
variable {K : PySem.W.Frag}
theorem ok_all_from (F : DefAt K mg "all_from" s_all_from) (T : Txt K mg aGround aNum aInv aIT aRd) (D_is_integer : DefOk P w K mg base CX0 1 "is_integer" ["value"] (spIsInt K)) : DefOk P w K mg base CX0 2 "all_from" ["values", "least", "most"] (spAllFrom K) := by
  refine F.ok sc_all_from (fun _ _ _ _ _ _ us hl => match us, hl with | [_, _, _], _ => rfl) (fun vs H Q E h => ?_) (fun f cdv A outer s H vs Q E hr h => ?_)
  · obtain ⟨v, a, b, o, rfl, _⟩ := h
    rfl
  · obtain ⟨v, a, b, o, rfl, hv, k⟩ := h
    refine ⟨_, (pss_one (ps_ret (pe_and (pe_callB (c_isiT K) (by rfl) T.n_isinstance (by decide +kernel) (pa_cons (pv 0) (pa_cons (pe_tup (pa_cons (pe_bT (T := "list") (by rfl) T.n_list (by decide +kernel)) (pa_cons (pe_bT (T := "tuple") (by rfl) T.n_tuple (by decide +kernel)) pa_nil))) pa_nil))) (pe_one (pe_callB (c_all K rfl) (by rfl) T.n_all (by decide +kernel) (pa_cons (pe_lc (own := [("one", 3)]) (g := (gName 3)) rfl sc_all_from.nd (pi_u K (pv 0)) (blkOk_by (own := [("one", 3)]) (N := ["values", "least", "most", "one"]) (sc := defScope s_all_from) (by decide +kernel)) (fun _ _ _ _ _ => (pg_name (i := 3) sc_all_from.nd rfl (Or.inl rfl) (Or.inr rfl))) (fun _ _ _ _ _ => pts_nil) (fun _ _ _ _ _ => (pe_and (pe_callD D_is_integer (hr.mono (by decide)) pass0 rfl (pa_cons (pv 3) pa_nil)) (pe_one (pe_chain o_le o_le (pv 1) (pv 3) (pv 2)))))) pa_nil)))))), ?_⟩
    tm_at "go"
    refine ⟨szl rfl, fun pt hpt => ?_⟩
    have hv1 := hv.mono (same_new (o := .tup [.ty "list", .ty "tuple"]) hpt)
    tm_at "go"
    obtain ⟨t, ty, kt⟩ := hv1.isi
    refine ⟨v, pt, _, t, [.type "list", .type "tuple"], _, rfl, upd_same, .cons (.ty _) (.cons (.ty _) .nil), ty, kt, ?_⟩
    tm_at "go"
    cases o with
    | none =>
      tm_at "go"
      exact k _ (same_new hpt)
    | some xs =>
      obtain ⟨p, rfl, hs, hl, hk⟩ := hv1
      refine r_ite (fun _ => ?_) (fun z => nomatch z)
      tm_at "go"
      have sm1 : Same H (upd H pt (.tup [.ty "list", .ty "tuple"])) := same_new hpt
      generalize upd H pt (.tup [.ty "list", .ty "tuple"]) = H1 at hs hk sm1 ⊢
      refine' r_walk hs ?_
      intro J G w hG sG D hD
      refine lc_it w (fun i H' => Same H1 H' ∧ H' D = some (.lst (((xs.take i).map fun y => fromV y a b).map V.bl))) ⟨same_new hD, upd_same⟩ (fun i H' _ p => sG _ _ p.1 hG) ?_ ?_
      · rintro i x H2 H' hi ⟨sm2, hd⟩ ⟨rfl, hx⟩
        tm_at "go"
        refine ⟨rfl, ?_⟩
        tm_at "go"
        have kx := (hk x (List.mem_of_getElem? hx)).mono sm2
        refine ⟨x, rfl, kx, ?_⟩
        tm_at "go"
        have fin : ∀ c : Bool, c = fromV x a b → ∃ acc, H' D = some (.lst acc) ∧ acc.length < sizeLine ∧ (Same H1 (upd H' D (.lst (acc ++ [.bl c]))) ∧ (upd H' D (.lst (acc ++ [.bl c]))) D = some (.lst (((xs.take (i + 1)).map fun y => fromV y a b).map V.bl))) := by
          rintro c rfl
          refine ⟨_, hd, ?_, Same.updF sm2 hD, ?_⟩
          · rw [List.length_map, List.length_map, List.length_take]
            exact szlt (Nat.ble_eq_true_of_le (Nat.le_trans (Nat.min_le_right ..) (Nat.le_trans hl (by decide))))
          · rw [upd_same, take_succ hx, List.map_append, List.map_append]
            rfl
        cases hxI : isI x with
        | false =>
          tm_at "go"
          exact fin false (by cases x <;> first | rfl | cases hxI)
        | true =>
          obtain ⟨n, rfl⟩ := isI_int hxI
          tm_at "go"
          refine r_ite (fun h1 => ?_) (fun h1 => ?_)
          · tm_at "go"
            exact fin _ (by show _ = (decide (a ≤ n) && decide (n ≤ b)); rw [h1, Bool.true_and])
          · exact fin _ (by show _ = (decide (a ≤ n) && decide (n ≤ b)); rw [h1, Bool.false_and])
      · rintro H2 ⟨sm2, hd⟩
        tm_at "go"
        rw [List.take_length] at hd
        refine ⟨D, _, rfl, SqL.of hd, ?_⟩
        have e : (xs.map fun y => fromV y a b).all id = allV (some xs) a b := by
          show _ = xs.all fun y => fromV y a b
          rw [List.all_map]; rfl
        rw [e]
        exact k _ (sm1.trans sm2)
end
/-! ### lists of numbers from 0 on -/
abbrev natV (l : List Nat) : List V := l.map fun (n : Nat) => V.int (n : Int)
abbrev natD (l : List Nat) : List PyData := l.map fun (n : Nat) => PyData.int (n : Int)
theorem natV_at {l : List Nat} {i : Nat} {x : V} (h : (natV l)[i]? = some x) : ∃ n, l[i]? = some n ∧ x = .int (n : Int) := by
  rw [List.getElem?_map] at h
  cases e : l[i]? with
  | none => rw [e] at h; cases h
  | some n => rw [e] at h; exact ⟨n, rfl, (Option.some.inj h).symm⟩
theorem dp_nats {K : PySem.W.Frag} {H : Hp} : ∀ l : List Nat, DpAll K H (natV l) (natD l)
  | [] => .nil
  | n :: l => .cons (.int _) (dp_nats l)
theorem lay_nats : ∀ l : List Nat, PyData.canLayAll0 (natD l) = true
  | [] => rfl
  | n :: l => by
    have := lay_nats l
    show (true && PyData.canLayAll0 (natD l)) = true
    rw [this]; rfl
theorem dep_nats : ∀ l : List Nat, PyData.depthAll (natD l) = 0
  | [] => rfl
  | n :: l => by
    have := dep_nats l
    show max 0 (PyData.depthAll (natD l)) = 0
    rw [this]; rfl
theorem sp_nats (l : List Nat) : SeqAt.shaped (.list (natD l)) = true := by
  unfold SeqAt.shaped
  simp only [PyData.canLay0, lay_nats, PyData.depth, dep_nats]
  decide
theorem sp_natsT (l : List Nat) : SeqAt.shaped (.tuple (natD l)) = true := by
  unfold SeqAt.shaped
  simp only [PyData.canLay0, lay_nats, PyData.depth, dep_nats]
  decide
theorem eqv_nil (l : List Nat) : PyData.eqv (.list (natD l)) (.list []) = l.isEmpty := by cases l <;> rfl
theorem flat_nats : ∀ l : List Nat, (natV l).all flatV = true
  | [] => rfl
  | n :: l => by
    have := flat_nats l
    show (true && (natV l).all flatV) = true
    rw [this]; rfl
theorem inV_nat (r : Nat) : ∀ l : List Nat, inV (.int (r : Int)) (natV l) = l.contains r
  | [] => rfl
  | n :: l => by
    have ih := inV_nat r l
    show (eqV (.int (n : Int)) (.int (r : Int)) || inV (.int (r : Int)) (natV l)) = _
    rw [ih, List.contains_cons]
    congr 1
    show ((n : Int) == (r : Int)) = (r == n)
    rw [Bool.eq_iff_iff, beq_iff_eq, beq_iff_eq]
    exact ⟨fun z => (Int.ofNat.inj z).symm, fun z => by rw [z]⟩
theorem filter_succ {p : Nat → Bool} (i : Nat) : (List.range (i + 1)).filter p = (List.range i).filter p ++ (if p i = true then [i] else []) := by
  rw [List.range_succ, List.filter_append]
  congr 1
  cases h : p i <;> simp [List.filter, h]
theorem filter_len (p : Nat → Bool) (i : Nat) : ((List.range i).filter p).length ≤ i := Nat.le_trans (List.length_filter_le ..) (Nat.le_of_eq List.length_range)
theorem blNe (a b : Bool) : (!decide (V.bl a = V.bl b)) = (a != b) := by cases a <;> cases b <;> decide
theorem blEq (a b : Bool) : decide (V.bl a = V.bl b) = (a == b) := by cases a <;> cases b <;> decide
theorem dec_int (a b : Int) : decide (V.int a = V.int b) = decide (a = b) := by simp
theorem natV_app (a b : List Nat) : natV (a ++ b) = natV a ++ natV b := List.map_append
theorem eqv_nats : ∀ l m : List Nat, PyData.eqvAll (natD l) (natD m) = decide (l = m)
  | [], [] => rfl
  | [], _ :: _ => rfl
  | _ :: _, [] => rfl
  | a :: l, b :: m => by
    have ih := eqv_nats l m
    show (((a : Int) == (b : Int)) && PyData.eqvAll (natD l) (natD m)) = _
    rw [ih, Bool.eq_iff_iff, Bool.and_eq_true, beq_iff_eq, decide_eq_true_eq, decide_eq_true_eq, List.cons.injEq]
    exact ⟨fun z => ⟨Int.ofNat.inj z.1, z.2⟩, fun z => ⟨by rw [z.1], z.2⟩⟩
theorem eqv_lst (l m : List Nat) : PyData.eqv (.list (natD l)) (.list (natD m)) = decide (l = m) := eqv_nats l m
theorem eqv_tup (l m : List Nat) : PyData.eqv (.tuple (natD l)) (.tuple (natD m)) = decide (l = m) := eqv_nats l m
theorem modE (p n c : Nat) : decide (V.int ((p : Int) % ((n : Nat) : Int)) = V.int (c : Int)) = decide (p % n = c) := by
  rw [dec_int, ← Int.natCast_emod]
  by_cases e : p % n = c
  · rw [e, decide_eq_true rfl, decide_eq_true rfl]
  · rw [decide_eq_false e, decide_eq_false (by omega)]
theorem neSelf (v : V) : (!decide (v = v)) = false := by rw [decide_eq_true rfl]; rfl
/-! ### the least period -/
def shortOf (s : Nat) (R : List Nat) : List Nat := (List.range s).filter fun r => R.contains r
def badOf (p s : Nat) (R : List Nat) : List Nat := (List.range p).filter fun r => (shortOf s R).contains (r % s) != R.contains r
structure LeastP (p : Nat) (R : List Nat) (s : Nat) : Prop where
  pos : 1 ≤ s
  le : s ≤ p
  dvd : p % s = 0
  ok : badOf p s R = []
  least : ∀ t, 1 ≤ t → t < s → p % t = 0 → badOf p t R ≠ []
theorem short_has {s r : Nat} {R : List Nat} (h : r < s) : (shortOf s R).contains r = R.contains r := by
  unfold shortOf
  rw [Bool.eq_iff_iff, List.contains_iff_mem, List.contains_iff_mem, List.mem_filter, List.mem_range, List.contains_iff_mem]
  exact ⟨fun z => z.2, fun z => ⟨h, z⟩⟩
theorem bad_self (p : Nat) (R : List Nat) : badOf p p R = [] := by
  unfold badOf
  rw [List.filter_eq_nil_iff]
  intro r hr
  have hr' := List.mem_range.mp hr
  rw [Nat.mod_eq_of_lt hr', short_has hr']
  simp
def spLPer (K : PySem.W.Frag) : Sp := fun vs H Q _ => ∃ (p : Nat) (q : Addr) (R : List Nat), vs = [.int (p : Int), .ref q] ∧ (SqL K H q (natV R) ∨ SqT K H q (natV R)) ∧ 1 ≤ p ∧ p ≤ 10000 ∧
  ∀ (s : Nat) (a a2 : Addr) (H' : Hp), LeastP p R s → Same H H' → H' a = some (.tup [.int (s : Int), .ref a2]) → H' a2 = some (.tup (natV (shortOf s R))) → Q (.ref a) H'
section
variable {K : PySem.W.Frag}
theorem ok_least_period (F : DefAt K mg "least_period" s_least_period) (T : Txt K mg aGround aNum aInv aIT aRd) : DefOk P w K mg base CX0 1 "least_period" ["period", "rests"] (spLPer K) := by
  refine F.ok sc_least_period (fun _ _ _ _ _ _ us hl => match us, hl with | [_, _], _ => rfl) (fun vs H Q E h => ?_) (fun f cdv A outer s H vs Q E hr h => ?_)
  · obtain ⟨p, q, R, rfl, _⟩ := h
    rfl
  · obtain ⟨p, q, R, rfl, hq, p1, p2, k⟩ := h
    refine ⟨_, (pss_cons (ps_for PassesOwn.never rfl (pi_range2 (by rfl) T.n_range (pa_cons pe_int (pa_cons (pe_op (o_add K) (pv 0) pe_int) pa_nil))) (pg_name (i := 2) sc_least_period.nd rfl (Or.inr rfl))
  (pss_one (ps_if (pt_cmpR (o_eq K hr.units) (pe_op o_mod (pv 0) (pv 2)) pe_int (nomark _)) (pss_cons (ps_set (i := 3) sc_least_period.nd rfl (Or.inr rfl) (pe_lc (own := [("rest", 4)]) (g := (gName 4)) rfl sc_least_period.nd (pi_range1 (by rfl) T.n_range (pa_cons (pv 2) pa_nil)) (blkOk_by (own := [("rest", 4)]) (N := ["period", "rests", "size", "short", "rest"]) (sc := defScope s_least_period) (by decide +kernel)) (fun _ _ _ _ _ => (pg_name (i := 4) sc_least_period.nd rfl (Or.inl rfl) (Or.inr rfl))) (fun _ _ _ _ _ => (pts_one (pt_cmpR (o_in K) (pv 4) (pv 1) rfl))) (fun _ _ _ _ _ => (pv 4))))
  (pss_one (ps_if (pt_cmpR (o_eq K hr.units) (pe_lc (own := [("rest", 4)]) (g := (gName 4)) rfl sc_least_period.nd (pi_range1 (by rfl) T.n_range (pa_cons (pv 0) pa_nil)) (blkOk_by (own := [("rest", 4)]) (N := ["period", "rests", "size", "short", "rest"]) (sc := defScope s_least_period) (by decide +kernel)) (fun _ _ _ _ _ => (pg_name (i := 4) sc_least_period.nd rfl (Or.inl rfl) (Or.inr rfl))) (fun _ _ _ _ _ => (pts_one (pt_cmpR (o_ne K hr.units) (pe_cmpR (o_in K) (pe_op o_mod (pv 4) (pv 2)) (pv 3) rfl) (pe_cmpR (o_in K) (pv 4) (pv 1) rfl) (nomark _)))) (fun _ _ _ _ _ => (pv 4))) (pe_lst pa_nil) (nomark _)) (pss_one (ps_ret (pe_tup (pa_cons (pv 2) (pa_cons (pe_callTy (c_tuple K) (by rfl) T.n_tuple (by decide +kernel) (pa_cons (pv 3) pa_nil)) pa_nil)))))
  pss_nil)))
  pss_nil)))
  (pss_one (ps_ret (pe_tup (pa_cons (pv 0) (pa_cons (pe_callTy (c_tuple K) (by rfl) T.n_tuple (by decide +kernel) (pa_cons (pv 1) pa_nil)) pa_nil)))))), ?_⟩
    tm_at "go"
    refine ⟨1, _, rfl, ⟨by decide, by decide, by omega, by omega⟩, ?_⟩
    rw [show ((p : Int) + 1 - 1).toNat = p by omega]
    refine for_range (lo := 1) (n := p) (fun i σ H' => (∃ o2 o3 o4 : Option V, σ = [some (.int (p : Int)), some (.ref q), o2, o3, o4]) ∧ Same H H' ∧ ∀ t, 1 ≤ t → t ≤ i → p % t = 0 → badOf p t R ≠ []) ⟨⟨_, _, _, rfl⟩, Same.refl, fun t h1 h2 => by omega⟩ ?_ ?_
    · rintro i σ H1 hi ⟨⟨o2, o3, o4, rfl⟩, sm1, hno⟩
      have hsz : (1 : Int) + (i : Int) = ((i + 1 : Nat) : Int) := by omega
      rw [hsz]
      have hq1 := hq.imp (Same.seqL sm1) (sameT sm1)
      tm_at "go"
      refine r_mod (by omega) ?_
      tm_at "go"
      refine r_eq rfl ?_
      tm_at "go"
      have hmod : decide (V.int ((p : Int) % ((i + 1 : Nat) : Int)) = V.int 0) = decide (p % (i + 1) = 0) := by
        rw [dec_int, ← Int.natCast_emod]
        by_cases e : p % (i + 1) = 0
        · rw [e]; rfl
        · rw [decide_eq_false e, decide_eq_false (by omega)]
      rw [hmod]
      refine r_id (fun hd => ?_) (fun hd => ?_)
      · tm_at "go"
        refine ⟨_, rfl, by omega, by omega, fun D hD => ?_⟩
        rw [show (((i + 1 : Nat) : Int)).toNat = i + 1 from rfl]
        refine lc_range (fun j H' => Same H1 H' ∧ H' D = some (.lst (natV ((List.range j).filter fun r => R.contains r)))) ⟨same_new hD, upd_same⟩ ?_ ?_
        · rintro j H2 hj ⟨sm2, hl2⟩
          rw [Int.zero_add]
          tm_at "go"
          refine ⟨rfl, ?_⟩
          tm_at "go"
          refine r_inQ (hq1.imp (Same.seqL sm2) (sameT sm2)) rfl (flat_nats _) ?_
          rw [inV_nat]
          tm_at "go"
          refine r_ite (fun hc => ?_) (fun hc => ?_)
          · tm_at "go"
            refine ⟨_, hl2, ?_, Same.updF sm2 hD, ?_⟩
            · rw [List.length_map]
              exact szlt (Nat.ble_eq_true_of_le (Nat.le_trans (filter_len _ _) (by omega)))
            · rw [upd_same, filter_succ, if_pos hc, natV_app]; rfl
          · refine ⟨sm2, ?_⟩
            rw [filter_succ, if_neg (by rw [hc]; exact Bool.false_ne_true), List.append_nil]
            exact hl2
        · rintro H2 ⟨sm2, hl2⟩
          have hl2 : H2 D = some (.lst (natV (shortOf (i + 1) R))) := hl2
          tm_at "go"
          refine ⟨_, rfl, by omega, by omega, fun D2 hD2 => ?_⟩
          rw [show ((p : Int)).toNat = p from rfl]
          refine lc_range (fun j H' => Same H2 H' ∧ H' D2 = some (.lst (natV ((List.range j).filter fun r => (shortOf (i + 1) R).contains (r % (i + 1)) != R.contains r)))) ⟨same_new hD2, upd_same⟩ ?_ ?_
          · rintro j H3 hj ⟨sm3, hl3⟩
            rw [Int.zero_add]
            tm_at "go"
            refine ⟨rfl, ?_⟩
            tm_at "go"
            refine r_mod (by omega) ?_
            tm_at "go"
            rw [← Int.natCast_emod]
            refine r_inQ (.inl (SqL.of (sm3 _ _ hl2))) rfl (flat_nats _) ?_
            rw [inV_nat]
            tm_at "go"
            refine r_inQ ((hq1.imp (Same.seqL sm2) (sameT sm2)).imp (Same.seqL sm3) (sameT sm3)) rfl (flat_nats _) ?_
            rw [inV_nat]
            refine r_ne rfl ?_
            rw [blNe]
            tm_at "go"
            refine r_ite (fun hc => ?_) (fun hc => ?_)
            · tm_at "go"
              refine ⟨_, hl3, ?_, Same.updF sm3 hD2, ?_⟩
              · rw [List.length_map]
                exact szlt (Nat.ble_eq_true_of_le (Nat.le_trans (filter_len _ _) (by omega)))
              · rw [upd_same, filter_succ, if_pos hc, natV_app]; rfl
            · refine ⟨sm3, ?_⟩
              rw [filter_succ, if_neg (by rw [hc]; exact Bool.false_ne_true), List.append_nil]
              exact hl3
          · rintro H3 ⟨sm3, hl3⟩
            have hl3 : H3 D2 = some (.lst (natV (badOf p (i + 1) R))) := hl3
            tm_at "go"
            refine ⟨szl rfl, fun pe hpe => ?_⟩
            tm_at "go"
            refine r_eqD (d := .list (natD (badOf p (i + 1) R))) (e := .list []) (.lst (SqL.of (at_upd (ne_of_none hl3 hpe) hl3)) (dp_nats _)) (.lst (SqL.of upd_same) .nil) (sp_nats _) (by decide +kernel) ?_
            rw [eqv_nil]
            tm_at "go"
            have sm4 : Same H2 (upd H3 pe (.lst [])) := Same.new sm3 hpe
            refine r_ite (fun hb => ?_) (fun hb => ?_)
            · have hbad : badOf p (i + 1) R = [] := List.isEmpty_iff.mp hb
              tm_at "go"
              refine r_tupL (SqL.of (sm4 _ _ hl2)) fun at_ hat => ?_
              tm_at "go"
              refine ⟨szl rfl, fun pr hpr => ?_⟩
              have hat2 : upd (upd H3 pe (.lst [])) at_ (.tup (natV (shortOf (i + 1) R))) at_ = some (.tup (natV (shortOf (i + 1) R))) := upd_same
              exact k (i + 1) pr at_ _ ⟨by omega, by omega, hd, hbad, fun t h1 h2 h3 => hno t h1 (by omega) h3⟩ (Same.new (Same.new ((sm1.trans sm2).trans sm4) hat) hpr) upd_same (at_upd (ne_of_none hat2 hpr) hat2)
            · tm_at "go"
              have hbad : badOf p (i + 1) R ≠ [] := fun z => by rw [z] at hb; exact nomatch hb
              refine ⟨⟨_, _, _, rfl⟩, (sm1.trans sm2).trans sm4, fun t h1 h2 h3 => ?_⟩
              by_cases e : t = i + 1
              · rw [e]; exact hbad
              · exact hno t h1 (by omega) h3
      · tm_at "go"
        refine ⟨⟨_, _, _, rfl⟩, sm1, fun t h1 h2 h3 => ?_⟩
        by_cases e : t = i + 1
        · rw [e] at h3; exact absurd h3 hd
        · exact hno t h1 (by omega) h3
    · rintro σ H1 ⟨_, _, hno⟩
      exact absurd (bad_self p R) (hno p p1 (Nat.le_refl _) (Nat.mod_self p))
end
/-! ### the least form -/
def kvOf (l : List Nat) : List (Key × V) := l.map fun (n : Nat) => ((Sum.inl (n : Int) : Key), V.bl true)
def ins (l : List Nat) (n : Nat) : List Nat := if l.contains n = true then l else l ++ [n]
def ded (L : List Nat) : List Nat := L.foldl ins []
theorem ded_snoc (L : List Nat) (n : Nat) : ded (L ++ [n]) = ins (ded L) n := by unfold ded; rw [List.foldl_append]; rfl
theorem ins_mem {l : List Nat} {n m : Nat} : m ∈ ins l n ↔ m ∈ l ∨ m = n := by
  unfold ins
  split
  · rename_i h
    have := List.contains_iff_mem.mp h
    exact ⟨.inl, fun z => z.elim id fun e => e ▸ this⟩
  · simp
theorem foldl_mem (L : List Nat) : ∀ (l : List Nat) (m : Nat), m ∈ L.foldl ins l ↔ m ∈ l ∨ m ∈ L := by
  induction L with
  | nil => intro l m; simp
  | cons n L ih =>
    intro l m
    rw [List.foldl_cons, ih, ins_mem, List.mem_cons]
    exact or_assoc
theorem ded_mem (L : List Nat) (m : Nat) : m ∈ ded L ↔ m ∈ L := by unfold ded; rw [foldl_mem]; simp
theorem ins_nodup {l : List Nat} {n : Nat} (h : l.Nodup) : (ins l n).Nodup := by
  unfold ins
  split
  · exact h
  · rename_i z
    rw [List.contains_iff_mem] at z
    rw [List.nodup_append]
    refine ⟨h, by simp, fun a ha b hb => ?_⟩
    rw [List.mem_singleton.mp hb]
    exact fun e => z (e ▸ ha)
theorem foldl_nodup (L : List Nat) : ∀ l : List Nat, l.Nodup → (L.foldl ins l).Nodup := by
  induction L with
  | nil => intro l h; exact h
  | cons n L ih => intro l h; exact ih _ (ins_nodup h)
theorem ded_nodup (L : List Nat) : (ded L).Nodup := foldl_nodup L [] List.nodup_nil
theorem ins_len (l : List Nat) (n : Nat) : (ins l n).length ≤ l.length + 1 := by
  unfold ins
  split
  · omega
  · simp
theorem foldl_len (L : List Nat) : ∀ l : List Nat, (L.foldl ins l).length ≤ l.length + L.length := by
  induction L with
  | nil => intro l; simp
  | cons n L ih =>
    intro l
    rw [List.foldl_cons, List.length_cons]
    have := ih (ins l n)
    have := ins_len l n
    omega
theorem ded_len (L : List Nat) : (ded L).length ≤ L.length := by
  have := foldl_len L []
  simpa [ded] using this
theorem any_kv (l : List Nat) (n : Nat) : ((kvOf l).any fun kv => decide (kv.1 = (Sum.inl (n : Int) : Key))) = l.contains n := by
  induction l with
  | nil => rfl
  | cons m l ih =>
    show (decide ((Sum.inl (m : Int) : Key) = Sum.inl (n : Int)) || (kvOf l).any _) = _
    rw [ih, List.contains_cons]
    congr 1
    rw [Bool.eq_iff_iff, beq_iff_eq, decide_eq_true_eq]
    exact ⟨fun z => (Int.ofNat.inj (Sum.inl.inj z)).symm, fun z => by rw [z]⟩
theorem putK_kv (l : List Nat) (n : Nat) : putK (kvOf l) (Sum.inl (n : Int)) (.bl true) = kvOf (ins l n) := by
  unfold putK ins
  rw [any_kv]
  split
  · unfold kvOf
    rw [List.map_map]
    refine List.map_congr_left fun m _ => ?_
    show (if (Sum.inl (m : Int) : Key) = Sum.inl (n : Int) then _ else _) = _
    split <;> rfl
  · unfold kvOf
    rw [List.map_append]; rfl
theorem valV_kv (l : List Nat) (n : Nat) : (valV (kvOf l) (Sum.inl (n : Int))).isSome = l.contains n := by
  rw [← any_kv]
  unfold valV
  rw [Option.isSome_map, Bool.eq_iff_iff, List.find?_isSome, List.any_eq_true]
theorem sorted_nats {l L : List Nat} {c : Nat} {ns : List Int} (hn : l.Nodup) (hm : ∀ n, n ∈ l ↔ n ∈ L ∧ n < c) (hp : ns.Perm (l.map fun (n : Nat) => (n : Int))) (hs : ns.Pairwise (· ≤ ·)) :
    ns = ((List.range c).filter fun n => L.contains n).map fun (n : Nat) => (n : Int) := by
  have p2 : (l.map fun (n : Nat) => (n : Int)).Perm (((List.range c).filter fun n => L.contains n).map fun (n : Nat) => (n : Int)) := by
    refine List.Perm.map _ ((List.perm_ext_iff_of_nodup hn (List.Pairwise.filter _ List.nodup_range)).mpr fun a => ?_)
    rw [hm, List.mem_filter, List.mem_range, List.contains_iff_mem]
    exact and_comm
  refine List.Perm.eq_of_pairwise (le := (· ≤ ·)) (fun a b _ _ h1 h2 => Int.le_antisymm h1 h2) hs ?_ (hp.trans p2)
  rw [List.pairwise_map]
  exact (List.Pairwise.filter _ List.pairwise_lt_range).imp fun h => by omega
def listedOf (L : List Nat) (c : Nat) : List Nat := (List.range c).filter fun n => L.contains n
structure LeastS (L : List Nat) (p : Nat) (R : List Nat) (s c : Nat) : Prop where
  pos : 1 ≤ c
  le : c ≤ s
  same : ∀ n, c ≤ n → n < s → L.contains n = R.contains (n % p)
  last : c = 1 ∨ L.contains (c - 1) ≠ R.contains ((c - 1) % p)
def spLForm (K : PySem.W.Frag) : Sp := fun vs H Q _ => ∃ (t q : Addr) (L R : List Nat) (s p : Nat), vs = [.ref t, .int (s : Int), .int (p : Int), .ref q] ∧ (SqL K H t (natV L) ∨ SqT K H t (natV L)) ∧ (SqL K H q (natV R) ∨ SqT K H q (natV R)) ∧
  1 ≤ p ∧ p ≤ 10000 ∧ 1 ≤ s ∧ s ≤ 10000 ∧ L.length ≤ 10000 ∧
  ∀ (s' p' : Nat) (a a1 a2 : Addr) (H' : Hp), LeastP p R p' → LeastS L p' (shortOf p' R) s s' → Same H H' → H' a = some (.tup [.ref a1, .int (s' : Int), .int (p' : Int), .ref a2]) → H' a1 = some (.tup (natV (listedOf L s'))) →
    H' a2 = some (.tup (natV (shortOf p' R))) → Q (.ref a) H'
section
variable {K : PySem.W.Frag}
theorem ok_least_form (F : DefAt K mg "least_form" s_least_form) (T : Txt K mg aGround aNum aInv aIT aRd) (D_least_period : DefOk P w K mg base CX0 1 "least_period" ["period", "rests"] (spLPer K)) : DefOk P w K mg base CX0 2 "least_form" ["told", "since", "period", "rests"] (spLForm K) := by
  refine F.ok sc_least_form (fun _ _ _ _ _ _ us hl => match us, hl with | [_, _, _, _], _ => rfl) (fun vs H Q E h => ?_) (fun f cdv A outer s H vs Q E hr h => ?_)
  · obtain ⟨t, q, L, R, s, p, rfl, _⟩ := h
    rfl
  · obtain ⟨t, q, L, R, sc, p, rfl, ht, hq, p1, p2, s1, s2, hL, k⟩ := h
    refine ⟨_, (pss_cons (ps_asg (pe_callD D_least_period (hr.mono (by decide)) pass0 rfl (pa_cons (pv 2) (pa_cons (pv 3) pa_nil))) (pg_t (n := 2) K rfl (pgs_cons (pg_name (i := 2) sc_least_form.nd rfl (Or.inl rfl)) (pgs_cons (pg_name (i := 3) sc_least_form.nd rfl (Or.inl rfl)) pgs_nil))))
  (pss_cons (ps_setDc (i := 4) rfl sc_least_form.nd rfl rfl (sw_trueD rfl rfl rfl (by decide +kernel)) (own := [("number", 5)]) (g := (gName 5)) (pi_u K (pv 0)) (blkOk_by (own := [("number", 5)]) (N := ["told", "since", "period", "rests", "known", "number"]) (sc := defScope s_least_form) (by decide +kernel)) (fun _ _ _ _ _ => (pg_name (i := 5) sc_least_form.nd rfl (Or.inl rfl) (Or.inr rfl))) (fun _ _ _ _ _ => pts_nil) (fun _ _ _ _ _ => (pv 5)) (fun _ _ _ _ _ => pe_bl))
  (pss_cut (ps_while PassesOwn.never (PW.pt (pw_and (pt_cmpR o_gt (pv 1) pe_int (nomark _)) (pw_and1 (pt_cmpR (o_eq K hr.units) (pe_cmp (pc_din (hu_of hr) (pe_op o_sub (pv 1) pe_int) (pv 4))) (pe_cmpR (o_in K) (pe_op o_mod (pe_op o_sub (pv 1) pe_int) (pv 2)) (pv 3) rfl) (nomark _)))))
  (pss_one (ps_set (i := 1) sc_least_form.nd rfl (Or.inr rfl) (pe_op o_sub (pv 1) pe_int))))
  (pss_one (ps_ret (pe_tup (pa_cons (pe_callTy (c_tuple K) (by rfl) T.n_tuple (by decide +kernel) (pa_cons (pe_callB cr_sortedI (by rfl) T.n_sorted (by decide +kernel) (pa_cons (pe_lock (pe_lc (own := [("number", 5)]) (g := (gName 5)) rfl sc_least_form.nd (pi_keys (pv 4)) (blkOk_by (own := [("number", 5)]) (N := ["told", "since", "period", "rests", "known", "number"]) (sc := defScope s_least_form) (by decide +kernel)) (fun _ _ _ _ _ => (pg_name (i := 5) sc_least_form.nd rfl (Or.inl rfl) (Or.inr rfl))) (fun _ _ _ _ _ => (pts_one (pt_cmpR o_lt (pv 5) (pv 1) (nomark _)))) (fun _ _ _ _ _ => (pe_callTy c_int (by rfl) T.n_int (by decide +kernel) (pa_cons (pv 5) pa_nil))))) pa_nil)) pa_nil)) (pa_cons (pv 1) (pa_cons (pv 2) (pa_cons (pv 3) pa_nil)))))))))), ?_⟩
    tm_at "go"
    refine ⟨p, q, R, rfl, hq, p1, p2, fun p' a a2 H1 lp sm1 ha ha2 => ?_⟩
    refine r_gT (SqT.of ha) rfl ?_
    tm_at "go"
    have ht1 := ht.imp (Same.seqL sm1) (sameT sm1)
    refine' r_walk ht1 ?_
    intro J G w hG sG D hD
    have hlen : (natV L).length = L.length := List.length_map ..
    refine dc_it w (fun i H' => Same H1 H' ∧ H' D = some (.dK (kvOf (ded (L.take i))))) ⟨same_new hD, upd_same⟩ (fun i H' _ p => sG _ _ p.1 hG) ?_ ?_
    · rintro i x H2 H' hi ⟨sm2, hd⟩ ⟨rfl, hx⟩
      obtain ⟨n, hn, rfl⟩ := natV_at hx
      tm_at "go"
      refine ⟨rfl, ?_⟩
      tm_at "go"
      refine ⟨_, Sum.inl (n : Int), rfl, hd, ?_, Same.updF sm2 hD, ?_⟩
      · unfold kvOf
        rw [List.length_map]
        exact szlt (Nat.ble_eq_true_of_le (Nat.le_trans (ded_len _) (Nat.le_trans (List.length_take_le ..) (by omega))))
      · rw [upd_same, putK_kv, take_succ hn, ded_snoc]
    · rintro H2 ⟨sm2, hd⟩
      rw [hlen, List.take_length] at hd
      have ha2' := sm2 _ _ ha2
      tm_at "go"
      refine r_cut (fun σ' H' => ∃ c : Nat, σ' = [some (.ref t), some (.int (c : Int)), some (.int (p' : Int)), some (.ref a2), some (.ref D), none] ∧ H' = H2 ∧ LeastS L p' (shortOf p' R) sc c) ?_ ?_
      · refine ⟨fun m σ H' => ∃ c : Nat, m = c ∧ σ = [some (.ref t), some (.int (c : Int)), some (.int (p' : Int)), some (.ref a2), some (.ref D), none] ∧ H' = H2 ∧ 1 ≤ c ∧ c ≤ sc ∧ ∀ n, c ≤ n → n < sc → L.contains n = (shortOf p' R).contains (n % p'),
          ⟨_, sc, rfl, rfl, rfl, s1, Nat.le_refl _, fun n h1 h2 => by omega⟩, ?_⟩
        rintro m σ H' ⟨c, hmc, rfl, rfl, c1, c2, hsame⟩
        subst m
        tm_at "go"
        refine r_id (fun h1 => ?_) (fun h1 => ?_)
        · have hc1 : (c : Int) - 1 = ((c - 1 : Nat) : Int) := by omega
          tm_at "go"
          rw [hc1]
          refine r_dinG (k := Sum.inl ((c - 1 : Nat) : Int)) hd ?_
          rw [valV_kv]
          tm_at "go"
          refine r_mod (by have := lp.pos; omega) ?_
          tm_at "go"
          rw [hc1, ← Int.natCast_emod]
          refine r_inQ (.inr (SqT.of ha2')) rfl (flat_nats _) ?_
          rw [inV_nat]
          refine r_eq rfl ?_
          rw [blEq]
          tm_at "go"
          have hcon : (ded L).contains (c - 1) = L.contains (c - 1) := by
            rw [Bool.eq_iff_iff, List.contains_iff_mem, List.contains_iff_mem]; exact ded_mem L _
          rw [hcon]
          refine r_ite (fun he => ?_) (fun he => ?_)
          · have he' := beq_iff_eq.mp he
            refine ⟨fun σ' H'' => σ' = [some (.ref t), some (.int ((c - 1 : Nat) : Int)), some (.int (p' : Int)), some (.ref a2), some (.ref D), none] ∧ H'' = H',
              fun σ' H'' z => ⟨c - 1, by omega, c - 1, rfl, z.1, z.2, by omega, by omega, fun n h1 h2 => ?_⟩, ?_⟩
            · by_cases e : n = c - 1
              · rw [e]; exact he'
              · exact hsame n (by omega) h2
            · tm_at "go"
              rw [hc1]
              exact ⟨rfl, rfl⟩
          · exact ⟨c, rfl, rfl, c1, c2, hsame, .inr fun z => by rw [z] at he; simp at he⟩
        · exact ⟨c, rfl, rfl, c1, c2, hsame, .inl (by omega)⟩
      rintro σ H' ⟨c, rfl, rfl, lc⟩
      have smA : Same H H' := sm1.trans sm2
      have hD0 : H D = Option.none := Same.free sm1 hD
      tm_at "go"
      refine r_lockE hd fun od => ?_
      have smL : Same H (upd H' D (.frz od (.dK (kvOf (ded L))))) := Same.updF smA hD0
      have ha2L : (upd H' D (.frz od (.dK (kvOf (ded L))))) a2 = some (.tup (natV (shortOf p' R))) := at_upd (ne_of_none ha2 hD) ha2'
      have hdL : (upd H' D (.frz od (.dK (kvOf (ded L))))) D = some (.frz od (.dK (kvOf (ded L)))) := upd_same
      generalize upd H' D (.frz od (.dK (kvOf (ded L)))) = HL at smL ha2L hdL ⊢
      tm_at "go"
      refine ⟨D, od, rfl, .inl ⟨_, hdL, fun D2 hD2 => ?_⟩⟩
      have hD20 : H D2 = Option.none := Same.free smL hD2
      refine lc_it walk_keys (fun i H'' => Same HL H'' ∧ H'' D2 = some (.lst (natV (((ded L).take i).filter fun n => decide (n < c))))) ⟨same_new hD2, upd_same⟩ (fun i H'' _ p => p.1 _ _ hdL) ?_ ?_
      · rintro i x H3 H4 hi ⟨sm3, hl3⟩ ⟨rfl, kk, vv, hkv, rfl⟩
        obtain ⟨n, hn, rfl⟩ : ∃ n, (ded L)[i]? = some n ∧ kk = Sum.inl (n : Int) := by
          unfold kvOf at hkv
          rw [List.getElem?_map] at hkv
          cases e : (ded L)[i]? with
          | none => rw [e] at hkv; cases hkv
          | some n => rw [e] at hkv; cases hkv; exact ⟨n, rfl, rfl⟩
        rw [show kV (Sum.inl (n : Int)) = V.int (n : Int) from rfl]
        tm_at "go"
        refine ⟨rfl, ?_⟩
        tm_at "go"
        have e : decide ((n : Int) < (c : Int)) = decide (n < c) := by simp
        rw [e]
        refine r_id (fun hc => ?_) (fun hc => ?_)
        · tm_at "go"
          refine ⟨_, hl3, ?_, Same.updF sm3 hD2, ?_⟩
          · rw [List.length_map]
            exact szlt (Nat.ble_eq_true_of_le (Nat.le_trans (List.length_filter_le ..) (Nat.le_trans (by rw [List.length_take]; exact Nat.min_le_right ..) (Nat.le_trans (ded_len L) (by omega)))))
          · rw [upd_same, take_succ hn, List.filter_append, natV_app]
            simp [List.filter, hc]
        · refine ⟨sm3, ?_⟩
          rw [take_succ hn, List.filter_append]
          simp only [List.filter, decide_eq_false hc, List.append_nil]
          exact hl3
      · rintro H3 ⟨sm3, hl3⟩
        have hl3 : H3 D2 = some (.lst (natV ((ded L).filter fun n => decide (n < c)))) := by
          rw [show (kvOf (ded L)).length = (ded L).length from List.length_map .., List.take_length] at hl3
          exact hl3
        refine ⟨sm3 _ _ hdL, ?_⟩
        have nD2 : D2 ≠ D := ne_kind hl3 (sm3 _ _ hdL) fun z => nomatch z
        have smZ : Same H (upd H3 D (.dK (kvOf (ded L)))) := Same.updF (smL.trans sm3) hD0
        have hlZ : (upd H3 D (.dK (kvOf (ded L)))) D2 = some (.lst (natV ((ded L).filter fun n => decide (n < c)))) := at_upd nD2 hl3
        have haZ : (upd H3 D (.dK (kvOf (ded L)))) a2 = some (.tup (natV (shortOf p' R))) := at_upd (ne_kind (sm3 _ _ ha2L) (sm3 _ _ hdL) fun z => nomatch z) (sm3 _ _ ha2L)
        generalize upd H3 D (.dK (kvOf (ded L))) = HZ at smZ hlZ haZ ⊢
        tm_at "go"
        refine ⟨D2, ((ded L).filter fun n => decide (n < c)).map fun (n : Nat) => (n : Int), rfl, SqL.of (by rw [List.map_map]; exact hlZ), fun ns' ps hperm hsorted hps => ?_⟩
        have hns := sorted_nats (L := L) (c := c) (List.Pairwise.filter _ (ded_nodup L)) (fun n => by rw [List.mem_filter, ded_mem, decide_eq_true_eq]) hperm hsorted
        tm_at "go"
        refine r_tupL (SqL.of upd_same) fun a1 ha1 => ?_
        tm_at "go"
        refine ⟨szl rfl, fun pr hpr => ?_⟩
        have h1 : upd (upd HZ ps (.lst (ns'.map V.int))) a1 (.tup (ns'.map V.int)) a1 = some (.tup (natV (listedOf L c))) := by
          rw [upd_same, hns, List.map_map]; rfl
        have h2 : upd (upd HZ ps (.lst (ns'.map V.int))) a1 (.tup (ns'.map V.int)) a2 = some (.tup (natV (shortOf p' R))) := by tm_at "hs"
        exact k c p' pr a1 a2 _ lp lc (Same.new (Same.new (Same.new smZ hps) ha1) hpr) upd_same (at_upd (ne_of_none h1 hpr) h1) (at_upd (ne_of_none h2 hpr) h2)
end
/-! ### a set of numbers -/
def intOf (v : V) : Int := match v with | .int i => i | _ => 0
def geV (v : V) (a : Int) : Bool := match v with | .int i => decide (a ≤ i) | _ => false
def badN (ol : Option (List V)) (s p : V) (orr : Option (List V)) : Option Str :=
  if geV s 1 = false then some "since" else if allV ol 1 (intOf s - 1) = false then some "listed" else if geV p 1 = false then some "period" else if allV orr 0 (intOf p - 1) = false then some "rests" else none
theorem allV_nat {o : Option (List V)} {a b : Int} (h : allV o a b = true) (ha : 0 ≤ a) : ∃ L : List Nat, o = some (natV L) ∧ ∀ n ∈ L, a ≤ (n : Int) ∧ (n : Int) ≤ b := by
  cases o with
  | none => cases h
  | some xs =>
    replace h : (xs.all fun y => fromV y a b) = true := h
    suffices z : ∃ L : List Nat, xs = natV L ∧ ∀ n ∈ L, a ≤ (n : Int) ∧ (n : Int) ≤ b from by
      obtain ⟨L, e, q⟩ := z
      exact ⟨L, by rw [e], q⟩
    induction xs with
    | nil => exact ⟨[], rfl, by simp⟩
    | cons y xs ih =>
      rw [List.all_cons, Bool.and_eq_true] at h
      obtain ⟨L, e, q⟩ := ih h.2
      have h1 := h.1
      cases y with
      | int i =>
        have h1 : (decide (a ≤ i) && decide (i ≤ b)) = true := h1
        rw [Bool.and_eq_true, decide_eq_true_eq, decide_eq_true_eq] at h1
        refine ⟨i.toNat :: L, ?_, ?_⟩
        · rw [e, natV, natV, List.map_cons, Int.toNat_of_nonneg (by omega)]
        · intro n hn
          rcases List.mem_cons.mp hn with rfl | hn
          · omega
          · exact q n hn
      | _ => cases h1
abbrev numF (a1 : Addr) (s p : Nat) (a2 : Addr) : List (Str × V) := [("listed", .ref a1), ("since", .int (s : Int)), ("period", .int (p : Int)), ("rests", .ref a2)]
theorem numF_put (a1 : Addr) (s p : Nat) (a2 : Addr) : putF "rests" (.ref a2) (putF "period" (.int (p : Int)) (putF "since" (.int (s : Int)) (putF "listed" (.ref a1) []))) = numF a1 s p a2 := by
  have d1 : ¬ ("listed" : Str) = "since" := by decide +kernel
  have d2 : ¬ ("listed" : Str) = "period" := by decide +kernel
  have d3 : ¬ ("since" : Str) = "period" := by decide +kernel
  have d4 : ¬ ("listed" : Str) = "rests" := by decide +kernel
  have d5 : ¬ ("since" : Str) = "rests" := by decide +kernel
  have d6 : ¬ ("period" : Str) = "rests" := by decide +kernel
  simp only [putF, if_neg d1, if_neg d2, if_neg d3, if_neg d4, if_neg d5, if_neg d6]
def small (v : V) : Prop := ∀ i, v = .int i → i ≤ 10000
def spNumI (K : PySem.W.Frag) (aNum aInv : Addr) : Sp := fun vs H Q E => ∃ (x dx : Addr) (lv sv pv rv : V) (ol orr : Option (List V)), vs = [.ref x, lv, sv, pv, rv] ∧ H x = some (.ins aNum dx []) ∧ Arg K H lv ol ∧ Kd K H sv ∧ Kd K H pv ∧ Arg K H rv orr ∧ small sv ∧ small pv ∧
  (∀ w, badN ol sv pv orr = some w → ∀ (d : Addr) (H' : Hp), Same H H' → H' d = none → E (.ref aInv) (some d) (upd H' d (.xd [("word", .str w)]))) ∧
  (badN ol sv pv orr = none → ∀ (L R : List Nat) (s p s' p' : Nat) (a1 a2 : Addr) (H' : Hp), ol = some (natV L) → orr = some (natV R) → sv = .int (s : Int) → pv = .int (p : Int) → 1 ≤ s → 1 ≤ p → (∀ n ∈ L, 1 ≤ n ∧ n < s) → (∀ r ∈ R, r < p) →
    LeastP p R p' → LeastS L p' (shortOf p' R) s s' → Kx x H H' → H' x = some (.ins aNum dx (numF a1 s' p' a2)) → H' a1 = some (.tup (natV (listedOf L s'))) → H' a2 = some (.tup (natV (shortOf p' R))) → Q .non H')
theorem r_mkS {K : PySem.W.Frag} {C : Addr} {f : Str} {v : V} {σ : St} {H : Hp} {Q : XK} (T : OexC K C) (hf : PySem.W.findIn K (.ref C) f = some none) (k : ∀ d, H d = none → Q (.ref C) (some d) (upd H d (.xd [(f, v)]))) :
    tMkO C (spInitF K C f) [] (tCons (tC v) tNil) σ H Q := r_mkF (x := v) T hf ⟨v, rfl, k⟩ fun hh h => hh _ _ h
section
variable {K : PySem.W.Frag}
theorem ok_InvalidNumbers (F : ErrAt K mg "InvalidNumbers" "InvalidNumbers.__init__" s_InvalidNumbers__init aInv) (T : Txt K mg aGround aNum aInv aIT aRd) : ErrOk P w K mg base 1 "InvalidNumbers" aInv ["self", "word"] (spInitF K aInv "word") := by
  refine F.ok sc_InvalidNumbers__init (fun _ _ _ _ _ _ us hl => match us, hl with | [_, _], _ => rfl) (fun vs H Q E h => ?_) (fun f cdv A outer s H vs Q E hr h => ?_)
  · obtain ⟨a, x, rfl, _⟩ := h
    rfl
  · obtain ⟨a, x, rfl, oc, hno, ha, k⟩ := h
    refine ⟨_, (pss_cons (ps_expr (pe_ginit rfl T.m_GroundError T.b_GroundError (pa_cons (pv 0) (pa_cons pe_str pa_nil))))
  (pss_one (ps_ost (pv 0) (pv 1)))), ?_⟩
    tm_at "go"
    refine ⟨a, aInv, _, rfl, Nat.le_of_ble_eq_true rfl, oc, ha, ?_⟩
    refine ⟨x, rfl, .ref a, rfl, a, aInv, rfl, oc, hno, .inl ⟨ha, fun dx h1 h2 => ?_⟩⟩
    exact k dx h1 h2
theorem ok_NumI {aI : Addr} {fdI : FuncData} {dvs : List V} (F : FunD K "__init__" "Numbers.__init__" (defArgs s_Numbers__init) (defBody s_Numbers__init) (defScope s_Numbers__init) dvs [] aI fdI) (T : Txt K mg aGround aNum aInv aIT aRd)
    (D_is_integer : DefOk P w K mg base CX0 1 "is_integer" ["value"] (spIsInt K)) (D_all_from : DefOk P w K mg base CX0 2 "all_from" ["values", "least", "most"] (spAllFrom K)) (D_least_form : DefOk P w K mg base CX0 2 "least_form" ["told", "since", "period", "rests"] (spLForm K))
    (R_InvalidNumbers : ErrOk P w K mg base 1 "InvalidNumbers" aInv ["self", "word"] (spInitF K aInv "word")) :
    FnOk P w K mg base (L2.CX P w) 4 aI fdI ["self", "listed", "since", "period", "rests"] (spNumI K aNum aInv) := by
  refine F.ok sc_Numbers__init (fun vs H Q E h => ?_) (fun cdv A outer s H vs Q E hr h => ?_)
  · obtain ⟨x, dx, vL, vS, vP, vR, ol, orr, rfl, _⟩ := h
    rfl
  · obtain ⟨x, dx, vL, vS, vP, vR, ol, orr, rfl, hx, hl, hs, hp, hrr, sms, smp, kN, kY⟩ := h
    refine ⟨_, (pss_cons (ps_if (PW.pt (pw_or (pt_not (pt_tr K (pe_callD D_is_integer (hr.mono (by decide)) pass0 rfl (pa_cons (pv 2) pa_nil)))) (pw_or1 (pt_cmpR o_lt (pv 2) pe_int (nomark _))))) (pss_one (ps_raise rfl (takes_of rfl rfl rfl rfl) (pmkF R_InvalidNumbers (hr.mono (by decide)) rfl (pa_cons pe_str pa_nil))))
  pss_nil)
  (pss_cons (ps_if (pt_not (pt_tr K (pe_callD D_all_from (hr.mono (by decide)) pass0 rfl (pa_cons (pv 1) (pa_cons pe_int (pa_cons (pe_op o_sub (pv 2) pe_int) pa_nil)))))) (pss_one (ps_raise rfl (takes_of rfl rfl rfl rfl) (pmkF R_InvalidNumbers (hr.mono (by decide)) rfl (pa_cons pe_str pa_nil))))
  pss_nil)
  (pss_cons (ps_if (PW.pt (pw_or (pt_not (pt_tr K (pe_callD D_is_integer (hr.mono (by decide)) pass0 rfl (pa_cons (pv 3) pa_nil)))) (pw_or1 (pt_cmpR o_lt (pv 3) pe_int (nomark _))))) (pss_one (ps_raise rfl (takes_of rfl rfl rfl rfl) (pmkF R_InvalidNumbers (hr.mono (by decide)) rfl (pa_cons pe_str pa_nil))))
  pss_nil)
  (pss_cons (ps_if (pt_not (pt_tr K (pe_callD D_all_from (hr.mono (by decide)) pass0 rfl (pa_cons (pv 4) (pa_cons pe_int (pa_cons (pe_op o_sub (pv 3) pe_int) pa_nil)))))) (pss_one (ps_raise rfl (takes_of rfl rfl rfl rfl) (pmkF R_InvalidNumbers (hr.mono (by decide)) rfl (pa_cons pe_str pa_nil))))
  pss_nil)
  (pss_one (ps_asg (pe_callD D_least_form (hr.mono (by decide)) pass0 rfl (pa_cons (pv 1) (pa_cons (pv 2) (pa_cons (pv 3) (pa_cons (pv 4) pa_nil))))) (pg_t (n := 4) K rfl (pgs_cons (pg_fld K (pv 0)) (pgs_cons (pg_fld K (pv 0)) (pgs_cons (pg_fld K (pv 0)) (pgs_cons (pg_fld K (pv 0)) pgs_nil))))))))))), ?_⟩
    have RI := R_InvalidNumbers.2.1
    tm_at "go"
    refine ⟨vS, rfl, hs, ?_⟩
    tm_at "go"
    have bad1 : geV vS 1 = false → badN ol vS vP orr = some "since" := fun z => if_pos z
    refine r_ite (fun h1 => ?_) (fun h1 => ?_)
    · tm_at "go"
      refine r_mkS RI T.xw fun d hd => ?_
      exact kN _ (bad1 (by cases vS <;> first | rfl | cases h1)) d _ Same.refl hd
    · obtain ⟨i, rfl⟩ := isI_int (v := vS) (by cases vS <;> first | rfl | cases h1)
      tm_at "go"
      refine r_id (fun h2 => ?_) (fun h2 => ?_)
      · tm_at "go"
        refine r_mkS RI T.xw fun d hd => ?_
        exact kN _ (bad1 (decide_eq_false (by omega))) d _ Same.refl hd
      · tm_at "go"
        have g1 : ¬ geV (.int i) 1 = false := by
          rw [show geV (.int i) 1 = true from decide_eq_true (by omega)]
          exact fun z => nomatch z
        have bad2 : allV ol 1 (i - 1) = false → badN ol (.int i) vP orr = some "listed" := fun z => (if_neg g1).trans (if_pos z)
        refine ⟨vL, 1, i - 1, ol, rfl, hl, fun H1 s1 => ?_⟩
        tm_at "go"
        refine r_ite (fun h3 => ?_) (fun h3 => ?_)
        · tm_at "go"
          refine r_mkS RI T.xw fun d hd => ?_
          exact kN _ (bad2 (by simpa using h3)) d _ s1 hd
        · have h3' : allV ol 1 (i - 1) = true := by simpa using h3
          tm_at "go"
          refine ⟨vP, rfl, hp.mono s1, ?_⟩
          tm_at "go"
          have g2 : ¬ allV ol 1 (i - 1) = false := by rw [h3']; exact fun z => nomatch z
          have bad3 : geV vP 1 = false → badN ol (.int i) vP orr = some "period" := fun z => (if_neg g1).trans ((if_neg g2).trans (if_pos z))
          refine r_ite (fun h4 => ?_) (fun h4 => ?_)
          · tm_at "go"
            refine r_mkS RI T.xw fun d hd => ?_
            exact kN _ (bad3 (by cases vP <;> first | rfl | cases h4)) d _ s1 hd
          · obtain ⟨j, rfl⟩ := isI_int (v := vP) (by cases vP <;> first | rfl | cases h4)
            tm_at "go"
            refine r_id (fun h5 => ?_) (fun h5 => ?_)
            · tm_at "go"
              refine r_mkS RI T.xw fun d hd => ?_
              exact kN _ (bad3 (decide_eq_false (by omega))) d _ s1 hd
            · tm_at "go"
              have g3 : ¬ geV (.int j) 1 = false := by
                rw [show geV (.int j) 1 = true from decide_eq_true (by omega)]
                exact fun z => nomatch z
              have bad4 : allV orr 0 (j - 1) = false → badN ol (.int i) (.int j) orr = some "rests" := fun z => (if_neg g1).trans ((if_neg g2).trans ((if_neg g3).trans (if_pos z)))
              refine ⟨vR, 0, j - 1, orr, rfl, hrr.mono s1, fun H2 s2 => ?_⟩
              tm_at "go"
              refine r_ite (fun h6 => ?_) (fun h6 => ?_)
              · tm_at "go"
                refine r_mkS RI T.xw fun d hd => ?_
                exact kN _ (bad4 (by simpa using h6)) d _ (s1.trans s2) hd
              · have h6' : allV orr 0 (j - 1) = true := by simpa using h6
                have g4 : ¬ allV orr 0 (j - 1) = false := by rw [h6']; exact fun z => nomatch z
                have good : badN ol (.int i) (.int j) orr = none := (if_neg g1).trans ((if_neg g2).trans ((if_neg g3).trans (if_neg g4)))
                have kY := kY good
                obtain ⟨L, rfl, hLL⟩ := allV_nat h3' (by decide)
                obtain ⟨R, rfl, hRR⟩ := allV_nat h6' (by decide)
                obtain ⟨n, rfl⟩ : ∃ n : Nat, i = (n : Int) := ⟨i.toNat, by omega⟩
                obtain ⟨m, rfl⟩ : ∃ m : Nat, j = (m : Int) := ⟨j.toNat, by omega⟩
                have n2 := sms _ rfl
                have m2 := smp _ rfl
                have sm := s1.trans s2
                obtain ⟨tl, rfl, tls, tln, _⟩ := hl.mono sm
                obtain ⟨tr, rfl, trs, trn, _⟩ := hrr.mono sm
                rw [List.length_map] at tln
                tm_at "go"
                refine ⟨tl, tr, L, R, n, m, rfl, tls, trs, by omega, by omega, by omega, by omega, by omega, fun s' p' a a1 a2 H3 lp ls s3 ha ha1 ha2 => ?_⟩
                refine r_gT (SqT.of ha) rfl ?_
                have sm3 := sm.trans s3
                have hx3 := sm3 _ _ hx
                have n1 : a1 ≠ x := ne_kind ha1 hx3 fun z => nomatch z
                have n2 : a2 ≠ x := ne_kind ha2 hx3 fun z => nomatch z
                tm_at "go"
                refine r_putG hx3 T.clN T.nL (by decide) ?_
                tm_at "go"
                refine r_putG upd_same T.clN T.nS (Nat.lt_of_le_of_lt (putF_len ..) (by decide)) ?_
                tm_at "go"
                refine r_putG upd_same T.clN T.nP (Nat.lt_of_le_of_lt (Nat.le_trans (putF_len ..) (Nat.succ_le_succ (putF_len ..))) (by decide)) ?_
                tm_at "go"
                refine r_putG upd_same T.clN T.nR (Nat.lt_of_le_of_lt (Nat.le_trans (putF_len ..) (Nat.succ_le_succ (Nat.le_trans (putF_len ..) (Nat.succ_le_succ (putF_len ..))))) (by decide)) ?_
                tm_at "go"
                rw [upd_upd, upd_upd, upd_upd, numF_put]
                exact kY L R n m s' p' a1 a2 _ rfl rfl rfl rfl (by omega) (by omega) (fun q hq => by have := hLL q hq; omega) (fun q hq => by have := hRR q hq; omega) lp ls (Kx.set (Kx.same Kx.refl sm3)) upd_same (at_upd n1 ha1) (at_upd n2 ha2)
end
/-! ### what a set has -/
def hasN (L : List Nat) (s p : Nat) (R : List Nat) (n : Nat) : Bool := if n < s then L.contains n else R.contains (n % p)
/-- a set of numbers at x -/
def NumAt (aNum : Addr) (H : Hp) (x : Addr) (L : List Nat) (s p : Nat) (R : List Nat) : Prop := ∃ dx a1 a2, H x = some (.ins aNum dx (numF a1 s p a2)) ∧ H a1 = some (.tup (natV L)) ∧ H a2 = some (.tup (natV R))
theorem NumAt.mono {aNum : Addr} {H H' : Hp} {x : Addr} {L R : List Nat} {s p : Nat} (e : Same H H') (h : NumAt aNum H x L s p R) : NumAt aNum H' x L s p R := by
  obtain ⟨dx, a1, a2, h1, h2, h3⟩ := h
  exact ⟨dx, a1, a2, e _ _ h1, e _ _ h2, e _ _ h3⟩
def spTold (K : PySem.W.Frag) : Sp := fun vs H Q _ => ∃ (t a1 a2 : Addr) (L R : List Nat) (s p n : Nat), vs = [.ref t, .int (n : Int)] ∧ H t = some (.tup [.ref a1, .int (s : Int), .int (p : Int), .ref a2]) ∧
  (SqL K H a1 (natV L) ∨ SqT K H a1 (natV L)) ∧ (SqL K H a2 (natV R) ∨ SqT K H a2 (natV R)) ∧ 1 ≤ p ∧ Q (.bl (hasN L s p R n)) H
def spForm (aNum : Addr) : Sp := fun vs H Q _ => ∃ (x dx a1 a2 : Addr) (s p : Nat), vs = [.ref x] ∧ H x = some (.ins aNum dx (numF a1 s p a2)) ∧ ∀ t H', Same H H' → H' t = some (.tup [.ref a1, .int (s : Int), .int (p : Int), .ref a2]) → Q (.ref t) H'
/-- value in set -/
def inN (v : V) (L : List Nat) (s p : Nat) (R : List Nat) : Bool := match v with | .int i => decide (0 < i) && hasN L s p R i.toNat | _ => false
def spHas (K : PySem.W.Frag) (aNum : Addr) : Sp := fun vs H Q _ => ∃ (x : Addr) (v : V) (L R : List Nat) (s p : Nat), vs = [.ref x, v] ∧ NumAt aNum H x L s p R ∧ 1 ≤ p ∧ Kd K H v ∧ ∀ H', Same H H' → Q (.bl (inN v L s p R)) H'
section
variable {K : PySem.W.Frag}
theorem ok_is_told (F : DefAt K mg "is_told" s_is_told) (T : Txt K mg aGround aNum aInv aIT aRd) : DefOk P w K mg base CX0 1 "is_told" ["form", "number"] (spTold K) := by
  refine F.ok sc_is_told (fun _ _ _ _ _ _ us hl => match us, hl with | [_, _], _ => rfl) (fun vs H Q E h => ?_) (fun f cdv A outer s H vs Q E hr h => ?_)
  · obtain ⟨t, a1, a2, L, R, s, p, n, rfl, _⟩ := h
    rfl
  · obtain ⟨t, a1, a2, L, R, sc, p, n, rfl, ht, h1, h2, hp, k⟩ := h
    refine ⟨_, (pss_cons (ps_asg (pv 0) (pg_t (n := 4) K rfl (pgs_cons (pg_name (i := 2) sc_is_told.nd rfl (Or.inl rfl)) (pgs_cons (pg_name (i := 3) sc_is_told.nd rfl (Or.inl rfl)) (pgs_cons (pg_name (i := 4) sc_is_told.nd rfl (Or.inl rfl)) (pgs_cons (pg_name (i := 5) sc_is_told.nd rfl (Or.inl rfl)) pgs_nil))))))
  (pss_one (ps_ret (pe_ifExp (pt_cmpR o_lt (pv 1) (pv 3) (nomark _)) (pe_cmpR (o_in K) (pv 1) (pv 2) rfl) (pe_cmpR (o_in K) (pe_op o_mod (pe_callTy c_int (by rfl) T.n_int (by decide +kernel) (pa_cons (pv 1) pa_nil)) (pv 4)) (pv 5) rfl))))), ?_⟩
    tm_at "go"
    refine r_gT (SqT.of ht) rfl ?_
    tm_at "go"
    have e : decide ((n : Int) < (sc : Int)) = decide (n < sc) := by simp
    rw [e]
    unfold hasN at k
    refine r_id (fun hc => ?_) (fun hc => ?_)
    · rw [if_pos hc] at k
      tm_at "go"
      refine r_inQ h1 rfl (flat_nats _) ?_
      rw [inV_nat]
      exact k
    · rw [if_neg hc] at k
      tm_at "go"
      refine r_mod (by omega) ?_
      tm_at "go"
      rw [← Int.natCast_emod]
      refine r_inQ h2 rfl (flat_nats _) ?_
      rw [inV_nat]
      exact k
theorem ok_form (F : MetAt K aNum "form" "Numbers.form" s_Numbers_form) (T : Txt K mg aGround aNum aInv aIT aRd) : MetOk P w K mg base CX0 1 aNum "form" ["self"] (spForm aNum) := by
  refine F.ok sc_Numbers_form (fun _ _ _ _ _ _ us hl => match us, hl with | [_], _ => rfl) (fun vs H Q E h => ?_) (fun f cdv A outer s H vs Q E hr h => ?_)
  · obtain ⟨x, dx, a1, a2, s, p, rfl, _⟩ := h
    rfl
  · obtain ⟨x, dx, a1, a2, sc, p, rfl, hx, k⟩ := h
    refine ⟨_, (pss_one (ps_ret (pe_tup (pa_cons (pe_fl K (pv 0)) (pa_cons (pe_fl K (pv 0)) (pa_cons (pe_fl K (pv 0)) (pa_cons (pe_fl K (pv 0)) pa_nil))))))), ?_⟩
    tm_at "go"
    refine r_get hx T.clN T.nL rfl ?_
    tm_at "go"
    refine r_get hx T.clN T.nS rfl ?_
    tm_at "go"
    refine r_get hx T.clN T.nP rfl ?_
    tm_at "go"
    refine r_get hx T.clN T.nR rfl ?_
    tm_at "go"
    refine ⟨szl rfl, fun t ht => ?_⟩
    exact k t _ (same_new ht) upd_same
theorem ok_contains (F : MetAt K aNum "__contains__" "Numbers.__contains__" s_Numbers__contains) (T : Txt K mg aGround aNum aInv aIT aRd) (D_is_integer : DefOk P w K mg base CX0 1 "is_integer" ["value"] (spIsInt K)) (D_is_told : DefOk P w K mg base CX0 1 "is_told" ["form", "number"] (spTold K))
    (M_Numbers_form : MetOk P w K mg base CX0 1 aNum "form" ["self"] (spForm aNum)) : MetOk P w K mg base CX0 2 aNum "__contains__" ["self", "value"] (spHas K aNum) := by
  refine F.ok sc_Numbers__contains (fun _ _ _ _ _ _ us hl => match us, hl with | [_, _], _ => rfl) (fun vs H Q E h => ?_) (fun f cdv A outer s H vs Q E hr h => ?_)
  · obtain ⟨x, v, L, R, s, p, rfl, _⟩ := h
    rfl
  · obtain ⟨x, v, L, R, sc, p, rfl, ⟨dx, a1, a2, hx, ha1, ha2⟩, hp, hv, k⟩ := h
    refine ⟨_, (pss_one (ps_ret (pe_and (pe_callD D_is_integer (hr.mono (by decide)) pass0 rfl (pa_cons (pv 1) pa_nil)) (pe_and (pe_cmpR o_gt (pv 1) pe_int (nomark _)) (pe_one (pe_callD D_is_told (hr.mono (by decide)) pass0 rfl (pa_cons (pe_metD0 M_Numbers_form (hr.mono (by decide)) pass0 (pv 0)) (pa_cons (pv 1) pa_nil)))))))), ?_⟩
    tm_at "go"
    refine ⟨v, rfl, hv, ?_⟩
    tm_at "go"
    refine r_ite (fun h1 => ?_) (fun h1 => ?_)
    · obtain ⟨i, rfl⟩ := isI_int h1
      tm_at "go"
      refine r_id (fun h2 => ?_) (fun h2 => ?_)
      · obtain ⟨n, rfl⟩ : ∃ n : Nat, i = (n : Int) := ⟨i.toNat, by omega⟩
        tm_at "go"
        refine r_obj (a := x) hx rfl ?_
        tm_at "go"
        refine ⟨x, dx, a1, a2, sc, p, rfl, hx, fun t H' s' ht => ?_⟩
        tm_at "go"
        refine ⟨t, a1, a2, L, R, sc, p, n, rfl, ht, .inr (SqT.of (s' _ _ ha1)), .inr (SqT.of (s' _ _ ha2)), hp, ?_⟩
        have e : inN (.int (n : Int)) L sc p R = hasN L sc p R n := by
          show (decide (0 < (n : Int)) && hasN L sc p R (n : Int).toNat) = _
          rw [decide_eq_true h2, Bool.true_and, Int.toNat_natCast]
        rw [e] at k
        exact k _ s'
      · have e : inN (.int i) L sc p R = false := by
          show (decide (0 < i) && _) = false
          rw [decide_eq_false h2, Bool.false_and]
        rw [e] at k
        exact k _ Same.refl
    · have e : inN v L sc p R = false := by cases v <;> first | rfl | exact nomatch h1
      rw [e] at k
      exact k _ Same.refl
end
abbrev formD (L : List Nat) (s p : Nat) (R : List Nat) : PyData := .tuple [.tuple (natD L), .int (s : Int), .int (p : Int), .tuple (natD R)]
theorem eqv_form (L R L' R' : List Nat) (s p s' p' : Nat) : PyData.eqv (formD L s p R) (formD L' s' p' R') = decide (L = L' ∧ s = s' ∧ p = p' ∧ R = R') := by
  show (PyData.eqvAll (natD L) (natD L') && (((s : Int) == (s' : Int)) && (((p : Int) == (p' : Int)) && (PyData.eqvAll (natD R) (natD R') && true)))) = _
  rw [eqv_nats, eqv_nats, Bool.eq_iff_iff]
  simp only [Bool.and_eq_true, beq_iff_eq, decide_eq_true_eq, Bool.and_true]
  exact ⟨fun z => ⟨z.1, Int.ofNat.inj z.2.1, Int.ofNat.inj z.2.2.1, z.2.2.2⟩, fun z => ⟨z.1, by rw [z.2.1], by rw [z.2.2.1], z.2.2.2⟩⟩
theorem sp_form (L R : List Nat) (s p : Nat) : SeqAt.shaped (formD L s p R) = true := by
  unfold SeqAt.shaped
  simp only [formD, PyData.canLay0, PyData.canLayAll0, lay_nats, PyData.depth, PyData.depthAll, dep_nats]
  decide
def spEqN (K : PySem.W.Frag) (aNum : Addr) : Sp := fun vs H Q _ => (∃ (x y : Addr) (L R L' R' : List Nat) (s p s' p' : Nat), vs = [.ref x, .ref y] ∧ NumAt aNum H x L s p R ∧ NumAt aNum H y L' s' p' R' ∧
  ∀ H', Same H H' → Q (.bl (decide (L = L' ∧ s = s' ∧ p = p' ∧ R = R'))) H') ∨ ∃ (x : V) (v : V) (t : Value), vs = [x, v] ∧ TyX K H v t ∧ PySem.W.kitOne K t (.ref aNum) = some false ∧ Q (.bl false) H
section
variable {K : PySem.W.Frag}
theorem ok_eqN (F : MetAt K aNum "__eq__" "Numbers.__eq__" s_Numbers__eq) (T : Txt K mg aGround aNum aInv aIT aRd) : MetOk P w K mg base CX0 1 aNum "__eq__" ["self", "other"] (spEqN K aNum) := by
  refine F.ok sc_Numbers__eq (fun _ _ _ _ _ _ us hl => match us, hl with | [_, _], _ => rfl) (fun vs H Q E h => ?_) (fun f cdv A outer s H vs Q E hr h => ?_)
  · rcases h with ⟨x, y, L, R, L', R', s, p, s', p', rfl, _⟩ | ⟨x, v, t, rfl, _⟩ <;> rfl
  · refine ⟨_, (pss_cons (ps_if (pt_not (pt_tr K (pe_callB (c_isi K) (by rfl) T.n_isinstance (by decide +kernel) (pa_cons (pv 1) (pa_cons (pe_gR rfl T.m_Numbers) pa_nil))))) (pss_one (ps_ret pe_bl))
  pss_nil)
  (pss_cons (ps_set (i := 2) sc_Numbers__eq.nd rfl (Or.inl rfl) (pe_tup (pa_cons (pe_fl K (pv 0)) (pa_cons (pe_fl K (pv 0)) (pa_cons (pe_fl K (pv 0)) (pa_cons (pe_fl K (pv 0)) pa_nil))))))
  (pss_one (ps_ret (pe_cmpR (o_eq K hr.units) (pv 2) (pe_tup (pa_cons (pe_fl K (pv 1)) (pa_cons (pe_fl K (pv 1)) (pa_cons (pe_fl K (pv 1)) (pa_cons (pe_fl K (pv 1)) pa_nil))))) (nomark _)))))), ?_⟩
    rcases h with ⟨x, y, L, R, L', R', sc, p, s', p', rfl, ⟨dx, a1, a2, hx, ha1, ha2⟩, ⟨dy, b1, b2, hy, hb1, hb2⟩, k⟩ | ⟨x, v, t, rfl, ty, kt, k⟩
    rotate_left
    · tm_at "go"
      refine r_isi (.own aNum) ty kt ?_
      tm_at "go"
      exact k
    tm_at "go"
    refine r_isi (.own aNum) (T.tyN _ _ _ _ hy) (if_pos (beq_self_eq_true _)) ?_
    tm_at "go"
    refine r_get hx T.clN T.nL rfl ?_
    tm_at "go"
    refine r_get hx T.clN T.nS rfl ?_
    tm_at "go"
    refine r_get hx T.clN T.nP rfl ?_
    tm_at "go"
    refine r_get hx T.clN T.nR rfl ?_
    tm_at "go"
    refine ⟨szl rfl, fun t1 ht1 => ?_⟩
    have s1 : Same H (upd H t1 (.tup [.ref a1, .int (sc : Int), .int (p : Int), .ref a2])) := same_new ht1
    have hq1 : (upd H t1 (.tup [.ref a1, .int (sc : Int), .int (p : Int), .ref a2])) t1 = some (.tup [.ref a1, .int (sc : Int), .int (p : Int), .ref a2]) := upd_same
    generalize upd H t1 (.tup [.ref a1, .int (sc : Int), .int (p : Int), .ref a2]) = H1 at s1 hq1 ⊢
    have hy1 := s1 _ _ hy
    tm_at "go"
    refine r_get hy1 T.clN T.nL rfl ?_
    tm_at "go"
    refine r_get hy1 T.clN T.nS rfl ?_
    tm_at "go"
    refine r_get hy1 T.clN T.nP rfl ?_
    tm_at "go"
    refine r_get hy1 T.clN T.nR rfl ?_
    tm_at "go"
    refine ⟨szl rfl, fun t2 ht2 => ?_⟩
    have s2 : Same H1 (upd H1 t2 (.tup [.ref b1, .int (s' : Int), .int (p' : Int), .ref b2])) := same_new ht2
    have hq2 : (upd H1 t2 (.tup [.ref b1, .int (s' : Int), .int (p' : Int), .ref b2])) t2 = some (.tup [.ref b1, .int (s' : Int), .int (p' : Int), .ref b2]) := upd_same
    generalize upd H1 t2 (.tup [.ref b1, .int (s' : Int), .int (p' : Int), .ref b2]) = H2 at s2 hq2 ⊢
    have sA := s1.trans s2
    have dN : ∀ {a : Addr} {l : List Nat}, H a = some (.tup (natV l)) → Dp K H2 (.ref a) (.tuple (natD l)) := fun h => .tup (SqT.of (sA _ _ h)) (dp_nats _)
    tm_at "go"
    refine r_eqD (d := formD L sc p R) (e := formD L' s' p' R') (.tup (SqT.of (s2 _ _ hq1)) (.cons (dN ha1) (.cons (.int _) (.cons (.int _) (.cons (dN ha2) .nil)))))
      (.tup (SqT.of hq2) (.cons (dN hb1) (.cons (.int _) (.cons (.int _) (.cons (dN hb2) .nil))))) (sp_form ..) (sp_form ..) ?_
    rw [eqv_form]
    exact k _ sA
end
/-! ### a drawn form of a set -/
def Asc (l : List Nat) (a b : Nat) : Prop := l.Pairwise (· < ·) ∧ ∀ n ∈ l, a ≤ n ∧ n < b
theorem Asc.nil (a b : Nat) : Asc [] a b := ⟨.nil, fun n h => nomatch h⟩
theorem Asc.snoc {l : List Nat} {a b n : Nat} (h : Asc l a b) (h1 : a ≤ n) (h2 : b ≤ n) : Asc (l ++ [n]) a (n + 1) := by
  refine ⟨?_, fun m hm => ?_⟩
  · rw [List.pairwise_append]
    refine ⟨h.1, by simp, fun x hx y hy => ?_⟩
    rw [List.mem_singleton.mp hy]
    have := (h.2 x hx).2
    omega
  · rcases List.mem_append.mp hm with hm | hm
    · have := h.2 m hm
      omega
    · rw [List.mem_singleton.mp hm]
      omega
theorem Asc.up {l : List Nat} {a b c : Nat} (h : Asc l a b) (e : b ≤ c) : Asc l a c := ⟨h.1, fun n hn => by have := h.2 n hn; omega⟩
theorem Asc.len' : ∀ {l : List Nat} {a b : Nat}, Asc l a b → l.length ≤ b - a
  | [], _, _, _ => Nat.zero_le _
  | x :: l, a, b, h => by
    have h1 := List.pairwise_cons.mp h.1
    have hx := h.2 x (List.mem_cons_self ..)
    have := Asc.len' (l := l) (a := x + 1) (b := b) ⟨h1.2, fun n hn => ⟨h1.1 n hn, (h.2 n (List.mem_cons_of_mem _ hn)).2⟩⟩
    rw [List.length_cons]
    omega
theorem Asc.len {l : List Nat} {a b : Nat} (h : Asc l a b) : l.length ≤ b := Nat.le_trans h.len' (Nat.sub_le ..)
def spSome (K : PySem.W.Frag) : Sp := fun vs H Q _ => ∃ (b : Addr) (m : Nat), vs = [.ref b, .int (m : Int)] ∧ BoxAt H b ∧ 1 ≤ m ∧ m ≤ 1000 ∧
  ∀ (t l1 l2 : Addr) (L R : List Nat) (s p : Nat) (H' : Hp), Bx b H H' → H t = none → H l1 = none → H l2 = none → H' t = some (.tup [.ref l1, .int (s : Int), .int (p : Int), .ref l2]) → H' l1 = some (.lst (natV L)) → H' l2 = some (.lst (natV R)) →
    1 ≤ s → s ≤ m → 1 ≤ p → p ≤ m → Asc L 1 s → Asc R 0 p → Q (.ref t) H'
section
variable {K : PySem.W.Frag}
theorem ok_law_some (F : DefAt K mg "_law_some" s_law_some) (T : Txt K mg aGround aNum aInv aIT aRd) (D_law_take : DefOk P w K mg base CX0 1 "_law_take" ["_law_box_here", "_law_many"] spTake)
    (D_law_pick : DefOk P w K mg base CX0 2 "_law_pick" ["_law_box_here", "_law_items"] (spPick K)) : DefOk P w K mg base CX0 3 "_law_some" ["_law_box_here", "_law_most"] (spSome K) := by
  refine F.ok sc_law_some (fun _ _ _ _ _ _ us hl => match us, hl with | [_, _], _ => rfl) (fun vs H Q E h => ?_) (fun f cdv A outer s H vs Q E hr h => ?_)
  · obtain ⟨b, m, rfl, _⟩ := h
    rfl
  · obtain ⟨b, m, rfl, hb, m1, m2, k⟩ := h
    refine ⟨_, (pss_cons (ps_asg (pe_tup (pa_cons (pe_op (o_add K) pe_int (pe_callD D_law_take (hr.mono (by decide)) pass0 rfl (pa_cons (pv 0) (pa_cons (pv 1) pa_nil)))) (pa_cons (pe_op (o_add K) pe_int (pe_callD D_law_take (hr.mono (by decide)) pass0 rfl (pa_cons (pv 0) (pa_cons (pv 1) pa_nil)))) pa_nil))) (pg_t (n := 2) K rfl (pgs_cons (pg_name (i := 5) sc_law_some.nd rfl (Or.inl rfl)) (pgs_cons (pg_name (i := 6) sc_law_some.nd rfl (Or.inr rfl)) pgs_nil))))
  (pss_cons (ps_setLc (i := 2) rfl sc_law_some.nd rfl rfl (sw_true rfl rfl rfl (by decide +kernel)) (own := [("_law_number_here", 9)]) (g := (gName 9)) (pi_range2 (by rfl) T.n_range (pa_cons pe_int (pa_cons (pv 5) pa_nil))) (blkOk_by (own := [("_law_number_here", 9)]) (N := ["_law_box_here", "_law_most", "_law_ones", "_law_form", "_law_rests", "_law_since", "_law_period", "_law_small", "_law_size", "_law_number_here", "_law_rest"]) (sc := defScope s_law_some) (by decide +kernel)) (fun _ _ _ _ _ => (pg_name (i := 9) sc_law_some.nd rfl (Or.inl rfl) (Or.inr rfl))) (fun _ _ _ _ _ => (pts_one (pt_cmpR (o_eq K hr.units) (pe_callD D_law_take (hr.mono (by decide)) pass0 rfl (pa_cons (pv 0) (pa_cons pe_int pa_nil))) pe_int (nomark _)))) (fun _ _ _ _ _ => (pv 9)))
  (pss_cons (ps_set (i := 3) sc_law_some.nd rfl (Or.inl rfl) (pe_callD D_law_take (hr.mono (by decide)) pass0 rfl (pa_cons (pv 0) (pa_cons pe_int pa_nil))))
  (pss_cut (ps_set (i := 4) sc_law_some.nd rfl (Or.inl rfl) (pe_ifExp (pt_cmpR (o_eq K hr.units) (pv 3) pe_int (nomark _)) (pe_lst pa_nil) (pe_lc (own := [("_law_rest", 10)]) (g := (gName 10)) rfl sc_law_some.nd (pi_range1 (by rfl) T.n_range (pa_cons (pv 6) pa_nil)) (blkOk_by (own := [("_law_rest", 10)]) (N := ["_law_box_here", "_law_most", "_law_ones", "_law_form", "_law_rests", "_law_since", "_law_period", "_law_small", "_law_size", "_law_number_here", "_law_rest"]) (sc := defScope s_law_some) (by decide +kernel)) (fun _ _ _ _ _ => (pg_name (i := 10) sc_law_some.nd rfl (Or.inl rfl) (Or.inr rfl))) (fun _ _ _ _ _ => (pts_one (pt_cmpR o_gt (pe_callD D_law_take (hr.mono (by decide)) pass0 rfl (pa_cons (pv 0) (pa_cons pe_int pa_nil))) pe_int (nomark _)))) (fun _ _ _ _ _ => (pv 10)))))
  (pss_cut (ps_if (pt_cmpR (o_eq K hr.units) (pv 3) pe_int (nomark _)) (pss_cons (ps_setLc (i := 7) rfl sc_law_some.nd rfl rfl (sw_true rfl rfl rfl (by decide +kernel)) (own := [("_law_size", 8)]) (g := (gName 8)) (pi_range2 (by rfl) T.n_range (pa_cons pe_int (pa_cons (pe_op (o_add K) (pv 6) pe_int) pa_nil))) (blkOk_by (own := [("_law_size", 8)]) (N := ["_law_box_here", "_law_most", "_law_ones", "_law_form", "_law_rests", "_law_since", "_law_period", "_law_small", "_law_size", "_law_number_here", "_law_rest"]) (sc := defScope s_law_some) (by decide +kernel)) (fun _ _ _ _ _ => (pg_name (i := 8) sc_law_some.nd rfl (Or.inl rfl) (Or.inr rfl))) (fun _ _ _ _ _ => (pts_one (pt_cmpR (o_eq K hr.units) (pe_op o_mod (pv 6) (pv 8)) pe_int (nomark _)))) (fun _ _ _ _ _ => (pv 8)))
  (pss_cons (ps_set (i := 8) sc_law_some.nd rfl (Or.inr rfl) (pe_callD D_law_pick (hr.mono (by decide)) pass0 rfl (pa_cons (pv 0) (pa_cons (pv 7) pa_nil))))
  (pss_one (ps_setLc (i := 4) rfl sc_law_some.nd rfl rfl (sw_true rfl rfl rfl (by decide +kernel)) (own := [("_law_rest", 10)]) (g := (gName 10)) (pi_range1 (by rfl) T.n_range (pa_cons (pv 6) pa_nil)) (blkOk_by (own := [("_law_rest", 10)]) (N := ["_law_box_here", "_law_most", "_law_ones", "_law_form", "_law_rests", "_law_since", "_law_period", "_law_small", "_law_size", "_law_number_here", "_law_rest"]) (sc := defScope s_law_some) (by decide +kernel)) (fun _ _ _ _ _ => (pg_name (i := 10) sc_law_some.nd rfl (Or.inl rfl) (Or.inr rfl))) (fun _ _ _ _ _ => (pts_one (pt_cmpR (o_eq K hr.units) (pe_op o_mod (pv 10) (pv 8)) pe_int (nomark _)))) (fun _ _ _ _ _ => (pv 10))))))
  pss_nil)
  (pss_one (ps_ret (pe_tup (pa_cons (pv 2) (pa_cons (pv 5) (pa_cons (pv 6) (pa_cons (pv 4) pa_nil)))))))))))), ?_⟩
    tm_at "go"
    refine r_take hb (by omega) (by omega) fun d1 H1 d10 d11 hx1 => ?_
    tm_at "go"
    refine r_take hx1.box (by omega) (by omega) fun d2 H2 d20 d21 hx2 => ?_
    obtain ⟨sc, hsc⟩ : ∃ n : Nat, 1 + d1 = (n : Int) := ⟨(1 + d1).toNat, by omega⟩
    obtain ⟨pp, hpp⟩ : ∃ n : Nat, 1 + d2 = (n : Int) := ⟨(1 + d2).toNat, by omega⟩
    tm_at "go"
    rw [hsc, hpp]
    refine ⟨szl rfl, fun pt hpt => ?_⟩
    have c1 : 1 ≤ sc ∧ sc ≤ m := by omega
    have c2 : 1 ≤ pp ∧ pp ≤ m := by omega
    have hx12 := (hx1.trans hx2).upd (o := .tup [.int (sc : Int), .int (pp : Int)]) hpt
    have hpt2 : (upd H2 pt (.tup [.int (sc : Int), .int (pp : Int)])) pt = some (.tup [.int (sc : Int), .int (pp : Int)]) := upd_same
    clear hx1 hx2 hpt
    generalize upd H2 pt (.tup [.int (sc : Int), .int (pp : Int)]) = G2 at hx12 hpt2 ⊢
    refine r_gT (SqT.of hpt2) rfl ?_
    tm_at "go"
    refine ⟨1, sc, rfl, ⟨by decide, by decide, by omega, by omega⟩, fun D hD => ?_⟩
    have nDb : D ≠ b := Ne.symm (hx12.box.fresh hD)
    rw [show ((sc : Int) - 1).toNat = sc - 1 by omega]
    refine lc_range (fun i H' => Bx b G2 H' ∧ ∃ L, Asc L 1 (1 + i) ∧ H' D = some (.lst (natV L))) ⟨(Bx.refl hx12.box).upd hD, [], Asc.nil _ _, upd_same⟩ ?_ ?_
    · rintro i H3 hi ⟨hx3, L, hL, hl3⟩
      tm_at "go"
      refine ⟨rfl, ?_⟩
      tm_at "go"
      refine r_take hx3.box (by decide) (by decide) fun d H4 _ _ hx4 => ?_
      have hl4 := hx4.keep _ _ nDb hl3
      tm_at "go"
      refine r_eq rfl ?_
      tm_at "go"
      refine r_ite (fun _ => ?_) (fun _ => ?_)
      · tm_at "go"
        refine ⟨_, hl4, szlt (by rw [List.length_map]; exact Nat.ble_eq_true_of_le (Nat.le_trans hL.len (by omega))), (hx3.trans hx4).updD hD nDb, L ++ [1 + i], ?_, ?_⟩
        · exact Asc.snoc hL (by omega) (Nat.le_refl _)
        · rw [upd_same, natV_app]
          have e : (1 : Int) + (i : Int) = ((1 + i : Nat) : Int) := by omega
          rw [e]
          rfl
      · exact ⟨hx3.trans hx4, L, hL.up (by omega), hl4⟩
    · rintro H3 ⟨hx3, L, hL, hl3⟩
      have hL : Asc L 1 sc := hL.up (by omega)
      tm_at "go"
      have hxD := hx12.trans hx3
      have hD0 : H D = Option.none := hx12.free hD
      have nbD : D ≠ b := nDb
      clear hD hx12 hx3 hpt2
      refine r_take hxD.box (by decide) (by decide) fun d4 H4 _ _ hx4 => ?_
      have hl4 := hx4.keep _ _ nDb hl3
      have hxE := hxD.trans hx4
      clear hxD hx4 hl3
      tm_at "go"
      let P1 : St → Hp → Prop := fun σ' H' => (∃ (l2 : Addr) (R : List Nat), (∃ o7 o8 o9 o10 : Option V, σ' = [some (.ref b), some (.int (m : Int)), some (.ref D), some (.int d4), some (.ref l2), some (.int (sc : Int)), some (.int (pp : Int)), o7, o8, o9, o10]) ∧
        Bx b H H' ∧ H' D = some (.lst (natV L)) ∧ H' l2 = some (.lst (natV R)) ∧ H l2 = Option.none ∧ Asc R 0 pp)
      refine r_cut P1 ?_ ?_
      · tm_at "go"
        refine r_eq rfl ?_
        tm_at "go"
        refine r_ite (fun _ => ?_) (fun _ => ?_)
        · tm_at "go"
          refine ⟨szl rfl, fun l2 hl2 => ?_⟩
          tm_at "go"
          exact ⟨l2, [], ⟨_, _, _, _, rfl⟩, hxE.upd hl2, at_upd (ne_of_none hl4 hl2) hl4, upd_same, hxE.free hl2, Asc.nil _ _⟩
        · tm_at "go"
          refine ⟨_, rfl, by omega, by omega, fun D2 hD2 => ?_⟩
          have nD2b : D2 ≠ b := Ne.symm (hxE.box.fresh hD2)
          have nDD2 : D ≠ D2 := ne_of_none hl4 hD2
          have hD20 : H D2 = Option.none := hxE.free hD2
          rw [Int.toNat_natCast]
          refine lc_range (fun i H' => Bx b H H' ∧ H' D = some (.lst (natV L)) ∧ ∃ R, Asc R 0 i ∧ H' D2 = some (.lst (natV R))) ⟨hxE.upd hD2, at_upd nDD2 hl4, [], Asc.nil _ _, upd_same⟩ ?_ ?_
          · rintro i H5 hi ⟨hx5, hlD, R, hR, hlR⟩
            rw [Int.zero_add]
            tm_at "go"
            refine ⟨rfl, ?_⟩
            tm_at "go"
            refine r_take hx5.box (by decide) (by decide) fun d H6 _ _ hx6 => ?_
            have hlR6 := hx6.keep _ _ nD2b hlR
            have hlD6 := hx6.keep _ _ nDb hlD
            tm_at "go"
            refine r_ite (fun _ => ?_) (fun _ => ?_)
            · tm_at "go"
              refine ⟨_, hlR6, szlt (by rw [List.length_map]; exact Nat.ble_eq_true_of_le (Nat.le_trans hR.len (by omega))), (hx5.trans hx6).updD hD20 nD2b, at_upd nDD2 hlD6, R ++ [i], Asc.snoc hR (Nat.zero_le _) (Nat.le_refl _), ?_⟩
              rw [upd_same, natV_app]
              rfl
            · exact ⟨hx5.trans hx6, hlD6, R, hR.up (Nat.le_succ _), hlR6⟩
          · rintro H5 ⟨hx5, hlD, R, hR, hlR⟩
            tm_at "go"
            exact ⟨D2, R, ⟨_, _, _, _, rfl⟩, hx5, hlD, hlR, hD20, hR⟩
      rintro σ H5 ⟨l2, R, ⟨o7, o8, o9, o10, rfl⟩, hx5, hlD, hlR, hl20, hR⟩
      clear hxE hl4
      refine r_cut P1 ?_ ?_
      · tm_at "go"
        refine r_eq rfl ?_
        tm_at "go"
        refine r_ite (fun _ => ?_) (fun _ => ?_)
        · tm_at "go"
          refine ⟨1, _, rfl, ⟨by decide, by decide, by omega, by omega⟩, fun D3 hD3 => ?_⟩
          rw [show ((pp : Int) + 1 - 1).toNat = pp by omega]
          refine lc_range (fun i H' => Bx b H H' ∧ (H' D = some (.lst (natV L)) ∧ H' l2 = some (.lst (natV R))) ∧ ∃ S, Asc S 1 (1 + i) ∧ (1 ≤ i → S ≠ []) ∧ H' D3 = some (.lst (natV S)))
            ⟨hx5.upd hD3, ⟨at_upd (ne_of_none hlD hD3) hlD, at_upd (ne_of_none hlR hD3) hlR⟩, [], Asc.nil _ _, fun z => by omega, upd_same⟩ ?_ ?_
          · rintro i H6 hi ⟨hx6, ⟨hlD6, hlR6⟩, S, hS, hne, hl6⟩
            have e1 : (1 : Int) + (i : Int) = ((1 + i : Nat) : Int) := by omega
            rw [e1]
            tm_at "go"
            refine ⟨rfl, ?_⟩
            tm_at "go"
            refine r_mod (by omega) ?_
            tm_at "go"
            refine r_eq rfl ?_
            tm_at "go"
            refine r_ite (fun _ => ?_) (fun hc => ?_)
            · tm_at "go"
              have nb3 : D3 ≠ b := Ne.symm (hx5.box.fresh hD3)
              have n1 : D ≠ D3 := ne_of_none hlD hD3
              have n2 : l2 ≠ D3 := ne_of_none hlR hD3
              refine ⟨_, hl6, szlt (by rw [List.length_map]; exact Nat.ble_eq_true_of_le (Nat.le_trans hS.len (by omega))), hx6.updD (hx5.free hD3) nb3, ⟨at_upd n1 hlD6, at_upd n2 hlR6⟩, S ++ [1 + i], ?_, fun _ z => by simp at z, ?_⟩
              · exact Asc.snoc hS (by omega) (Nat.le_refl _)
              · rw [upd_same, natV_app]
                rfl
            · refine ⟨hx6, ⟨hlD6, hlR6⟩, S, hS.up (by omega), fun hi1 => ?_, hl6⟩
              by_cases z : i = 0
              · subst z
                exact absurd hc (by simp)
              · exact hne (by omega)
          · rintro H6 ⟨hx6, ⟨hlD6, hlR6⟩, S, hS, hne, hl6⟩
            have nb3 : D3 ≠ b := Ne.symm (hx5.box.fresh hD3)
            have hne := hne c2.1
            tm_at "go"
            refine ⟨b, D3, natV S, rfl, hx6.box, .inl (SqL.of hl6), nb3, ?_, ?_, fun v H7 hv hx7 => ?_⟩
            · rw [List.length_map]
              exact List.length_pos_iff.mpr hne
            · rw [List.length_map]
              have := hS.len
              omega
            obtain ⟨n, hn, rfl⟩ : ∃ n, n ∈ S ∧ v = .int ((n : Nat) : Int) := by
              obtain ⟨n, h1, h2⟩ := List.mem_map.mp hv
              exact ⟨n, h1, h2.symm⟩
            have n1 := (hS.2 n hn).1
            have hlD7 := hx7.keep _ _ nbD hlD6
            have hx67 := hx6.trans hx7
            tm_at "go"
            refine ⟨_, rfl, by omega, by omega, fun D4 hD4 => ?_⟩
            have nb4 : D4 ≠ b := Ne.symm (hx67.box.fresh hD4)
            have nDD4 : D ≠ D4 := ne_of_none hlD7 hD4
            have hD40 : H D4 = Option.none := hx67.free hD4
            rw [Int.toNat_natCast]
            refine lc_range (fun i H' => Bx b H H' ∧ H' D = some (.lst (natV L)) ∧ ∃ R, Asc R 0 i ∧ H' D4 = some (.lst (natV R))) ⟨hx67.upd hD4, at_upd nDD4 hlD7, [], Asc.nil _ _, upd_same⟩ ?_ ?_
            · rintro i H8 hi ⟨hx8, hlD8, R8, hR8, hlR8⟩
              rw [Int.zero_add]
              tm_at "go"
              refine ⟨rfl, ?_⟩
              tm_at "go"
              refine r_mod (by omega) ?_
              tm_at "go"
              refine r_eq rfl ?_
              tm_at "go"
              refine r_ite (fun _ => ?_) (fun _ => ?_)
              · tm_at "go"
                refine ⟨_, hlR8, szlt (by rw [List.length_map]; exact Nat.ble_eq_true_of_le (Nat.le_trans hR8.len (by omega))), hx8.updD hD40 nb4, at_upd nDD4 hlD8, R8 ++ [i], Asc.snoc hR8 (Nat.zero_le _) (Nat.le_refl _), ?_⟩
                rw [upd_same, natV_app]
                rfl
              · exact ⟨hx8, hlD8, R8, hR8.up (Nat.le_succ _), hlR8⟩
            · rintro H8 ⟨hx8, hlD8, R8, hR8, hlR8⟩
              tm_at "go"
              exact ⟨D4, R8, ⟨_, _, _, _, rfl⟩, hx8, hlD8, hlR8, hD40, hR8⟩
        · tm_at "go"
          exact ⟨l2, R, ⟨_, _, _, _, rfl⟩, hx5, hlD, hlR, hl20, hR⟩
      rintro σ H6 ⟨l3, R3, ⟨o7, o8, o9, o10, rfl⟩, hx6, hlD6, hlR6, hl30, hR3⟩
      tm_at "go"
      refine ⟨szl rfl, fun t ht => ?_⟩
      exact k t D l3 L R3 sc pp _ (hx6.upd ht) (hx6.free ht) hD0 hl30 upd_same (at_upd (ne_of_none hlD6 ht) hlD6) (at_upd (ne_of_none hlR6 ht) hlR6) c1.1 c1.2 c2.1 c2.2 hL hR3
end
/-! ### the least form is one alone -/
structure FormN (L : List Nat) (s p : Nat) (R : List Nat) : Prop where
  s1 : 1 ≤ s
  p1 : 1 ≤ p
  aL : Asc L 1 s
  aR : Asc R 0 p
  per : ∀ t, 1 ≤ t → t < p → p % t = 0 → ¬ ∀ r, r < p → R.contains r = R.contains (r % t)
  last : s = 1 ∨ L.contains (s - 1) ≠ R.contains ((s - 1) % p)
theorem con_iff {l : List Nat} {n : Nat} : l.contains n = true ↔ n ∈ l := List.contains_iff_mem
theorem con_eq {l m : List Nat} (h : ∀ n, n ∈ l ↔ n ∈ m) (n : Nat) : l.contains n = m.contains n := by
  rw [Bool.eq_iff_iff, con_iff, con_iff]
  exact h n
theorem con_no {l : List Nat} {n : Nat} (h : n ∉ l) : l.contains n = false := by
  cases e : l.contains n with
  | false => rfl
  | true => exact absurd (con_iff.mp e) h
theorem Asc.nodup {l : List Nat} {a b : Nat} (h : Asc l a b) : l.Nodup := h.1.imp fun h => Nat.ne_of_lt h
theorem Asc.ext {l m : List Nat} {a b c d : Nat} (h : Asc l a b) (g : Asc m c d) (e : ∀ n, n ∈ l ↔ n ∈ m) : l = m := by
  refine List.Perm.eq_of_pairwise (le := (· ≤ ·)) (fun a b _ _ h1 h2 => Nat.le_antisymm h1 h2) (h.1.imp fun h => Nat.le_of_lt h) (g.1.imp fun h => Nat.le_of_lt h) ((List.perm_ext_iff_of_nodup h.nodup g.nodup).mpr e)
theorem asc_filter (q : Nat → Bool) (a b : Nat) (h : ∀ n, n < b → q n = true → a ≤ n) : Asc ((List.range b).filter q) a b := by
  refine ⟨List.Pairwise.filter _ List.pairwise_lt_range, fun n hn => ?_⟩
  rw [List.mem_filter, List.mem_range] at hn
  exact ⟨h n hn.1 hn.2, hn.1⟩
theorem Asc.eq_filter {l : List Nat} {a b : Nat} (h : Asc l a b) : (List.range b).filter (fun n => l.contains n) = l := by
  refine (asc_filter _ a b (fun n _ z => (h.2 n (con_iff.mp z)).1)).ext h fun n => ?_
  rw [List.mem_filter, List.mem_range, con_iff]
  exact ⟨fun z => z.2, fun z => ⟨(h.2 n z).2, z⟩⟩
theorem hasN_congr {L L' R R' : List Nat} (hL : ∀ n, n ∈ L ↔ n ∈ L') (hR : ∀ n, n ∈ R ↔ n ∈ R') (s p n : Nat) : hasN L s p R n = hasN L' s p R' n := by
  unfold hasN
  rw [con_eq hL, con_eq hR]
theorem mod_mod_of {p q n : Nat} (h : q % p = 0) : n % q % p = n % p := Nat.mod_mod_of_dvd n (Nat.dvd_of_mod_eq_zero h)
theorem bad_nil {p s : Nat} {R : List Nat} : badOf p s R = [] ↔ ∀ r, r < p → (shortOf s R).contains (r % s) = R.contains r := by
  unfold badOf
  rw [List.filter_eq_nil_iff]
  constructor
  · intro h r hr
    have := h r (List.mem_range.mpr hr)
    simpa using this
  · intro h r hr
    rw [h r (List.mem_range.mp hr)]
    simp
theorem FormN.of {L0 R0 : List Nat} {s0 p0 s p : Nat} (hL : ∀ n ∈ L0, 1 ≤ n ∧ n < s0) (hR : ∀ r ∈ R0, r < p0) (lp : LeastP p0 R0 p) (ls : LeastS L0 p (shortOf p R0) s0 s) :
    FormN (listedOf L0 s) s p (shortOf p R0) ∧ s ≤ s0 ∧ p0 % p = 0 ∧ ∀ n, 1 ≤ n → hasN (listedOf L0 s) s p (shortOf p R0) n = hasN L0 s0 p0 R0 n := by
  have hp := lp.pos
  have ok := bad_nil.mp lp.ok
  have lc : ∀ n, n < s → (listedOf L0 s).contains n = L0.contains n := fun n hn => by
    unfold listedOf
    rw [Bool.eq_iff_iff, con_iff, con_iff, List.mem_filter, List.mem_range, con_iff]
    exact ⟨fun z => z.2, fun z => ⟨hn, z⟩⟩
  refine ⟨⟨ls.pos, hp, ?_, ?_, ?_, ?_⟩, ls.le, lp.dvd, ?_⟩
  · exact asc_filter _ _ _ fun n _ z => (hL n (con_iff.mp z)).1
  · exact asc_filter _ _ _ fun n _ _ => Nat.zero_le _
  · intro t t1 t2 td hall
    have hd : p0 % t = 0 := by
      obtain ⟨a, ha⟩ := Nat.dvd_of_mod_eq_zero lp.dvd
      obtain ⟨c, hc⟩ := Nat.dvd_of_mod_eq_zero td
      rw [ha, hc, Nat.mul_assoc]
      exact Nat.mul_mod_right _ _
    refine lp.least t t1 t2 hd (bad_nil.mpr fun r hr => ?_)
    have e1 := ok r hr
    have hrp : r % p < p := Nat.mod_lt _ hp
    have e2 := hall (r % p) hrp
    rw [e1, mod_mod_of td] at e2
    have hrt : r % t < t := Nat.mod_lt _ t1
    rw [short_has (Nat.lt_trans hrt t2)] at e2
    rw [short_has hrt, e2]
  · rcases ls.last with h | h
    · exact .inl h
    · by_cases h1 : s = 1
      · exact .inl h1
      · refine .inr ?_
        have := ls.pos
        rw [lc _ (by omega)]
        exact h
  · intro n hn
    unfold hasN
    by_cases h1 : n < s
    · rw [if_pos h1, if_pos (Nat.lt_of_lt_of_le h1 ls.le), lc n h1]
    · rw [if_neg h1]
      by_cases h2 : n < s0
      · rw [if_pos h2, ls.same n (by omega) h2]
      · have hp0 : 0 < p0 := Nat.lt_of_lt_of_le hp lp.le
        rw [if_neg h2, ← ok _ (Nat.mod_lt _ hp0), mod_mod_of lp.dvd]
theorem period_gcd (f : Nat → Bool) : ∀ a b : Nat, (∀ n, f (n + a) = f n) → (∀ n, f (n + b) = f n) → ∀ n, f (n + Nat.gcd a b) = f n := by
  intro a b
  induction a, b using Nat.gcd.induction with
  | H0 n => intro _ h; rw [Nat.gcd_zero_left]; exact h
  | H1 m n hm ih =>
    intro h1 h2
    rw [Nat.gcd_rec]
    refine ih (fun k => ?_) h1
    have mul : ∀ c k, f (k + m * c) = f k := fun c => by
      induction c with
      | zero => intro k; rfl
      | succ c ihc => intro k; rw [Nat.mul_succ, ← Nat.add_assoc, h1, ihc]
    have e := h2 k
    rw [← Nat.mod_add_div n m, ← Nat.add_assoc, mul] at e
    exact e
theorem per_mul {f : Nat → Bool} {p : Nat} (h : ∀ n, f (n + p) = f n) (c : Nat) : ∀ k, f (k + p * c) = f k := by
  induction c with
  | zero => intro k; rfl
  | succ c ih => intro k; rw [Nat.mul_succ, ← Nat.add_assoc, h, ih]
theorem per_mod {f : Nat → Bool} {p : Nat} (h : ∀ n, f (n + p) = f n) (k : Nat) : f (k % p) = f k := by
  have e := per_mul h (k / p) (k % p)
  rw [Nat.mod_add_div] at e
  exact e.symm
theorem FormN.tail {L R : List Nat} {s p n : Nat} (h : s ≤ n) : hasN L s p R n = R.contains (n % p) := by
  unfold hasN
  rw [if_neg (Nat.not_lt.mpr h)]
theorem FormN.head {L R : List Nat} {s p n : Nat} (h : n < s) : hasN L s p R n = L.contains n := by
  unfold hasN
  rw [if_pos h]
theorem FormN.gcd_ge {L R : List Nat} {s p q : Nat} (F : FormN L s p R) (hq : ∀ n, R.contains ((n + q) % p) = R.contains (n % p)) : p ∣ q := by
  have hp : ∀ n, R.contains ((n + p) % p) = R.contains (n % p) := fun n => by rw [Nat.add_mod_right]
  have hg := period_gcd (fun n => R.contains (n % p)) p q hp hq
  have g1 : 1 ≤ Nat.gcd p q := Nat.gcd_pos_of_pos_left _ F.p1
  have gd : Nat.gcd p q ∣ p := Nat.gcd_dvd_left ..
  by_cases e : Nat.gcd p q = p
  · rw [← e]
    exact Nat.gcd_dvd_right ..
  · have gl : Nat.gcd p q < p := Nat.lt_of_le_of_ne (Nat.le_of_dvd F.p1 gd) e
    refine absurd (fun r hr => ?_) (F.per _ g1 gl (Nat.mod_eq_zero_of_dvd gd))
    have z := per_mod (f := fun n => R.contains (n % p)) hg r
    have h1 : r % Nat.gcd p q < p := Nat.lt_trans (Nat.mod_lt _ g1) gl
    have z : R.contains (r % Nat.gcd p q % p) = R.contains (r % p) := z
    rw [Nat.mod_eq_of_lt h1, Nat.mod_eq_of_lt hr] at z
    exact z.symm
theorem FormN.last_le {L R L' R' : List Nat} {s p s' p' : Nat} (F' : FormN L' s' p' R') (s1 : 1 ≤ s) (h : ∀ n, 1 ≤ n → hasN L s p R n = hasN L' s' p' R' n) (tl : ∀ n, R.contains (n % p) = R'.contains (n % p')) : s' ≤ s := by
  refine Nat.le_of_not_lt fun hlt => ?_
  rcases F'.last with e | e
  · omega
  · have z := h (s' - 1) (by omega)
    rw [FormN.tail (by omega), FormN.head (by omega)] at z
    exact e (z.symm.trans (tl _))
theorem FormN.uniq {L R L' R' : List Nat} {s p s' p' : Nat} (F : FormN L s p R) (F' : FormN L' s' p' R') (h : ∀ n, 1 ≤ n → hasN L s p R n = hasN L' s' p' R' n) : L = L' ∧ s = s' ∧ p = p' ∧ R = R' := by
  have tl : ∀ n, R.contains (n % p) = R'.contains (n % p') := fun n => by
    have e1 : R.contains ((n + p * (p' * (s + s'))) % p) = R.contains (n % p) := by rw [Nat.add_mul_mod_self_left]
    have e2 : R'.contains ((n + p * (p' * (s + s'))) % p') = R'.contains (n % p') := by
      rw [show p * (p' * (s + s')) = p' * (p * (s + s')) by rw [← Nat.mul_assoc, Nat.mul_comm p p', Nat.mul_assoc], Nat.add_mul_mod_self_left]
    have big : s + s' ≤ n + p * (p' * (s + s')) := by
      have b1 : s + s' ≤ p' * (s + s') := Nat.le_mul_of_pos_left _ F'.p1
      have b2 : p' * (s + s') ≤ p * (p' * (s + s')) := Nat.le_mul_of_pos_left _ F.p1
      omega
    have z := h (n + p * (p' * (s + s'))) (by have := F.s1; omega)
    rw [FormN.tail (by omega), FormN.tail (by omega)] at z
    rw [← e1, ← e2, z]
  have d1 : p ∣ p' := F.gcd_ge fun n => by rw [tl, tl, Nat.add_mod_right]
  have d2 : p' ∣ p := F'.gcd_ge fun n => by rw [← tl, ← tl, Nat.add_mod_right]
  obtain rfl : p = p' := Nat.dvd_antisymm d1 d2
  obtain rfl : s = s' := Nat.le_antisymm (F.last_le F'.s1 (fun n hn => (h n hn).symm) fun n => (tl n).symm) (F'.last_le F.s1 h tl)
  refine ⟨F.aL.ext F'.aL fun n => ?_, rfl, rfl, F.aR.ext F'.aR fun n => ?_⟩
  · have key : 1 ≤ n → n < s → (n ∈ L ↔ n ∈ L') := fun h1 h2 => by
      have z := h n h1
      rw [FormN.head h2, FormN.head h2] at z
      rw [← con_iff, ← con_iff, z]
    exact ⟨fun z => (key (F.aL.2 n z).1 (F.aL.2 n z).2).mp z, fun z => (key (F'.aL.2 n z).1 (F'.aL.2 n z).2).mpr z⟩
  · have key : n < p → (n ∈ R ↔ n ∈ R') := fun h1 => by
      have z := tl n
      rw [Nat.mod_eq_of_lt h1] at z
      rw [← con_iff, ← con_iff, z]
    exact ⟨fun z => (key (F.aR.2 n z).2).mp z, fun z => (key (F'.aR.2 n z).2).mpr z⟩
theorem FormN.self {L R : List Nat} {s p : Nat} (F : FormN L s p R) : (∀ n ∈ L, 1 ≤ n ∧ n < s) ∧ ∀ r ∈ R, r < p := ⟨F.aL.2, fun r hr => (F.aR.2 r hr).2⟩
theorem natV_perm {ys : List V} {L : List Nat} (h : ys.Perm (natV L)) : ∃ M : List Nat, ys = natV M ∧ M.Perm L := by
  refine ⟨ys.map fun v => (intOf v).toNat, ?_, ?_⟩
  · have all : ∀ y ∈ ys, V.int (((intOf y).toNat : Nat) : Int) = y := fun y hy => by
      obtain ⟨n, _, rfl⟩ := List.mem_map.mp (h.mem_iff.mp hy)
      rfl
    rw [natV, List.map_map]
    exact (List.map_congr_left (g := id) all).trans (List.map_id _) |>.symm
  · have z := h.map fun v => (intOf v).toNat
    rw [natV, List.map_map] at z
    have e : L.map ((fun v => (intOf v).toNat) ∘ fun (n : Nat) => V.int (n : Int)) = L := (List.map_congr_left (g := id) fun n _ => rfl).trans (List.map_id _)
    rw [e] at z
    exact z
/-! ### making a set, in short -/
theorem arg_nat {K : PySem.W.Frag} {H : Hp} {l : Addr} {L : List Nat} (h : SqL K H l (natV L) ∨ SqT K H l (natV L)) (z : L.length ≤ 10000) : Arg K H (.ref l) (some (natV L)) :=
  ⟨l, rfl, h, by rw [List.length_map]; exact z, fun y hy => by
    obtain ⟨n, _, rfl⟩ := List.mem_map.mp hy
    exact .int _⟩
theorem all_nat {L : List Nat} {a b : Int} (h : ∀ n ∈ L, a ≤ (n : Int) ∧ (n : Int) ≤ b) : allV (some (natV L)) a b = true := by
  show ((natV L).all fun y => fromV y a b) = true
  rw [List.all_eq_true]
  intro y hy
  obtain ⟨n, hn, rfl⟩ := List.mem_map.mp hy
  have := h n hn
  show (decide (a ≤ (n : Int)) && decide ((n : Int) ≤ b)) = true
  rw [decide_eq_true this.1, decide_eq_true this.2]
  rfl
theorem natV_inj : ∀ {l m : List Nat}, natV l = natV m → l = m
  | [], [], _ => rfl
  | [], _ :: _, h => nomatch h
  | _ :: _, [], h => nomatch h
  | a :: l, b :: m, h => by
    have h1 : V.int ((a : Nat) : Int) = V.int ((b : Nat) : Int) := (List.cons.inj h).1
    have h2 := natV_inj (List.cons.inj h).2
    have h3 : ((a : Nat) : Int) = ((b : Nat) : Int) := V.int.inj h1
    rw [h2, show a = b by omega]
theorem sh_nats {K : PySem.W.Frag} {H : Hp} : ∀ {L : List Nat}, (∀ n ∈ L, n < 10 ^ 38) → Paired (fun v d => Sh K H v d 0 40) (natV L) (natD L)
  | [], _ => .nil
  | n :: L, h => .cons (sh_int (h n (List.mem_cons_self ..))) (sh_nats fun m hm => h m (List.mem_cons_of_mem _ hm))
theorem sh_natsT {K : PySem.W.Frag} {H : Hp} {a : Addr} {L : List Nat} (h : H a = some (.tup (natV L))) (hb : ∀ n ∈ L, n < 10 ^ 38) (z : L.length ≤ 1000) : Sh K H (.ref a) (.tuple (natD L)) 1 50000 :=
  sh_tup (SqT.of h) (sh_nats hb) (by rw [List.length_map]; omega)
theorem r_num {K : PySem.W.Frag} {aNum aInv : Addr} {H : Hp} {Q : Addr → Hp → Prop} {E : XK} {l q : Addr} {L R : List Nat} {s p : Nat} (hl : SqL K H l (natV L) ∨ SqT K H l (natV L)) (hq : SqL K H q (natV R) ∨ SqT K H q (natV R)) (s1 : 1 ≤ s) (s2 : s ≤ 10000) (p1 : 1 ≤ p) (p2 : p ≤ 10000)
    (hL : ∀ n ∈ L, 1 ≤ n ∧ n < s) (hR : ∀ r ∈ R, r < p) (zL : L.length ≤ 10000) (zR : R.length ≤ 10000)
    (k : ∀ (x : Addr) (L' R' : List Nat) (s' p' : Nat) (H' : Hp), FormN L' s' p' R' → s' ≤ s → p % p' = 0 → p' ≤ p → (∀ n, 1 ≤ n → hasN L' s' p' R' n = hasN L s p R n) → Same H H' → H x = none → NumAt aNum H' x L' s' p' R' → Q x H') :
    ∀ x dx, H x = none → H dx = none → dx ≠ x → spNumI K aNum aInv [.ref x, .ref l, .int (s : Int), .int (p : Int), .ref q] (upd (upd H dx (.own x)) x (.ins aNum dx [])) (fun v H2 => v = .non ∧ Q x H2) E := by
  intro x dx hx hdx hne
  have n2 : upd H dx (.own x) x = none := (upd_ne (Ne.symm hne)).trans hx
  have sm : Same H (upd (upd H dx (.own x)) x (.ins aNum dx [])) := Same.new (Same.new Same.refl hdx) n2
  have good : badN (some (natV L)) (.int (s : Int)) (.int (p : Int)) (some (natV R)) = none := by
    unfold badN
    have g1 : geV (.int (s : Int)) 1 = true := decide_eq_true (by omega)
    have g2 : geV (.int (p : Int)) 1 = true := decide_eq_true (by omega)
    have g3 : allV (some (natV L)) 1 (intOf (.int (s : Int)) - 1) = true := all_nat fun n hn => by
      have := hL n hn
      show 1 ≤ (n : Int) ∧ (n : Int) ≤ (s : Int) - 1
      omega
    have g4 : allV (some (natV R)) 0 (intOf (.int (p : Int)) - 1) = true := all_nat fun n hn => by
      have := hR n hn
      show 0 ≤ (n : Int) ∧ (n : Int) ≤ (p : Int) - 1
      omega
    rw [g1, g2, g3, g4]
    rfl
  refine ⟨x, dx, _, _, _, _, some (natV L), some (natV R), rfl, upd_same, arg_nat (hl.imp (Same.seqL sm) (sameT sm)) zL, .int _, .int _, arg_nat (hq.imp (Same.seqL sm) (sameT sm)) zR, fun i e => by cases e; omega, fun i e => by cases e; omega, fun w hw => ?_, fun _ L1 R1 s1' p1' s' p' a1 a2 H' e1 e2 e3 e4 _ _ _ _ lp ls kx hx' ha1 ha2 => ?_⟩
  · rw [good] at hw
    exact nomatch hw
  · obtain rfl := natV_inj (Option.some.inj e1)
    obtain rfl := natV_inj (Option.some.inj e2)
    obtain rfl : s = s1' := by have := V.int.inj e3; omega
    obtain rfl : p = p1' := by have := V.int.inj e4; omega
    obtain ⟨F, z1, z2, z3⟩ := FormN.of hL hR lp ls
    exact ⟨rfl, k x _ _ _ _ _ F z1 z2 lp.le z3 (Same.kx sm kx hx) hx ⟨dx, a1, a2, hx', ha1, ha2⟩⟩
/-! ### the text of a number -/
def numS (n : Nat) : Str := Str.ofString (toString ((n : Nat) : Int))
theorem numS_log {n : Nat} (h : n < 10 ^ 38) : ((n : Nat) : Int).natAbs.log2 < 1920 := by
  have e : ((n : Nat) : Int).natAbs = n := rfl
  rw [e]
  by_cases h0 : n = 0
  · rw [h0]; decide
  · exact (Nat.log2_lt h0).mpr (Nat.lt_trans h (by decide +kernel))
theorem numS_len {n : Nat} (h : n < 10 ^ 38) : (numS n).length ≤ 40 := by
  have e := int_text_length_le10 (k := 38) (a := ((n : Nat) : Int)) (by decide) h
  refine Nat.le_trans ?_ (Nat.le_trans e (by decide))
  exact Nat.le_of_eq (PySem.ofString_length _)
theorem app_len (a b : Str) : (a ++ b).length = a.length + b.length := by
  rw [TL.len_tl, TL.len_tl, TL.len_tl, TL.tl_append, List.length_append]
/-! ### the text of a set -/
def joinS (L : List Nat) : Str := Txt.join " " (L.map numS)
def strN (L : List Nat) (s p : Nat) (R : List Nat) : Str :=
  if joinS R = "" then (if joinS L = "" then "none" else joinS L)
  else if joinS L = "" then Str.empty ++ "from " ++ numS s ++ " by " ++ numS p ++ " : " ++ joinS R
  else Str.empty ++ joinS L ++ " from " ++ numS s ++ " by " ++ numS p ++ " : " ++ joinS R
theorem sum_len {L : List Nat} (h : ∀ n ∈ L, n < 10 ^ 38) : ((L.map numS).map (·.length)).sum ≤ L.length * 40 := by
  induction L with
  | nil => exact Nat.zero_le _
  | cons n L ih =>
    have h1 := ih fun m hm => h m (List.mem_cons_of_mem _ hm)
    have h2 := numS_len (h n (List.mem_cons_self ..))
    simp only [List.map_cons, List.sum_cons, List.length_cons]
    rw [Nat.succ_mul]
    omega
theorem join_len {L : List Nat} (h : ∀ n ∈ L, n < 10 ^ 38) : (joinS L).length ≤ L.length * 41 := by
  unfold joinS
  rw [TL.join_eq]
  induction L with
  | nil => exact Nat.zero_le _
  | cons n L ih =>
    have h1 := ih fun m hm => h m (List.mem_cons_of_mem _ hm)
    have h2 := numS_len (h n (List.mem_cons_self ..))
    cases L with
    | nil =>
      show (numS n).length ≤ 1 * 41
      omega
    | cons m L =>
      show (numS n ++ " " ++ Str.join " " ((m :: L).map numS)).length ≤ _
      rw [app_len, app_len]
      have e : (" " : Str).length = 1 := by decide +kernel
      rw [e]
      rw [List.length_cons, Nat.succ_mul]
      omega
def spStrN (aNum : Addr) : Sp := fun vs H Q _ => ∃ (x : Addr) (L R : List Nat) (s p : Nat), vs = [.ref x] ∧ NumAt aNum H x L s p R ∧ s < 10 ^ 38 ∧ p < 10 ^ 38 ∧ (∀ n ∈ L, n < 10 ^ 38) ∧ (∀ n ∈ R, n < 10 ^ 38) ∧ L.length ≤ 1000 ∧ R.length ≤ 1000 ∧
  ∀ H', Same H H' → Q (.str (strN L s p R)) H'
section
variable {K : PySem.W.Frag}
theorem ok_strN (F : MetAt K aNum "__str__" "Numbers.__str__" s_Numbers__str) (T : Txt K mg aGround aNum aInv aIT aRd) : MetOk P w K mg base CX0 1 aNum "__str__" ["self"] (spStrN aNum) := by
  refine F.ok sc_Numbers__str (fun _ _ _ _ _ _ us hl => match us, hl with | [_], _ => rfl) (fun vs H Q E h => ?_) (fun f cdv A outer s H vs Q E hr h => ?_)
  · obtain ⟨x, L, R, s, p, rfl, _⟩ := h
    rfl
  · obtain ⟨x, L, R, sc, p, rfl, ⟨dx, a1, a2, hx, ha1, ha2⟩, s9, p9, L9, R9, zL, zR, k⟩ := h
    refine ⟨_, (pss_cons (ps_set (i := 1) sc_Numbers__str.nd rfl (Or.inl rfl) (pe_joinK K pe_str (pe_lc (own := [("number", 3)]) (g := (gName 3)) rfl sc_Numbers__str.nd (pi_t K (pe_fl K (pv 0))) (blkOk_by (own := [("number", 3)]) (N := ["self", "first", "last", "number", "rest"]) (sc := defScope s_Numbers__str) (by decide +kernel)) (fun _ _ _ _ _ => (pg_name (i := 3) sc_Numbers__str.nd rfl (Or.inl rfl) (Or.inr rfl))) (fun _ _ _ _ _ => pts_nil) (fun _ _ _ _ _ => (pe_callTy c_str (by rfl) T.n_str (by decide +kernel) (pa_cons (pv 3) pa_nil))))))
  (pss_cons (ps_set (i := 2) sc_Numbers__str.nd rfl (Or.inl rfl) (pe_joinK K pe_str (pe_lc (own := [("rest", 4)]) (g := (gName 4)) rfl sc_Numbers__str.nd (pi_t K (pe_fl K (pv 0))) (blkOk_by (own := [("rest", 4)]) (N := ["self", "first", "last", "number", "rest"]) (sc := defScope s_Numbers__str) (by decide +kernel)) (fun _ _ _ _ _ => (pg_name (i := 4) sc_Numbers__str.nd rfl (Or.inl rfl) (Or.inr rfl))) (fun _ _ _ _ _ => pts_nil) (fun _ _ _ _ _ => (pe_callTy c_str (by rfl) T.n_str (by decide +kernel) (pa_cons (pv 4) pa_nil))))))
  (pss_cons (ps_if (PW.pt (pw_and (pt_cmpR (o_eq K hr.units) (pv 2) pe_str (nomark _)) (pw_and1 (pt_cmpR (o_eq K hr.units) (pv 1) pe_str (nomark _))))) (pss_one (ps_ret pe_str))
  pss_nil)
  (pss_cons (ps_if (pt_cmpR (o_eq K hr.units) (pv 2) pe_str (nomark _)) (pss_one (ps_ret (pe_joined1 (pe_fmt (pv 1)))))
  pss_nil)
  (pss_cons (ps_if (pt_cmpR (o_eq K hr.units) (pv 1) pe_str (nomark _)) (pss_one (ps_ret (pe_fs (.cons pe_str (.cons (pe_fmt (pe_fl K (pv 0))) (.cons pe_str (.cons (pe_fmt (pe_fl K (pv 0))) (.cons pe_str (.cons (pe_fmt (pv 2)) .nil)))))))))
  pss_nil)
  (pss_one (ps_ret (pe_fs (.cons (pe_fmt (pv 1)) (.cons pe_str (.cons (pe_fmt (pe_fl K (pv 0))) (.cons pe_str (.cons (pe_fmt (pe_fl K (pv 0))) (.cons pe_str (.cons (pe_fmt (pv 2)) .nil))))))))))))))), ?_⟩
    have jl := join_len L9
    have jr := join_len R9
    have nl := numS_len s9
    have np := numS_len p9
    tm_at "go"
    refine r_get hx T.clN T.nL rfl ?_
    tm_at "go"
    refine ⟨a1, rfl, ⟨_, SqT.of ha1⟩, fun D hD => ?_⟩
    have lenL : (natV L).length = L.length := List.length_map ..
    have lenR : (natV R).length = R.length := List.length_map ..
    refine lc_it (walk_tup (xs := natV L)) (fun i H' => Same H H' ∧ H' D = some (.lst (((L.take i).map numS).map V.str))) ⟨same_new hD, upd_same⟩ (fun i H' _ p => SqT.of (p.1 _ _ ha1)) ?_ ?_
    · rintro i y H1 H2 hi ⟨sm, hl⟩ ⟨rfl, hy⟩
      obtain ⟨n, hn, rfl⟩ := natV_at hy
      tm_at "go"
      refine ⟨rfl, ?_⟩
      tm_at "go"
      refine r_strI (numS_log (L9 n (List.mem_of_getElem? hn))) ?_
      refine ⟨_, hl, ?_, Same.updF sm hD, ?_⟩
      · rw [List.length_map, List.length_map]
        exact szlt (Nat.ble_eq_true_of_le (Nat.le_trans (List.length_take_le ..) (by omega)))
      · rw [upd_same, take_succ hn, List.map_append, List.map_append]
        rfl
    rintro H1 ⟨sm1, hl1⟩
    rw [lenL, List.take_length] at hl1
    refine r_join (.inl (SqL.of hl1)) (by
      have e : (" " : Str).length = 1 := by decide +kernel
      have := sum_len L9
      rw [e, List.length_map]
      omega) ?_
    have hx1 := sm1 _ _ hx
    have ha2' := sm1 _ _ ha2
    tm_at "go"
    refine r_get hx1 T.clN T.nR rfl ?_
    tm_at "go"
    refine ⟨a2, rfl, ⟨_, SqT.of ha2'⟩, fun D2 hD2 => ?_⟩
    refine lc_it (walk_tup (xs := natV R)) (fun i H' => Same H1 H' ∧ H' D2 = some (.lst (((R.take i).map numS).map V.str))) ⟨same_new hD2, upd_same⟩ (fun i H' _ p => SqT.of (p.1 _ _ ha2')) ?_ ?_
    · rintro i y H2 H3 hi ⟨sm, hl⟩ ⟨rfl, hy⟩
      obtain ⟨n, hn, rfl⟩ := natV_at hy
      tm_at "go"
      refine ⟨rfl, ?_⟩
      tm_at "go"
      refine r_strI (numS_log (R9 n (List.mem_of_getElem? hn))) ?_
      refine ⟨_, hl, ?_, Same.updF sm hD2, ?_⟩
      · rw [List.length_map, List.length_map]
        exact szlt (Nat.ble_eq_true_of_le (Nat.le_trans (List.length_take_le ..) (by omega)))
      · rw [upd_same, take_succ hn, List.map_append, List.map_append]
        rfl
    rintro H2 ⟨sm2, hl2⟩
    rw [lenR, List.take_length] at hl2
    refine r_join (.inl (SqL.of hl2)) (by
      have e : (" " : Str).length = 1 := by decide +kernel
      have := sum_len R9
      rw [e, List.length_map]
      omega) ?_
    have sm := sm1.trans sm2
    have hx2 := sm _ _ hx
    have k := k H2 sm
    unfold strN at k
    rw [show Txt.join " " (L.map numS) = joinS L from rfl, show Txt.join " " (R.map numS) = joinS R from rfl]
    generalize joinS L = fL at k jl ⊢
    generalize joinS R = fR at k jr ⊢
    have dS : ∀ a b : Str, decide (V.str a = V.str b) = decide (a = b) := fun a b => by simp
    have e0 : Str.empty.length = 0 := by decide +kernel
    have e1 : ("from " : Str).length = 5 := by decide +kernel
    have e2 : (" from " : Str).length = 6 := by decide +kernel
    have e3 : (" by " : Str).length = 4 := by decide +kernel
    have e4 : (" : " : Str).length = 3 := by decide +kernel
    have lf : ∀ {n : Nat}, n ≤ 100000 → n ≤ sizeLine := fun h => sz h
    tm_at "go"
    refine r_eq rfl ?_
    rw [dS]
    tm_at "go"
    have tail1 : fR ≠ "" → fL = "" → Q (.str (Str.empty ++ "from " ++ numS sc ++ " by " ++ numS p ++ " : " ++ fR)) H2 := fun h1 h2 => by rw [if_neg h1, if_pos h2] at k; exact k
    have tail2 : fR ≠ "" → fL ≠ "" → Q (.str (Str.empty ++ fL ++ " from " ++ numS sc ++ " by " ++ numS p ++ " : " ++ fR)) H2 := fun h1 h2 => by rw [if_neg h1, if_neg h2] at k; exact k
    refine r_id (fun c1 => ?_) (fun c1 => ?_)
    · rw [if_pos c1] at k
      tm_at "go"
      refine r_eq rfl ?_
      rw [dS]
      tm_at "go"
      refine r_id (fun c2 => ?_) (fun c2 => ?_)
      · rw [if_pos c2] at k
        tm_at "go"
        exact k
      · rw [if_neg c2] at k
        tm_at "go"
        refine r_eq rfl ?_
        rw [dS]
        tm_at "go"
        refine r_Td c1 ?_
        tm_at "go"
        exact r_fmS (lf (by omega)) k
    · clear k
      tm_at "go"
      refine r_eq rfl ?_
      rw [dS]
      tm_at "go"
      refine r_Fd c1 ?_
      tm_at "go"
      refine r_eq rfl ?_
      rw [dS]
      tm_at "go"
      refine r_id (fun c2 => ?_) (fun c2 => ?_)
      · tm_at "go"
        refine r_jy (lf (by simp only [app_len, e0, e1, e2, e3, e4]; omega)) ?_
        tm_at "go"
        refine r_get hx2 T.clN T.nS rfl ?_
        refine r_fmI (numS_log s9) ?_
        refine r_jy (y := numS sc) (lf (by simp only [app_len, e0, e1, e2, e3, e4]; omega)) ?_
        tm_at "go"
        refine r_jy (lf (by simp only [app_len, e0, e1, e2, e3, e4]; omega)) ?_
        tm_at "go"
        refine r_get hx2 T.clN T.nP rfl ?_
        refine r_fmI (numS_log p9) ?_
        refine r_jy (y := numS p) (lf (by simp only [app_len, e0, e1, e2, e3, e4]; omega)) ?_
        tm_at "go"
        refine r_jy (lf (by simp only [app_len, e0, e1, e2, e3, e4]; omega)) ?_
        tm_at "go"
        refine r_fmS (lf (by omega)) ?_
        refine r_jy (lf (by simp only [app_len, e0, e1, e2, e3, e4]; omega)) ?_
        tm_at "go"
        exact tail1 c1 c2
      · tm_at "go"
        refine r_fmS (lf (by omega)) ?_
        refine r_jy (lf (by simp only [app_len, e0, e1, e2, e3, e4]; omega)) ?_
        tm_at "go"
        refine r_jy (lf (by simp only [app_len, e0, e1, e2, e3, e4]; omega)) ?_
        tm_at "go"
        refine r_get hx2 T.clN T.nS rfl ?_
        refine r_fmI (numS_log s9) ?_
        refine r_jy (y := numS sc) (lf (by simp only [app_len, e0, e1, e2, e3, e4]; omega)) ?_
        tm_at "go"
        refine r_jy (lf (by simp only [app_len, e0, e1, e2, e3, e4]; omega)) ?_
        tm_at "go"
        refine r_get hx2 T.clN T.nP rfl ?_
        refine r_fmI (numS_log p9) ?_
        refine r_jy (y := numS p) (lf (by simp only [app_len, e0, e1, e2, e3, e4]; omega)) ?_
        tm_at "go"
        refine r_jy (lf (by simp only [app_len, e0, e1, e2, e3, e4]; omega)) ?_
        tm_at "go"
        refine r_fmS (lf (by omega)) ?_
        refine r_jy (lf (by simp only [app_len, e0, e1, e2, e3, e4]; omega)) ?_
        tm_at "go"
        exact tail2 c1 c2
end
/-! ### the number that a word writes -/
def digitsL (l : List Nat) : Bool := l.all fun c => decide (48 ≤ c ∧ c ≤ 57)
def numOf (x : Str) : Option Nat :=
  if (1 ≤ x.length ∧ x.length ≤ 6) ∧ digitsL x.cps.toList = true ∧ (x = "0" ∨ x.cps.toList.head? ≠ some 48) then some (PySem.NumText.digitsVal x.cps.toList) else none
def optI : Option Nat → V
  | none => .non
  | some n => .int (n : Int)
theorem digits_in (c : Nat) : decide (c ∈ ("0123456789" : Str).cps.toList) = decide (48 ≤ c ∧ c ≤ 57) := by
  have e : ("0123456789" : Str).cps.toList = [48, 49, 50, 51, 52, 53, 54, 55, 56, 57] := by decide +kernel
  rw [e]
  refine decide_eq_decide.mpr ?_
  simp only [List.mem_cons, List.not_mem_nil, or_false]
  omega
theorem all_dig {l : List Nat} (h : digitsL l = true) : PySem.NumText.AllDigits l := fun c hc => by
  have := List.all_eq_true.mp h c hc
  simpa using this
theorem int_dig {x : Str} (h : digitsL x.cps.toList = true) (h1 : 1 ≤ x.length) (h2 : x.length ≤ 6) : PySem.intText? x = some ((PySem.NumText.digitsVal x.cps.toList : Nat) : Int) :=
  PySem.intText_digits (all_dig h) (fun z => by
    have : x.cps.toList.length = x.length := Array.length_toList
    rw [z] at this
    simp at this
    omega) (by omega)
theorem r_nid {c : Prop} [Decidable c] {A B : Prop} (h1 : ¬ c → A) (h2 : c → B) : if (!decide c) = true then A else B := by
  by_cases h : c
  · rw [decide_eq_true h]
    exact h2 h
  · rw [decide_eq_false h]
    exact h1 h
theorem r_nb {b : Bool} {A B : Prop} (h1 : b = false → A) (h2 : b = true → B) : if (!b) = true then A else B := by
  cases b with
  | false => exact h1 rfl
  | true => exact h2 rfl
theorem str_at {x : Str} {i c : Nat} (h : x.cps[i]? = some c) : x.cps.toList[i]? = some c := by rw [Array.getElem?_toList]; exact h
theorem decS (a b : Str) : decide (V.str a = V.str b) = decide (a = b) := by simp
theorem sign_eq (c d : Nat) : ((⟨#[c]⟩ : Str) = ⟨#[d]⟩) ↔ c = d := by simp
theorem r_ninS {K : PySem.W.Frag} {c : Nat} {z : Str} {H : Hp} {Q : VK} (k : Q (.bl (!decide (c ∈ z.cps.toList))) H) : uNotIn K (.str ⟨#[c]⟩) (.str z) H Q := .inr ⟨c, z, rfl, rfl, k⟩
def cpsOk (x : Str) : Prop := ∀ c ∈ x.cps.toList, c < 1114112
def spNumOf : Sp := fun vs H Q _ => ∃ x : Str, vs = [.str x] ∧ x.length ≤ 100000 ∧ cpsOk x ∧ ∀ H', Same H H' → Q (optI (numOf x)) H'
section
variable {K : PySem.W.Frag}
theorem ok_number_of (F : DefAt K mg "number_of" s_number_of) (T : Txt K mg aGround aNum aInv aIT aRd) : DefOk P w K mg base CX0 1 "number_of" ["word"] spNumOf := by
  refine F.ok sc_number_of (fun _ _ _ _ _ _ us hl => match us, hl with | [_], _ => rfl) (fun vs H Q E h => ?_) (fun f cdv A outer s H vs Q E hr h => ?_)
  · obtain ⟨x, rfl, _⟩ := h
    rfl
  · obtain ⟨x, rfl, hz, hok, k⟩ := h
    refine ⟨_, (pss_cons (ps_if (PW.pt (pw_or (pt_not (pt_chain o_le o_le pe_int (pe_callB (c_len K) (by rfl) T.n_len (by decide +kernel) (pa_cons (pv 0) pa_nil)) (pe_gI rfl T.m_MOST_DIGITS))) (pw_or1 (pt_not (pt_tr K (pe_callB (c_all K rfl) (by rfl) T.n_all (by decide +kernel) (pa_cons (pe_lc (own := [("letter", 1)]) (g := (gName 1)) rfl sc_number_of.nd (pi_str (pv 0)) (blkOk_by (own := [("letter", 1)]) (N := ["word", "letter"]) (sc := defScope s_number_of) (by decide +kernel)) (fun _ _ _ _ _ => (pg_name (i := 1) sc_number_of.nd rfl (Or.inl rfl) (Or.inr rfl))) (fun _ _ _ _ _ => pts_nil) (fun _ _ _ _ _ => (pe_cmpR (o_in K) (pv 1) (pe_gS rfl T.m_DIGITS) rfl))) pa_nil))))))) (pss_one (ps_ret pe_non))
  pss_nil)
  (pss_one (ps_ret (pe_ifExp (PW.pt (pw_or (pt_cmpR (o_eq K hr.units) (pv 0) pe_str (nomark _)) (pw_or1 (pt_cmpR (o_ne K hr.units) (pe_ix (ix_u K) (pv 0) pe_int (fun _ _ => rfl)) pe_str (nomark _))))) (pe_callTy c_int (by rfl) T.n_int (by decide +kernel) (pa_cons (pv 0) pa_nil)) pe_non)))), ?_⟩
    tm_at "go"
    have hz2 : x.length ≤ sizeLine := sz hz
    have lenx : x.cps.toList.length = x.length := Array.length_toList
    refine r_lenS hz2 ?_
    tm_at "go"
    have no : (¬ ((1 ≤ x.length ∧ x.length ≤ 6) ∧ digitsL x.cps.toList = true ∧ (x = "0" ∨ x.cps.toList.head? ≠ some 48))) → numOf x = none := fun z => if_neg z
    refine r_id (fun c1 => ?_) (fun c1 => ?_)
    rotate_left
    · tm_at "go"
      have k := k H Same.refl
      rw [no (fun z => by omega)] at k
      exact k
    tm_at "go"
    refine r_nid (fun c2 => ?_) (fun c2 => ?_)
    · tm_at "go"
      have k := k H Same.refl
      rw [no (fun z => by omega)] at k
      exact k
    tm_at "go"
    refine ⟨x, rfl, fun D hD => ?_⟩
    refine lc_it (walk_str (z := x)) (fun i H' => Same H H' ∧ H' D = some (.lst (((x.cps.toList.take i).map fun c => decide (48 ≤ c ∧ c ≤ 57)).map V.bl))) ⟨same_new hD, upd_same⟩ (fun i H' _ p => trivial) ?_ ?_
    · rintro i y H1 H2 hi ⟨sm, hd⟩ ⟨rfl, c, hc, rfl⟩
      tm_at "go"
      refine ⟨rfl, ?_⟩
      tm_at "go"
      refine r_inS ?_
      rw [digits_in]
      refine ⟨_, hd, ?_, Same.updF sm hD, ?_⟩
      · rw [List.length_map, List.length_map]
        exact szlt (Nat.ble_eq_true_of_le (Nat.le_trans (List.length_take_le ..) (by have : x.cps.size = x.length := rfl; omega)))
      · rw [upd_same, take_succ (str_at hc), List.map_append, List.map_append]
        rfl
    rintro H1 ⟨sm, hd⟩
    rw [show x.cps.size = x.cps.toList.length from Array.length_toList.symm, List.take_length] at hd
    tm_at "go"
    refine ⟨D, _, rfl, SqL.of hd, ?_⟩
    have eA : (x.cps.toList.map fun c => decide (48 ≤ c ∧ c ≤ 57)).all id = digitsL x.cps.toList := by
      unfold digitsL
      rw [List.all_map]
      rfl
    rw [eA]
    tm_at "go"
    have k := k H1 sm
    refine r_nb (fun c3 => ?_) (fun c3 => ?_)
    · tm_at "go"
      rw [no (fun z => by rw [z.2.1] at c3; exact nomatch c3)] at k
      exact k
    tm_at "go"
    have x0 : x.cps.toList ≠ [] := fun z => by rw [z] at lenx; simp at lenx; omega
    have yes : (x = "0" ∨ x.cps.toList.head? ≠ some 48) → Q (.int ((PySem.NumText.digitsVal x.cps.toList : Nat) : Int)) H1 := fun h => by
      rw [show numOf x = some (PySem.NumText.digitsVal x.cps.toList) from if_pos ⟨⟨by omega, by omega⟩, c3, h⟩] at k
      exact k
    have rd : (x = "0" ∨ x.cps.toList.head? ≠ some 48) → uInt [.str x] H1 Q := fun h => .inr ⟨x, _, rfl, int_dig c3 (by omega) (by omega), by omega, yes h⟩
    refine r_eq rfl ?_
    rw [decS]
    tm_at "go"
    refine r_id (fun e => ?_) (fun e => ?_)
    · tm_at "go"
      exact rd (.inl e)
    · tm_at "go"
      obtain ⟨c, cs, hcs⟩ := List.exists_cons_of_ne_nil x0
      refine r_ixS hz2 (atI_nat (j := 0) (v := c) (by rw [hcs]; rfl)) ?_
      tm_at "go"
      refine r_ne rfl ?_
      rw [decS, show ("0" : Str) = ⟨#[48]⟩ by decide +kernel, show decide ((⟨#[c]⟩ : Str) = ⟨#[48]⟩) = decide (c = 48) from decide_eq_decide.mpr (sign_eq c 48)]
      tm_at "go"
      refine r_nid (fun e2 => ?_) (fun e2 => ?_)
      · tm_at "go"
        exact rd (.inr (by rw [hcs]; intro z; exact e2 (Option.some.inj z)))
      · tm_at "go"
        rw [no (fun z => z.2.2.elim e (fun q => q (by rw [hcs, e2]; rfl)))] at k
        exact k
end
/-! ### lists of texts; the words of a text -/
abbrev strD (l : List Str) : List PyData := l.map PyData.str
theorem dp_strs {K : PySem.W.Frag} {H : Hp} : ∀ l : List Str, DpAll K H (l.map V.str) (strD l)
  | [] => .nil
  | _ :: l => .cons (.str _) (dp_strs l)
theorem eqv_strs : ∀ l m : List Str, PyData.eqvAll (strD l) (strD m) = decide (l = m)
  | [], [] => rfl
  | [], _ :: _ => rfl
  | _ :: _, [] => rfl
  | a :: l, b :: m => by
    have ih := eqv_strs l m
    show ((a == b) && PyData.eqvAll (strD l) (strD m)) = _
    rw [ih, Bool.eq_iff_iff, Bool.and_eq_true, beq_iff_eq, decide_eq_true_eq, decide_eq_true_eq, List.cons.injEq]
theorem eqv_strL (l m : List Str) : PyData.eqv (.list (strD l)) (.list (strD m)) = decide (l = m) := eqv_strs l m
theorem shp_strs {l : List Str} (ok : ∀ w ∈ l, cpsOk w) : SeqAt.shaped (.list (strD l)) = true := by
  have e1 : PyData.canLayAll0 (strD l) = true := by
    induction l with
    | nil => rfl
    | cons w l ih =>
      show (PyData.strOk w && PyData.canLayAll0 (strD l)) = true
      rw [ih fun c hc => ok c (List.mem_cons_of_mem _ hc), Bool.and_true]
      have := ok w (List.mem_cons_self ..)
      unfold PyData.strOk
      rw [← Array.all_toList, List.all_eq_true]
      intro c hc
      exact decide_eq_true (this c hc)
  have e2 : ∀ l : List Str, PyData.depthAll (strD l) = 0 := fun l => by
    induction l with
    | nil => rfl
    | cons n l ih =>
      show max 0 (PyData.depthAll (strD l)) = 0
      rw [ih]; rfl
  unfold SeqAt.shaped
  simp only [PyData.canLay0, PyData.depth, e1, e2]
  decide
theorem flat_strs : ∀ l : List Str, (l.map V.str).all flatV = true
  | [] => rfl
  | n :: l => by
    have := flat_strs l
    show (true && (l.map V.str).all flatV) = true
    rw [this]; rfl
theorem inV_str (r : Str) : ∀ l : List Str, inV (.str r) (l.map V.str) = l.contains r
  | [] => rfl
  | n :: l => by
    have ih := inV_str r l
    show (eqV (.str n) (.str r) || inV (.str r) (l.map V.str)) = _
    rw [ih, List.contains_cons]
    congr 1
    show (n == r) = (r == n)
    rw [Bool.eq_iff_iff, beq_iff_eq, beq_iff_eq]
    exact eq_comm
theorem spl_sub : ∀ (l acc p : List Nat), p ∈ TL.spl [32] 0 acc l → p.length ≤ acc.length + l.length ∧ ∀ c ∈ p, c ∈ acc ∨ c ∈ l
  | [], acc, p, h => by
    rw [TL.spl_nil] at h
    rw [List.mem_singleton.mp h]
    exact ⟨Nat.le_refl _, fun c hc => .inl hc⟩
  | c :: l, acc, p, h => by
    by_cases e : TL.pre [32] (c :: l) = true
    · rw [TL.spl_hit e] at h
      rcases List.mem_cons.mp h with h | h
      · rw [h]
        exact ⟨Nat.le_add_right _ _, fun c hc => .inl hc⟩
      · have z := spl_sub l [] p h
        refine ⟨Nat.le_trans z.1 (by simp; omega), fun d hd => ?_⟩
        rcases z.2 d hd with q | q
        · exact nomatch q
        · exact .inr (List.mem_cons_of_mem _ q)
    · rw [TL.spl_miss (Bool.eq_false_iff.mpr e)] at h
      have z := spl_sub l (acc ++ [c]) p h
      refine ⟨Nat.le_trans z.1 (by simp; omega), fun d hd => ?_⟩
      rcases z.2 d hd with q | q
      · rcases List.mem_append.mp q with q | q
        · exact .inl q
        · rw [List.mem_singleton.mp q]
          exact .inr (List.mem_cons_self ..)
      · exact .inr (List.mem_cons_of_mem _ q)
theorem spl_len : ∀ (l acc : List Nat), (TL.spl [32] 0 acc l).length ≤ l.length + 1
  | [], acc => by rw [TL.spl_nil]; exact Nat.le_refl _
  | c :: l, acc => by
    by_cases e : TL.pre [32] (c :: l) = true
    · rw [TL.spl_hit e, List.length_cons, List.length_cons]
      exact Nat.succ_le_succ (spl_len l [])
    · rw [TL.spl_miss (Bool.eq_false_iff.mpr e), List.length_cons]
      exact Nat.le_succ_of_le (spl_len l _)
theorem split_map (x : Str) : (Txt.split x " ").map TL.tl = TL.spl [32] 0 [] (TL.tl x) := by
  have e : TL.tl (" " : Str) = [32] := by decide +kernel
  have z := TL.split_spl x " " (by rw [e]; exact fun z => nomatch z) (TL.kind_ok (by decide +kernel))
  rw [e] at z
  exact z
theorem split_ok {x w : Str} (h : w ∈ Txt.split x " ") : w.length ≤ x.length ∧ (cpsOk x → cpsOk w) := by
  have m : TL.tl w ∈ TL.spl [32] 0 [] (TL.tl x) := by rw [← split_map]; exact List.mem_map.mpr ⟨w, h, rfl⟩
  have z := spl_sub _ _ _ m
  rw [TL.len_tl, TL.len_tl]
  refine ⟨by simpa using z.1, fun ok c hc => ?_⟩
  rcases z.2 c hc with q | q
  · exact nomatch q
  · exact ok c q
theorem split_len (x : Str) : (Txt.split x " ").length ≤ x.length + 1 := by
  have z := spl_len (TL.tl x) []
  rw [← split_map, List.length_map, ← TL.len_tl] at z
  exact z
theorem dvf_lt : ∀ (l : List Nat) (a : Nat), PySem.NumText.AllDigits l → l.foldl (fun acc c => acc * 10 + (c - 48)) a < (a + 1) * 10 ^ l.length
  | [], a, _ => by
    show a < (a + 1) * 10 ^ 0
    omega
  | c :: l, a, h => by
    have ih := dvf_lt l (a * 10 + (c - 48)) fun d hd => h d (List.mem_cons_of_mem _ hd)
    have hc := h c (List.mem_cons_self ..)
    have hc : 48 ≤ c ∧ c ≤ 57 := by simpa using hc
    rw [List.foldl_cons, List.length_cons, Nat.pow_succ]
    refine Nat.lt_of_lt_of_le ih ?_
    have : a * 10 + (c - 48) + 1 ≤ (a + 1) * 10 := by omega
    have := Nat.mul_le_mul_right (10 ^ l.length) this
    rw [Nat.mul_assoc, Nat.mul_comm 10 (10 ^ l.length)] at this
    exact this
/-! ### what a text of a set tells -/
/-- the number at a place of words -/
def numAt (ws : List Str) (i lo : Nat) (hi : Int) : Option Nat := (ws[i]?.bind numOf).bind fun n => if lo ≤ n ∧ (n : Int) ≤ hi then some n else none
/-- ascending numbers ahead of "from", and what is behind them -/
def rdOnes : Nat → List Str → List Nat × List Str
  | _, [] => ([], [])
  | last, w :: ws => if w = "from" then ([], w :: ws) else match numOf w with
    | some n => if last + 1 ≤ n then (n :: (rdOnes n ws).1, (rdOnes n ws).2) else ([], w :: ws)
    | none => ([], w :: ws)
/-- ascending numbers below p, and what is behind them -/
def rdRests (p : Nat) : Nat → List Str → List Nat × List Str
  | _, [] => ([], [])
  | lo, w :: ws => match numOf w with
    | some n => if lo ≤ n ∧ n < p then (n :: (rdRests p (n + 1) ws).1, (rdRests p (n + 1) ws).2) else ([], w :: ws)
    | none => ([], w :: ws)
def mx (L : List Nat) : Nat := L.getLast?.getD 0
abbrev Form4 := List Nat × Nat × Nat × List Nat
def restsN (ws : List Str) (L : List Nat) (s p : Nat) (at_ : Nat) : Nat ⊕ Form4 :=
  let R := (rdRests p 0 (ws.drop at_)).1
  if R = [] then .inl at_ else if at_ + R.length = ws.length then .inr (L, s, p, R) else .inl (at_ + R.length)
def fromN (ws : List Str) (L : List Nat) : Nat ⊕ Form4 :=
  match numAt ws (L.length + 1) (mx L + 1) 1000000 with
  | none => .inl (L.length + 1)
  | some s => if ws[L.length + 2]? ≠ some ("by" : Str) then .inl (L.length + 2) else
    match numAt ws (L.length + 3) 1 1000000 with
    | none => .inl (L.length + 3)
    | some p => if ws[L.length + 4]? ≠ some (":" : Str) then .inl (L.length + 4) else restsN ws L s p (L.length + 5)
def onesN (ws : List Str) (L : List Nat) : Nat ⊕ Form4 :=
  if L.length = ws.length then .inr (L, mx L + 1, 1, []) else if ws[L.length]? ≠ some ("from" : Str) then .inl L.length else fromN ws L
def readN (ws : List Str) : Nat ⊕ Form4 :=
  if ws[0]? = some ("none" : Str) then (if ws.length = 1 then .inr ([], 1, 1, []) else .inl 1) else onesN ws (rdOnes 0 ws).1
/-- the given reader's -/
def readP (ws : List Str) : Nat ⊕ Form4 :=
  if ws[0]? = some ("none" : Str) then (if ws.length = 1 then .inr ([], 1, 1, []) else .inl 1)
  else if (rdOnes 0 ws).1.length < ws.length ∧ ws[(rdOnes 0 ws).1.length]? = some ("from" : Str) ∧ mx (rdOnes 0 ws).1 = 999999 then .inl (rdOnes 0 ws).1.length
  else onesN ws (rdOnes 0 ws).1
theorem numOf_lt {w : Str} {n : Nat} (h : numOf w = some n) : n < 1000000 := by
  unfold numOf at h
  split at h
  · rename_i g
    have h := Option.some.inj h
    have z := dvf_lt w.cps.toList 0 (all_dig g.2.1)
    have e : w.cps.toList.length = w.length := Array.length_toList
    rw [← h]
    refine Nat.lt_of_lt_of_le z ?_
    rw [Nat.zero_add, Nat.one_mul]
    exact Nat.le_trans (Nat.pow_le_pow_right (by decide) (show w.cps.toList.length ≤ 6 by omega)) (by decide)
  · exact nomatch h
theorem numAt_hi {ws : List Str} {i lo : Nat} {h1 h2 : Int} (a : 1000000 ≤ h1) (b : 1000000 ≤ h2) : numAt ws i lo h1 = numAt ws i lo h2 := by
  unfold numAt
  cases e : ws[i]?.bind numOf with
  | none => rfl
  | some n =>
    obtain ⟨w, e1, e2⟩ := Option.bind_eq_some_iff.mp e
    have := numOf_lt e2
    show (if _ then _ else _) = (if _ then _ else _)
    by_cases c : lo ≤ n
    · rw [if_pos ⟨c, by omega⟩, if_pos ⟨c, by omega⟩]
    · rw [if_neg fun z => c z.1, if_neg fun z => c z.1]
theorem rdOnes_app : ∀ (last : Nat) (ws : List Str), (rdOnes last ws).1.length ≤ ws.length ∧ (rdOnes last ws).2 = ws.drop (rdOnes last ws).1.length
  | _, [] => ⟨Nat.le_refl _, rfl⟩
  | last, w :: ws => by
    unfold rdOnes
    split
    · exact ⟨Nat.zero_le _, rfl⟩
    · split
      · split
        · have ih := rdOnes_app ‹Nat› ws
          exact ⟨Nat.succ_le_succ ih.1, ih.2⟩
        · exact ⟨Nat.zero_le _, rfl⟩
      · exact ⟨Nat.zero_le _, rfl⟩
theorem rdRests_app (p : Nat) : ∀ (lo : Nat) (ws : List Str), (rdRests p lo ws).1.length ≤ ws.length ∧ (rdRests p lo ws).2 = ws.drop (rdRests p lo ws).1.length
  | _, [] => ⟨Nat.le_refl _, rfl⟩
  | lo, w :: ws => by
    unfold rdRests
    split
    · split
      · have ih := rdRests_app p (‹Nat› + 1) ws
        exact ⟨Nat.succ_le_succ ih.1, ih.2⟩
      · exact ⟨Nat.zero_le _, rfl⟩
    · exact ⟨Nat.zero_le _, rfl⟩
/-- a turn of the first loop -/
theorem rdOnes_hit {last n : Nat} {w : Str} {ws : List Str} (h1 : w ≠ "from") (h2 : numOf w = some n) (h3 : last + 1 ≤ n) : rdOnes last (w :: ws) = (n :: (rdOnes n ws).1, (rdOnes n ws).2) := by
  rw [rdOnes, if_neg h1, h2]
  exact if_pos h3
theorem rdOnes_stop {last : Nat} {w : Str} {ws : List Str} (h : w = "from" ∨ ∀ n, numOf w = some n → ¬ last + 1 ≤ n) : rdOnes last (w :: ws) = ([], w :: ws) := by
  rw [rdOnes]
  split
  · rfl
  · rename_i c
    have h := h.resolve_left c
    split
    · rename_i n e
      exact if_neg (h n e)
    · rfl
theorem rdRests_hit {p lo n : Nat} {w : Str} {ws : List Str} (h2 : numOf w = some n) (h3 : lo ≤ n ∧ n < p) : rdRests p lo (w :: ws) = (n :: (rdRests p (n + 1) ws).1, (rdRests p (n + 1) ws).2) := by
  rw [rdRests, h2]
  exact if_pos h3
theorem rdRests_stop {p lo : Nat} {w : Str} {ws : List Str} (h : ∀ n, numOf w = some n → ¬ (lo ≤ n ∧ n < p)) : rdRests p lo (w :: ws) = ([], w :: ws) := by
  rw [rdRests]
  split
  · rename_i n e
    exact if_neg (h n e)
  · rfl
theorem drop_cons {ws : List Str} {i : Nat} {w : Str} (h : ws[i]? = some w) : ws.drop i = w :: ws.drop (i + 1) := by
  have hi := (List.getElem?_eq_some_iff.mp h).1
  have e := (List.getElem?_eq_some_iff.mp h).2
  rw [List.drop_eq_getElem_cons hi, e]
theorem numAt_some {ws : List Str} {i lo n : Nat} {hi : Int} {w : Str} (h : ws[i]? = some w) (hn : numAt ws i lo hi = some n) : numOf w = some n ∧ lo ≤ n ∧ (n : Int) ≤ hi := by
  unfold numAt at hn
  rw [h] at hn
  obtain ⟨m, e1, e2⟩ := Option.bind_eq_some_iff.mp hn
  split at e2
  · rename_i c
    cases e2
    exact ⟨e1, c.1, c.2⟩
  · exact nomatch e2
theorem numAt_none {ws : List Str} {i lo : Nat} {hi : Int} {w : Str} (h : ws[i]? = some w) (hn : numAt ws i lo hi = none) : ∀ n, numOf w = some n → ¬ (lo ≤ n ∧ (n : Int) ≤ hi) := by
  intro n hw c
  unfold numAt at hn
  rw [h] at hn
  have e : (((some w : Option Str).bind numOf).bind fun n => if lo ≤ n ∧ (n : Int) ≤ hi then some n else none) = some n := by
    show ((numOf w).bind _) = _
    rw [hw]
    exact if_pos c
  rw [e] at hn
  exact nomatch hn
theorem numAt_end {ws : List Str} {i lo : Nat} {hi : Int} (h : ws[i]? = none) : numAt ws i lo hi = none := by
  unfold numAt
  rw [h]
  rfl
theorem mx_snoc (L : List Nat) (n : Nat) : mx (L ++ [n]) = n := by
  unfold mx
  rw [List.getLast?_append]
  rfl
/-- what the first loop keeps -/
structure OnesK (ws : List Str) (L : List Nat) : Prop where
  le : L.length ≤ ws.length
  asc : Asc L 1 (mx L + 1)
  all : L ++ (rdOnes (mx L) (ws.drop L.length)).1 = (rdOnes 0 ws).1
theorem OnesK.nil (ws : List Str) : OnesK ws [] := ⟨Nat.zero_le _, Asc.nil _ _, rfl⟩
theorem OnesK.snoc {ws : List Str} {L : List Nat} {n : Nat} {w : Str} {hi : Int} (I : OnesK ws L) (h : ws[L.length]? = some w) (h1 : w ≠ "from") (hn : numAt ws L.length (mx L + 1) hi = some n) : OnesK ws (L ++ [n]) := by
  obtain ⟨e1, e2, _⟩ := numAt_some h hn
  have hi := (List.getElem?_eq_some_iff.mp h).1
  have a := I.all
  rw [drop_cons h, rdOnes_hit h1 e1 e2] at a
  refine ⟨by rw [List.length_append]; exact hi, ?_, ?_⟩
  · rw [mx_snoc]
    exact Asc.snoc I.asc (by omega) e2
  · rw [mx_snoc, List.length_append, ← a, List.append_assoc]
    rfl
theorem OnesK.stop {ws : List Str} {L : List Nat} {hi : Int} (I : OnesK ws L) (hh : 1000000 ≤ hi) (h : L.length = ws.length ∨ ws[L.length]? = some ("from" : Str) ∨ numAt ws L.length (mx L + 1) hi = none) : (rdOnes 0 ws).1 = L := by
  have a := I.all
  by_cases c : L.length = ws.length
  · rw [List.drop_of_length_le (by omega)] at a
    rw [← a]
    exact List.append_nil _
  · have hj : ws[L.length]? = some (ws[L.length]'(by have := I.le; omega)) := List.getElem?_eq_getElem _
    rw [drop_cons hj, rdOnes_stop] at a
    · rw [← a]
      exact List.append_nil _
    · rcases h with h | h | h
      · exact absurd h c
      · exact .inl (Option.some.inj (hj.symm.trans h))
      · refine .inr fun n hn z => ?_
        have := numOf_lt hn
        exact numAt_none hj h n hn ⟨z, by omega⟩
def lo (R : List Nat) : Nat := match R.getLast? with | none => 0 | some n => n + 1
theorem lo_snoc (L : List Nat) (n : Nat) : lo (L ++ [n]) = n + 1 := by
  unfold lo
  rw [List.getLast?_append]
  rfl
structure RestsK (ws : List Str) (at_ p : Nat) (R : List Nat) : Prop where
  le : at_ + R.length ≤ ws.length
  asc : Asc R 0 (lo R)
  top : lo R ≤ p
  all : R ++ (rdRests p (lo R) (ws.drop (at_ + R.length))).1 = (rdRests p 0 (ws.drop at_)).1
theorem RestsK.nil {ws : List Str} {at_ p : Nat} (h : at_ ≤ ws.length) : RestsK ws at_ p [] := ⟨h, Asc.nil _ _, Nat.zero_le _, rfl⟩
theorem RestsK.snoc {ws : List Str} {at_ p : Nat} {R : List Nat} {n : Nat} (I : RestsK ws at_ p R) (hn : numAt ws (at_ + R.length) (lo R) ((p : Int) - 1) = some n) : RestsK ws at_ p (R ++ [n]) := by
  cases h : ws[at_ + R.length]? with
  | none =>
    rw [numAt_end h] at hn
    exact nomatch hn
  | some w =>
    obtain ⟨e1, e2, e3⟩ := numAt_some h hn
    have hi := (List.getElem?_eq_some_iff.mp h).1
    have a := I.all
    rw [drop_cons h, rdRests_hit e1 ⟨e2, by omega⟩] at a
    refine ⟨by rw [List.length_append]; show at_ + (R.length + 1) ≤ _; omega, ?_, ?_, ?_⟩
    · rw [lo_snoc]
      exact Asc.snoc I.asc (Nat.zero_le _) e2
    · rw [lo_snoc]
      omega
    · rw [lo_snoc, List.length_append, ← a, List.append_assoc]
      rfl
theorem RestsK.stop {ws : List Str} {at_ p : Nat} {R : List Nat} (I : RestsK ws at_ p R) (h : at_ + R.length = ws.length ∨ numAt ws (at_ + R.length) (lo R) ((p : Int) - 1) = none) : (rdRests p 0 (ws.drop at_)).1 = R := by
  have a := I.all
  by_cases c : at_ + R.length = ws.length
  · rw [List.drop_of_length_le (by omega)] at a
    rw [← a]
    exact List.append_nil _
  · have hj : ws[at_ + R.length]? = some (ws[at_ + R.length]'(by have := I.le; omega)) := List.getElem?_eq_getElem _
    rw [drop_cons hj, rdRests_stop] at a
    · rw [← a]
      exact List.append_nil _
    · intro n hn z
      exact numAt_none hj (h.resolve_left c) n hn ⟨z.1, by omega⟩
/-! ### the reader of a set's words -/
def rdF (wl : Addr) (i : Nat) : List (Str × V) := putF "at" (.int ((i : Nat) : Int)) (putF "words" (.ref wl) [])
def RdAt (aRd : Addr) (H : Hp) (x wl : Addr) (i : Nat) : Prop := ∃ dx, H x = some (.ins aRd dx (rdF wl i))
theorem putF_two (f : Str) (u v : V) : ∀ l : List (Str × V), putF f v (putF f u l) = putF f v l
  | [] => by
    show (if f = f then [(f, v)] else (f, u) :: putF f v []) = _
    rw [if_pos rfl]
    rfl
  | (g, y) :: l => by
    by_cases h : g = f
    · rw [putF, if_pos h, putF, if_pos h, putF, if_pos h]
    · rw [putF, if_neg h, putF, if_neg h, putF, if_neg h, putF_two f u v l]
theorem rdF_set (wl : Addr) (i j : Nat) : putF "at" (.int ((j : Nat) : Int)) (rdF wl i) = rdF wl j := putF_two _ _ _ _
theorem rdF_at (wl : Addr) (i : Nat) : (rdF wl i).lookup ("at" : Str) = some (.int ((i : Nat) : Int)) := by
  unfold rdF
  rw [lookup_putF, if_pos rfl]
theorem rdF_words (wl : Addr) (i : Nat) : (rdF wl i).lookup ("words" : Str) = some (.ref wl) := by
  unfold rdF
  rw [lookup_putF, if_neg (by decide +kernel), lookup_putF, if_pos rfl]
theorem rdF_len (wl : Addr) (i : Nat) : (rdF wl i).length < 1000 := Nat.lt_of_le_of_lt (Nat.le_trans (putF_len ..) (Nat.succ_le_succ (putF_len ..))) (by decide)
theorem rdF_no (wl : Addr) (i : Nat) {f : Str} (h1 : f ≠ "at") (h2 : f ≠ "words") : (rdF wl i).lookup f = none := by
  unfold rdF
  rw [lookup_putF, if_neg h1, lookup_putF, if_neg h2]
  rfl
theorem decInt (a b : Int) : decide (V.int a = V.int b) = decide (a = b) := by simp
section
variable {K : PySem.W.Frag} {C D' x dx : Addr} {H : Hp} {Q : XK} {σ : St} {fs : List (Str × V)} {i : Nat} {v : Int}
theorem r_fldaug {ta tv : TE} {rd : V → V → Hp → VK → Prop} {f : Str} {D : Ends} (k : ta σ H fun x H1 => ∃ a C dx fs v, x = .ref a ∧ H1 a = some (.ins C dx fs) ∧ Cls K C ∧ NoAttr K C f ∧ fs.lookup f = some v ∧
  tv σ H1 fun y H2 => rd v y H2 fun z H3 => ∃ dx' fs', H3 a = some (.ins C dx' fs') ∧ fs'.length < 1000 ∧ D.nx σ (upd H3 a (.ins C dx' (putF f z fs')))) : sFldAug K ta tv rd f D σ H := k
theorem r_getA {f : Str} {v : V} {R : Addr → Addr → V → Prop} (h : H x = some (.ins C dx fs)) (c : Cls K C) (n : NoAttr K C f) (l : fs.lookup f = some v) (k : R x C v) :
    ∃ a' C' dx' fs' v', V.ref x = .ref a' ∧ H a' = some (.ins C' dx' fs') ∧ Cls K C' ∧ NoAttr K C' f ∧ fs'.lookup f = some v' ∧ R a' C' v' := ⟨x, C, dx, fs, v, rfl, h, c, n, l, k⟩
theorem r_mkAt {f g : Str} (T : OexC K C) (hf : PySem.W.findIn K (.ref C) g = some none) (hv : σ[i]? = some (some (.ref x))) (hx : H x = some (.ins D' dx fs)) (c : Cls K D') (n : NoAttr K D' f) (l : fs.lookup f = some (.int v))
    (k : ∀ d, H d = none → Q (.ref C) (some d) (upd H d (.xd [(g, .int v)]))) : tMkO C (spInitF K C g) [] (tCons (tFld K (tVar i) f) tNil) σ H Q :=
  r_mkF (x := .int v) T hf ⟨.ref x, hv, x, D', dx, fs, .int v, rfl, hx, c, n, l, .int v, rfl, k⟩ fun hh ⟨u, hu, a, C, dx, fs, v', e, h1, h2, h3, h4, q⟩ => ⟨u, hu, a, C, dx, fs, v', e, h1, h2, h3, h4, hh _ _ q⟩
theorem r_mkAt1 {f g : Str} {w : Int} (T : OexC K C) (hf : PySem.W.findIn K (.ref C) g = some none) (hv : σ[i]? = some (some (.ref x))) (hx : H x = some (.ins D' dx fs)) (c : Cls K D') (n : NoAttr K D' f) (l : fs.lookup f = some (.int v)) (hw : v - 1 = w)
    (k : ∀ d, H d = none → Q (.ref C) (some d) (upd H d (.xd [(g, .int w)]))) : tMkO C (spInitF K C g) [] (tCons (tOp uSub (tFld K (tVar i) f) (tC (.int 1))) tNil) σ H Q :=
  r_mkF (x := .int w) T hf ⟨.ref x, hv, x, D', dx, fs, .int v, rfl, hx, c, n, l, v, 1, rfl, rfl, .int w, by show [V.int (v - 1)] = _; rw [hw], k⟩ fun hh ⟨u, hu, a, C, dx, fs, v', e, h1, h2, h3, h4, p, q, e1, e2, z⟩ => ⟨u, hu, a, C, dx, fs, v', e, h1, h2, h3, h4, p, q, e1, e2, hh _ _ z⟩
end
/-- the words at wl, the reader at x -/
structure Rdr (aRd : Addr) (H : Hp) (x wl : Addr) (ws : List Str) (i : Nat) : Prop where
  rd : RdAt aRd H x wl i
  wl : H wl = some (.lst (ws.map V.str))
  le : i ≤ ws.length
  sz : ws.length ≤ 1000
  ok : ∀ w ∈ ws, w.length ≤ 100000 ∧ cpsOk w
theorem Rdr.ne {aRd : Addr} {H : Hp} {x wl : Addr} {ws : List Str} {i : Nat} (R : Rdr aRd H x wl ws i) : wl ≠ x := by
  obtain ⟨dx, h⟩ := R.rd
  exact ne_kind R.wl h fun z => nomatch z
theorem Rdr.same {aRd : Addr} {H H' : Hp} {x wl : Addr} {ws : List Str} {i : Nat} (R : Rdr aRd H x wl ws i) (s : Same H H') : Rdr aRd H' x wl ws i := ⟨let ⟨dx, h⟩ := R.rd; ⟨dx, s _ _ h⟩, s _ _ R.wl, R.le, R.sz, R.ok⟩
theorem Rdr.go {aRd : Addr} {H H' : Hp} {x wl : Addr} {ws : List Str} {i j : Nat} (R : Rdr aRd H x wl ws i) (k : Kx x H H') (r : RdAt aRd H' x wl j) (h : j ≤ ws.length) : Rdr aRd H' x wl ws j := ⟨r, k.at R.ne R.wl, h, R.sz, R.ok⟩
/-- refused at i -/
def Bad (aIT x : Addr) (H : Hp) (E : XK) (i : Nat) : Prop := ∀ (d : Addr) (H' : Hp), Kx x H H' → H' d = none → E (.ref aIT) (some d) (upd H' d (.xd [("at", .int ((i : Nat) : Int))]))
def spRInit (aRd : Addr) : Sp := fun vs H Q _ => ∃ (x dx wl : Addr), vs = [.ref x, .ref wl] ∧ H x = some (.ins aRd dx []) ∧ Q .non (upd H x (.ins aRd dx (rdF wl 0)))
def spNextW (aRd aIT : Addr) : Sp := fun vs H Q E => ∃ (x wl : Addr) (ws : List Str) (i : Nat), vs = [.ref x] ∧ Rdr aRd H x wl ws i ∧ (∀ w, ws[i]? = some w → ∀ H', Kx x H H' → RdAt aRd H' x wl (i + 1) → Q (.str w) H') ∧ (ws[i]? = none → Bad aIT x H E i)
def spNextN (aRd aIT : Addr) : Sp := fun vs H Q E => ∃ (x wl : Addr) (ws : List Str) (i lo : Nat) (hi : Int), vs = [.ref x, .int ((lo : Nat) : Int), .int hi] ∧ Rdr aRd H x wl ws i ∧ (∀ n, numAt ws i lo hi = some n → ∀ H', Kx x H H' → RdAt aRd H' x wl (i + 1) → Q (.int ((n : Nat) : Int)) H') ∧ (numAt ws i lo hi = none → Bad aIT x H E i)
def spPass (aRd aIT : Addr) : Sp := fun vs H Q E => ∃ (x wl : Addr) (ws : List Str) (i : Nat) (s : Str), vs = [.ref x, .str s] ∧ Rdr aRd H x wl ws i ∧ (ws[i]? = some s → ∀ H', Kx x H H' → RdAt aRd H' x wl (i + 1) → Q .non H') ∧ (ws[i]? ≠ some s → Bad aIT x H E i)
def spMore (aRd : Addr) : Sp := fun vs H Q _ => ∃ (x wl : Addr) (ws : List Str) (i : Nat), vs = [.ref x] ∧ Rdr aRd H x wl ws i ∧ Q (.bl (decide (i < ws.length))) H
section
variable {K : PySem.W.Frag}
theorem ok_InvalidText (F : ErrAt K mg "InvalidText" "InvalidText.__init__" s_InvalidText__init aIT) (T : Txt K mg aGround aNum aInv aIT aRd) : ErrOk P w K mg base 1 "InvalidText" aIT ["self", "at"] (spInitF K aIT "at") := by
  refine F.ok sc_InvalidText__init (fun _ _ _ _ _ _ us hl => match us, hl with | [_, _], _ => rfl) (fun vs H Q E h => ?_) (fun f cdv A outer s H vs Q E hr h => ?_)
  · obtain ⟨a, x, rfl, _⟩ := h
    rfl
  · obtain ⟨a, x, rfl, oc, hno, ha, k⟩ := h
    refine ⟨_, (pss_cons (ps_expr (pe_ginit rfl T.m_GroundError T.b_GroundError (pa_cons (pv 0) (pa_cons pe_str pa_nil))))
  (pss_one (ps_ost (pv 0) (pv 1)))), ?_⟩
    tm_at "go"
    refine ⟨a, aIT, _, rfl, Nat.le_of_ble_eq_true rfl, oc, ha, ?_⟩
    refine ⟨x, rfl, .ref a, rfl, a, aIT, rfl, oc, hno, .inl ⟨ha, fun dx h1 h2 => ?_⟩⟩
    exact k dx h1 h2
theorem ok_RInit {f0 : Addr} {fd0 : FuncData} (F : Fun K "__init__" "NumbersReader.__init__" s_NumbersReader__init f0 fd0) (T : Txt K mg aGround aNum aInv aIT aRd) : FnOk P w K mg base CX0 1 f0 fd0 ["self", "words"] (spRInit aRd) := by
  refine F.ok sc_NumbersReader__init (fun vs H Q E h => ?_) (fun cdv A outer s H vs Q E hr h => ?_)
  · obtain ⟨x, dx, wl, rfl, _⟩ := h
    rfl
  · obtain ⟨x, dx, wl, rfl, hx, k⟩ := h
    refine ⟨_, (pss_cons (ps_fl K (pv 0) (pv 1))
  (pss_one (ps_fl K (pv 0) pe_int))), ?_⟩
    tm_at "go"
    refine r_put hx T.clR T.rW (by decide) ?_
    tm_at "go"
    refine r_put upd_same T.clR T.rA (Nat.lt_of_le_of_lt (putF_len ..) (by decide)) ?_
    tm_at "go"
    rw [upd_upd]
    exact k
theorem ok_next_word (F : MetAt K aRd "next_word" "NumbersReader.next_word" s_NumbersReader_next_word) (T : Txt K mg aGround aNum aInv aIT aRd) (R_InvalidText : ErrOk P w K mg base 1 "InvalidText" aIT ["self", "at"] (spInitF K aIT "at")) :
    MetOk P w K mg base (L2.CX P w) 3 aRd "next_word" ["self"] (spNextW aRd aIT) := by
  refine F.okX sc_NumbersReader_next_word (fun _ _ _ _ _ _ us hl => match us, hl with | [_], _ => rfl) (fun vs H Q E h => ?_) (fun f cdv A outer s H vs Q E hr h => ?_)
  · obtain ⟨x, wl, ws, i, rfl, _⟩ := h
    rfl
  · obtain ⟨x, wl, ws, i, rfl, R, kY, kN⟩ := h
    refine ⟨_, (pss_cons (ps_if (pt_cmpR (o_eq K hr.units) (pe_fl K (pv 0)) (pe_callB (c_len K) (by rfl) T.n_len (by decide +kernel) (pa_cons (pe_fl K (pv 0)) pa_nil)) (nomark _)) (pss_one (ps_raise rfl (takes_of rfl rfl rfl rfl) (pmkF R_InvalidText (hr.mono (by decide)) rfl (pa_cons (pe_fl K (pv 0)) pa_nil))))
  pss_nil)
  (pss_cons (ps_fldaug (pv 0) pe_int in_add)
  (pss_one (ps_ret (pe_ix (ix_u K) (pe_fl K (pv 0)) (pe_op o_sub (pe_fl K (pv 0)) pe_int) (fun _ _ => rfl)))))), ?_⟩
    obtain ⟨dx, hx⟩ := R.rd
    have hw := R.wl
    have nwx := R.ne
    have hle := R.le
    tm_at "go"
    refine r_get hx T.clR T.rA (rdF_at ..) ?_
    tm_at "go"
    refine r_get hx T.clR T.rW (rdF_words ..) ?_
    tm_at "go"
    refine r_eq rfl ?_
    rw [decInt, List.length_map]
    tm_at "go"
    refine r_id (fun c => ?_) (fun c => ?_)
    · tm_at "go"
      refine r_mkAt R_InvalidText.2.1 T.xwT rfl hx T.clR T.rA (rdF_at ..) fun d hd => ?_
      exact kN (List.getElem?_eq_none (by omega)) d H Kx.refl hd
    · have hi : i < ws.length := by omega
      have hj : ws[i]? = some ws[i] := List.getElem?_eq_getElem hi
      generalize ws[i] = w0 at hj
      tm_at "go"
      refine r_fldaug ?_
      tm_at "go"
      refine r_getA hx T.clR T.rA (rdF_at ..) ?_
      tm_at "go"
      refine ⟨_, _, rfl, rfl, dx, rdF wl i, hx, rdF_len .., ?_⟩
      rw [show (i : Int) + 1 = ((i + 1 : Nat) : Int) by omega, rdF_set]
      have hx2 : upd H x (.ins aRd dx (rdF wl (i + 1))) x = some (.ins aRd dx (rdF wl (i + 1))) := upd_same
      have hw2 := at_upd (u := .ins aRd dx (rdF wl (i + 1))) nwx hw
      have kx : Kx x H (upd H x (.ins aRd dx (rdF wl (i + 1)))) := Kx.refl.set
      generalize upd H x (.ins aRd dx (rdF wl (i + 1))) = H2 at hx2 hw2 kx ⊢
      tm_at "go"
      refine r_get hx2 T.clR T.rW (rdF_words ..) ?_
      tm_at "go"
      refine r_get hx2 T.clR T.rA (rdF_at ..) ?_
      tm_at "go"
      refine r_ixL (SqL.of hw2) (v := .str w0) (by rw [show ((i + 1 : Nat) : Int) - 1 = (i : Int) by omega]; exact atI_nat (by rw [List.getElem?_map, hj]; rfl)) ?_
      exact kY w0 hj H2 kx ⟨dx, hx2⟩
theorem ok_next_number (F : MetAt K aRd "next_number" "NumbersReader.next_number" s_NumbersReader_next_number) (T : Txt K mg aGround aNum aInv aIT aRd) (R_InvalidText : ErrOk P w K mg base 1 "InvalidText" aIT ["self", "at"] (spInitF K aIT "at"))
    (M_NumbersReader_next_word : MetOk P w K mg base (L2.CX P w) 3 aRd "next_word" ["self"] (spNextW aRd aIT)) (D_number_of : DefOk P w K mg base CX0 1 "number_of" ["word"] spNumOf) :
    MetOk P w K mg base (L2.CX P w) 4 aRd "next_number" ["self", "least", "most"] (spNextN aRd aIT) := by
  refine F.okX sc_NumbersReader_next_number (fun _ _ _ _ _ _ us hl => match us, hl with | [_, _, _], _ => rfl) (fun vs H Q E h => ?_) (fun f cdv A outer s H vs Q E hr h => ?_)
  · obtain ⟨x, wl, ws, i, lo, hi, rfl, _⟩ := h
    rfl
  · obtain ⟨x, wl, ws, i, lo, hi, rfl, R, kY, kN⟩ := h
    refine ⟨_, (pss_cons (ps_set (i := 3) sc_NumbersReader_next_number.nd rfl (Or.inl rfl) (pe_callD D_number_of (hr.mono (by decide)) pass0 rfl (pa_cons (pe_metD0 M_NumbersReader_next_word (hr.mono (by decide)) (passT (takes_of rfl rfl rfl rfl)) (pv 0)) pa_nil)))
  (pss_cons (ps_if (PW.pt (pw_or (pt_cmpR o_is (pv 3) pe_non (nomark _)) (pw_or1 (pt_not (pt_chain o_le o_le (pv 1) (pv 3) (pv 2)))))) (pss_one (ps_raise rfl (takes_of rfl rfl rfl rfl) (pmkF R_InvalidText (hr.mono (by decide)) rfl (pa_cons (pe_op o_sub (pe_fl K (pv 0)) pe_int) pa_nil))))
  pss_nil)
  (pss_one (ps_ret (pv 3))))), ?_⟩
    obtain ⟨dx, hx⟩ := R.rd
    tm_at "go"
    refine r_obj hx (rdF_no _ _ (by decide +kernel) (by decide +kernel)) ?_
    tm_at "go"
    refine ⟨x, wl, ws, i, rfl, R, fun w0 hj H1 k1 r1 => ?_, fun hj => kN (numAt_end hj)⟩
    have w0ok := R.ok w0 (List.mem_of_getElem? hj)
    tm_at "go"
    refine ⟨w0, rfl, w0ok.1, w0ok.2, fun H2 s2 => ?_⟩
    have k2 : Kx x H H2 := k1.same s2
    have r2 : RdAt aRd H2 x wl (i + 1) := let ⟨dx, h⟩ := r1; ⟨dx, s2 _ _ h⟩
    obtain ⟨dy, hx2⟩ := r2
    have bad : (∀ n, numOf w0 = some n → ¬ (lo ≤ n ∧ (n : Int) ≤ hi)) → numAt ws i lo hi = none := fun h => by
      cases e : numAt ws i lo hi with
      | none => rfl
      | some n =>
        have := numAt_some hj e
        exact absurd this.2 (h n this.1)
    have rz : ∀ σ : St, σ[0]? = some (some (V.ref x)) → numAt ws i lo hi = none → tMkO aIT (spInitF K aIT "at") [] (tCons (tOp uSub (tFld K (tVar 0) "at") (tC (.int 1))) tNil) σ H2 E := fun σ hs h =>
      r_mkAt1 R_InvalidText.2.1 T.xwT hs hx2 T.clR T.rA (rdF_at ..) (show ((i + 1 : Nat) : Int) - 1 = (i : Int) by omega) fun d hd => kN h d H2 k2 hd
    tm_at "go"
    cases e : numOf w0 with
    | none =>
      rw [show optI none = V.non from rfl]
      tm_at "go"
      exact rz _ rfl (bad fun n hn => by rw [e] at hn; exact nomatch hn)
    | some n =>
      rw [show optI (some n) = V.int ((n : Nat) : Int) from rfl]
      tm_at "go"
      refine r_Fd (fun z => nomatch z) ?_
      tm_at "go"
      refine r_id (fun c1 => ?_) (fun c1 => ?_)
      · tm_at "go"
        refine r_nid (fun c2 => ?_) (fun c2 => ?_)
        · tm_at "go"
          exact rz _ rfl (bad fun m hm z => by rw [e] at hm; cases hm; exact c2 z.2)
        · tm_at "go"
          refine kY n ?_ H2 k2 ⟨dy, hx2⟩
          unfold numAt
          rw [hj]
          show ((numOf w0).bind _) = _
          rw [e]
          exact if_pos ⟨by omega, c2⟩
      · tm_at "go"
        exact rz _ rfl (bad fun m hm z => by rw [e] at hm; cases hm; exact c1 (by omega))
theorem ok_pass_sign (F : MetAt K aRd "pass_sign" "NumbersReader.pass_sign" s_NumbersReader_pass_sign) (T : Txt K mg aGround aNum aInv aIT aRd) (R_InvalidText : ErrOk P w K mg base 1 "InvalidText" aIT ["self", "at"] (spInitF K aIT "at"))
    (M_NumbersReader_next_word : MetOk P w K mg base (L2.CX P w) 3 aRd "next_word" ["self"] (spNextW aRd aIT)) : MetOk P w K mg base (L2.CX P w) 4 aRd "pass_sign" ["self", "word"] (spPass aRd aIT) := by
  refine F.okX sc_NumbersReader_pass_sign (fun _ _ _ _ _ _ us hl => match us, hl with | [_, _], _ => rfl) (fun vs H Q E h => ?_) (fun f cdv A outer s H vs Q E hr h => ?_)
  · obtain ⟨x, wl, ws, i, s, rfl, _⟩ := h
    rfl
  · obtain ⟨x, wl, ws, i, sn, rfl, R, kY, kN⟩ := h
    refine ⟨_, (pss_one (ps_if (pt_cmpR (o_ne K hr.units) (pe_metD0 M_NumbersReader_next_word (hr.mono (by decide)) (passT (takes_of rfl rfl rfl rfl)) (pv 0)) (pv 1) (nomark _)) (pss_one (ps_raise rfl (takes_of rfl rfl rfl rfl) (pmkF R_InvalidText (hr.mono (by decide)) rfl (pa_cons (pe_op o_sub (pe_fl K (pv 0)) pe_int) pa_nil))))
  pss_nil)), ?_⟩
    obtain ⟨dx, hx⟩ := R.rd
    tm_at "go"
    refine r_obj hx (rdF_no _ _ (by decide +kernel) (by decide +kernel)) ?_
    tm_at "go"
    refine ⟨x, wl, ws, i, rfl, R, fun w0 hj H1 k1 r1 => ?_, fun hj => kN (by rw [hj]; exact fun z => nomatch z)⟩
    obtain ⟨dy, hx1⟩ := r1
    tm_at "go"
    refine r_ne rfl ?_
    rw [decS]
    tm_at "go"
    refine r_nid (fun c => ?_) (fun c => ?_)
    · tm_at "go"
      exact r_mkAt1 R_InvalidText.2.1 T.xwT rfl hx1 T.clR T.rA (rdF_at ..) (show ((i + 1 : Nat) : Int) - 1 = (i : Int) by omega) fun d hd => kN (by rw [hj]; exact fun z => c (Option.some.inj z)) d H1 k1 hd
    · tm_at "go"
      exact kY (by rw [hj, c]) H1 k1 ⟨dy, hx1⟩
theorem ok_has_more (F : MetAt K aRd "has_more" "NumbersReader.has_more" s_NumbersReader_has_more) (T : Txt K mg aGround aNum aInv aIT aRd) : MetOk P w K mg base CX0 1 aRd "has_more" ["self"] (spMore aRd) := by
  refine F.ok sc_NumbersReader_has_more (fun _ _ _ _ _ _ us hl => match us, hl with | [_], _ => rfl) (fun vs H Q E h => ?_) (fun f cdv A outer s H vs Q E hr h => ?_)
  · obtain ⟨x, wl, ws, i, rfl, _⟩ := h
    rfl
  · obtain ⟨x, wl, ws, i, rfl, R, k⟩ := h
    refine ⟨_, (pss_one (ps_ret (pe_cmpR o_lt (pe_fl K (pv 0)) (pe_callB (c_len K) (by rfl) T.n_len (by decide +kernel) (pa_cons (pe_fl K (pv 0)) pa_nil)) (nomark _)))), ?_⟩
    obtain ⟨dx, hx⟩ := R.rd
    have hw := R.wl
    tm_at "go"
    refine r_get hx T.clR T.rA (rdF_at ..) ?_
    tm_at "go"
    refine r_get hx T.clR T.rW (rdF_words ..) ?_
    tm_at "go"
    rw [List.length_map, show decide (((i : Nat) : Int) < ((ws.length : Nat) : Int)) = decide (i < ws.length) by simp]
    exact k
end
/-! ### told_form -/
theorem Kx.add {a p : Addr} {H H1 : Hp} {o : HO} (h : Kx a H H1) (hp : H1 p = none) : Kx a H (upd H1 p o) := fun q u n e => at_upd (ne_of_none (h q u n e) hp) (h q u n e)
theorem Kx.free {a p : Addr} {H H1 : Hp} (h : Kx a H H1) (n : p ≠ a) (hp : H1 p = none) : H p = none := by
  cases e : H p with
  | none => rfl
  | some o =>
    rw [h p o n e] at hp
    exact nomatch hp
theorem Bad.kx {aIT x : Addr} {H H' : Hp} {E : XK} {i : Nat} (b : Bad aIT x H E i) (k : Kx x H H') : Bad aIT x H' E i := fun d H2 k2 hd => b d H2 (k.trans k2) hd
theorem max_mx {L : List Nat} {b : Nat} (h : Asc L 1 b) {m : Int} (hm : m ∈ (0 :: L).map fun (n : Nat) => (n : Int)) (hle : ∀ y, y ∈ ((0 :: L).map fun (n : Nat) => (n : Int)) → y ≤ m) : m = ((mx L : Nat) : Int) := by
  obtain ⟨mm, hmm, rfl⟩ := List.mem_map.mp hm
  have hle : ∀ n ∈ 0 :: L, n ≤ mm := fun n hn => by
    have := hle (n : Int) (List.mem_map.mpr ⟨n, hn, rfl⟩)
    omega
  rcases List.eq_nil_or_concat L with rfl | ⟨L0, n, rfl⟩
  · rw [List.mem_singleton.mp hmm]
    rfl
  · rw [List.concat_eq_append] at *
    rw [mx_snoc]
    have h1 := hle n (List.mem_cons_of_mem _ (List.mem_append_right _ (List.mem_singleton.mpr rfl)))
    rcases List.mem_cons.mp hmm with e | e
    · omega
    · rcases List.mem_append.mp e with e | e
      · have := (List.pairwise_append.mp h.1).2.2 mm e n (List.mem_singleton.mpr rfl)
        omega
      · rw [List.mem_singleton.mp e]
theorem atI_last {R : List Nat} (h : R ≠ []) : ∃ n : Nat, atI (natV R) (-1) = some (.int ((n : Nat) : Int)) ∧ n + 1 = lo R := by
  rcases List.eq_nil_or_concat R with rfl | ⟨L0, n, rfl⟩
  · exact absurd rfl h
  · rw [List.concat_eq_append]
    refine ⟨n, ?_, (lo_snoc ..).symm⟩
    unfold atI ixN natV
    rw [if_neg (by omega), List.length_map, List.length_append, if_pos (by show -(((L0.length + 1 : Nat) : Int)) ≤ -1; omega)]
    show (List.map _ _)[((-1 : Int) + ((L0.length + 1 : Nat) : Int)).toNat]? = _
    rw [show ((-1 : Int) + ((L0.length + 1 : Nat) : Int)).toNat = L0.length by omega, List.getElem?_map, List.getElem?_append_right (Nat.le_refl _), Nat.sub_self]
    rfl
theorem numAt_lt {ws : List Str} {i lo n : Nat} {hi : Int} (h : numAt ws i lo hi = some n) : i + 1 ≤ ws.length := by
  cases e : ws[i]? with
  | none =>
    rw [numAt_end e] at h
    exact nomatch h
  | some w => exact (List.getElem?_eq_some_iff.mp e).1
theorem numAt_ge {ws : List Str} {i lo n : Nat} {hi : Int} (h : numAt ws i lo hi = some n) : lo ≤ n := by
  cases e : ws[i]? with
  | none =>
    rw [numAt_end e] at h
    exact nomatch h
  | some w => exact (numAt_some e h).2.1
abbrev SeqA (K : PySem.W.Frag) (H : Hp) (a : Addr) (L : List Nat) : Prop := SqL K H a (natV L) ∨ SqT K H a (natV L)
def spTold4 (K : PySem.W.Frag) (aRd aIT : Addr) : Sp := fun vs H Q E => ∃ (x wl : Addr) (ws : List Str), vs = [.ref x] ∧ Rdr aRd H x wl ws 0 ∧ ws ≠ [] ∧
  (∀ L s p R, readP ws = .inr (L, s, p, R) → ∀ (t a1 a2 : Addr) (H' : Hp), Kx x H H' → H' t = some (.tup [.ref a1, .int ((s : Nat) : Int), .int ((p : Nat) : Int), .ref a2]) → SeqA K H' a1 L → SeqA K H' a2 R → Q (.ref t) H') ∧
  ∀ k, readP ws = .inl k → Bad aIT x H E k
section
variable {K : PySem.W.Frag}
theorem ok_told_form (F : MetAt K aRd "told_form" "NumbersReader.told_form" s_NumbersReader_told_form) (T : Txt K mg aGround aNum aInv aIT aRd) (R_InvalidText : ErrOk P w K mg base 1 "InvalidText" aIT ["self", "at"] (spInitF K aIT "at"))
    (M_NumbersReader_next_number : MetOk P w K mg base (L2.CX P w) 4 aRd "next_number" ["self", "least", "most"] (spNextN aRd aIT)) (M_NumbersReader_pass_sign : MetOk P w K mg base (L2.CX P w) 4 aRd "pass_sign" ["self", "word"] (spPass aRd aIT))
    (M_NumbersReader_has_more : MetOk P w K mg base CX0 1 aRd "has_more" ["self"] (spMore aRd)) : MetOk P w K mg base (L2.CX P w) 5 aRd "told_form" ["self"] (spTold4 K aRd aIT) := by
  refine F.okX sc_NumbersReader_told_form (fun _ _ _ _ _ _ us hl => match us, hl with | [_], _ => rfl) (fun vs H Q E h => ?_) (fun f cdv A outer s H vs Q E hr h => ?_)
  · obtain ⟨x, wl, ws, rfl, _⟩ := h
    rfl
  · obtain ⟨x, wl, ws, rfl, R, wne, kY, kN⟩ := h
    refine ⟨_, (pss_cons (ps_if (pt_cmpR (o_eq K hr.units) (pe_ix (ix_u K) (pe_fl K (pv 0)) pe_int (fun _ _ => rfl)) pe_str (nomark _)) (pss_cons (ps_fl K (pv 0) pe_int)
  (pss_cons (ps_if (pt_tr K (pe_metD0 M_NumbersReader_has_more (hr.mono (by decide)) pass0 (pv 0))) (pss_one (ps_raise rfl (takes_of rfl rfl rfl rfl) (pmkF R_InvalidText (hr.mono (by decide)) rfl (pa_cons pe_int pa_nil))))
  pss_nil)
  (pss_one (ps_ret (pe_tup (pa_cons (pe_tup pa_nil) (pa_cons pe_int (pa_cons pe_int (pa_cons (pe_tup pa_nil) pa_nil)))))))))
  pss_nil)
  (pss_cons (ps_set (i := 1) sc_NumbersReader_told_form.nd rfl (Or.inl rfl) (pe_lst pa_nil))
  (pss_cut (ps_while (passes_of rfl) (PW.pt (pw_and (pt_tr K (pe_metD0 M_NumbersReader_has_more (hr.mono (by decide)) pass0 (pv 0))) (pw_and1 (pt_cmpR (o_ne K hr.units) (pe_ix (ix_u K) (pe_fl K (pv 0)) (pe_fl K (pv 0)) (fun _ _ => rfl)) pe_str (nomark _)))))
  (pss_one (ps_expr (pe_bm PySem.F.plainAttrs_list PySem.F.slot_list_append PySem.F.type_list_append mt_append (pv 1) (pa_cons (pe_metD M_NumbersReader_next_number (hr.mono (by decide)) (passT (takes_of rfl rfl rfl rfl)) (pv 0) (pa_cons (pe_op (o_add K) (pe_callBK (cr_maxKey K rfl) (by rfl) T.n_max (by decide +kernel) (pa_cons (pe_lst (pa_cons pe_int (pa_starK K (pv 1) pa_nil))) pa_nil) (pk_cons (pe_bT (T := "int") (by rfl) T.n_int (by decide +kernel)) pk_nil)) pe_int) (pa_cons (pe_gI rfl T.m_HUGE) pa_nil))) pa_nil)))))
  (pss_cons (ps_set (i := 2) sc_NumbersReader_told_form.nd rfl (Or.inl rfl) (pe_callBK (cr_maxKey K rfl) (by rfl) T.n_max (by decide +kernel) (pa_cons (pe_lst (pa_cons pe_int (pa_starK K (pv 1) pa_nil))) pa_nil) (pk_cons (pe_bT (T := "int") (by rfl) T.n_int (by decide +kernel)) pk_nil)))
  (pss_cons (ps_if (pt_not (pt_tr K (pe_metD0 M_NumbersReader_has_more (hr.mono (by decide)) pass0 (pv 0)))) (pss_one (ps_ret (pe_tup (pa_cons (pv 1) (pa_cons (pe_op (o_add K) (pv 2) pe_int) (pa_cons pe_int (pa_cons (pe_tup pa_nil) pa_nil)))))))
  pss_nil)
  (pss_cons (ps_if (pt_cmpR (o_eq K hr.units) (pv 2) (pe_gI rfl T.m_MOST_TOLD) (nomark _)) (pss_one (ps_raise rfl (takes_of rfl rfl rfl rfl) (pmkF R_InvalidText (hr.mono (by decide)) rfl (pa_cons (pe_fl K (pv 0)) pa_nil))))
  pss_nil)
  (pss_cons (ps_expr (pe_metD M_NumbersReader_pass_sign (hr.mono (by decide)) (passT (takes_of rfl rfl rfl rfl)) (pv 0) (pa_cons pe_str pa_nil)))
  (pss_cons (ps_set (i := 3) sc_NumbersReader_told_form.nd rfl (Or.inl rfl) (pe_metD M_NumbersReader_next_number (hr.mono (by decide)) (passT (takes_of rfl rfl rfl rfl)) (pv 0) (pa_cons (pe_op (o_add K) (pv 2) pe_int) (pa_cons (pe_gI rfl T.m_HUGE) pa_nil))))
  (pss_cons (ps_expr (pe_metD M_NumbersReader_pass_sign (hr.mono (by decide)) (passT (takes_of rfl rfl rfl rfl)) (pv 0) (pa_cons pe_str pa_nil)))
  (pss_cons (ps_set (i := 4) sc_NumbersReader_told_form.nd rfl (Or.inl rfl) (pe_metD M_NumbersReader_next_number (hr.mono (by decide)) (passT (takes_of rfl rfl rfl rfl)) (pv 0) (pa_cons pe_int (pa_cons (pe_gI rfl T.m_HUGE) pa_nil))))
  (pss_cons (ps_expr (pe_metD M_NumbersReader_pass_sign (hr.mono (by decide)) (passT (takes_of rfl rfl rfl rfl)) (pv 0) (pa_cons pe_str pa_nil)))
  (pss_cons (ps_set (i := 5) sc_NumbersReader_told_form.nd rfl (Or.inl rfl) (pe_lst (pa_cons (pe_metD M_NumbersReader_next_number (hr.mono (by decide)) (passT (takes_of rfl rfl rfl rfl)) (pv 0) (pa_cons pe_int (pa_cons (pe_op o_sub (pv 4) pe_int) pa_nil))) pa_nil)))
  (pss_cut (ps_while (passes_of rfl) (pt_tr K (pe_metD0 M_NumbersReader_has_more (hr.mono (by decide)) pass0 (pv 0)))
  (pss_one (ps_expr (pe_bm PySem.F.plainAttrs_list PySem.F.slot_list_append PySem.F.type_list_append mt_append (pv 5) (pa_cons (pe_metD M_NumbersReader_next_number (hr.mono (by decide)) (passT (takes_of rfl rfl rfl rfl)) (pv 0) (pa_cons (pe_op (o_add K) (pe_ix (ix_u K) (pv 5) (pe_un un_neg pe_int) (fun _ _ => rfl)) pe_int) (pa_cons (pe_op o_sub (pv 4) pe_int) pa_nil))) pa_nil)))))
  (pss_one (ps_ret (pe_tup (pa_cons (pv 1) (pa_cons (pv 3) (pa_cons (pv 4) (pa_cons (pv 5) pa_nil)))))))))))))))))))), ?_⟩
    obtain ⟨dx, hx⟩ := R.rd
    have hw := R.wl
    have z1000 := R.sz
    have no : ∀ i, ∀ {f : Str}, f ≠ "at" → f ≠ "words" → (rdF wl i).lookup f = none := fun i f h1 h2 => rdF_no wl i h1 h2
    have wpos : 0 < ws.length := List.length_pos_iff.mpr wne
    have hj0 : ws[0]? = some ws[0] := List.getElem?_eq_getElem wpos
    generalize ws[0] = w0 at hj0
    tm_at "go"
    refine r_get hx T.clR T.rW (rdF_words ..) ?_
    tm_at "go"
    refine r_ixL (SqL.of hw) (atI_nat (j := 0) (v := .str w0) (by rw [List.getElem?_map, hj0]; rfl)) ?_
    tm_at "go"
    refine r_eq rfl ?_
    rw [decS]
    tm_at "go"
    refine r_id (fun c0 => ?_) (fun c0 => ?_)
    · rw [c0] at hj0
      have rp : readP ws = if ws.length = 1 then .inr ([], 1, 1, []) else .inl 1 := by
        unfold readP
        exact if_pos hj0
      tm_at "go"
      refine r_put hx T.clR T.rA (rdF_len ..) ?_
      rw [show putF "at" (.int 1) (rdF wl 0) = rdF wl 1 from rdF_set wl 0 1]
      have hx2 : upd H x (.ins aRd dx (rdF wl 1)) x = some (.ins aRd dx (rdF wl 1)) := upd_same
      have R2 : Rdr aRd (upd H x (.ins aRd dx (rdF wl 1))) x wl ws 1 := R.go Kx.refl.set ⟨dx, hx2⟩ (by omega)
      have kx : Kx x H (upd H x (.ins aRd dx (rdF wl 1))) := Kx.refl.set
      generalize upd H x (.ins aRd dx (rdF wl 1)) = H2 at hx2 R2 kx ⊢
      tm_at "go"
      refine r_obj hx2 (no _ (by decide +kernel) (by decide +kernel)) ?_
      tm_at "go"
      refine ⟨x, wl, ws, 1, rfl, R2, ?_⟩
      tm_at "go"
      refine r_id (fun c1 => ?_) (fun c1 => ?_)
      · tm_at "go"
        refine r_mkS R_InvalidText.2.1 T.xwT fun d hd => ?_
        exact kN 1 (rp.trans (if_neg (by omega))) d H2 kx hd
      · tm_at "go"
        refine ⟨szl rfl, fun a1 ha1 => ?_⟩
        tm_at "go"
        refine ⟨szl rfl, fun a2 ha2 => ?_⟩
        tm_at "go"
        refine ⟨szl rfl, fun t ht => ?_⟩
        exact kY [] 1 1 [] (rp.trans (if_pos (by omega))) t a1 a2 _ (((kx.add ha1).add ha2).add ht) upd_same (.inr (SqT.of (at_upd (ne_of_none (at_upd (ne_of_none upd_same ha2) upd_same) ht) (at_upd (ne_of_none upd_same ha2) upd_same)))) (.inr (SqT.of (at_upd (ne_of_none upd_same ht) upd_same)))
    have n0 : ws[0]? ≠ some ("none" : Str) := by rw [hj0]; exact fun z => c0 (Option.some.inj z)
    have rP : ∀ L, (rdOnes 0 ws).1 = L → readP ws = if L.length < ws.length ∧ ws[L.length]? = some ("from" : Str) ∧ mx L = 999999 then .inl L.length else onesN ws L := fun L e => by
      unfold readP
      rw [if_neg n0, e]
    clear hj0 c0 n0 wpos
    tm_at "go"
    refine ⟨szl rfl, fun l hl0 => ?_⟩
    tm_at "go"
    have nlx : l ≠ x := Ne.symm (ne_of_none hx hl0)
    have mxL : ∀ {L : List Nat} {H' : Hp} {R : V → Hp → Prop}, Asc L 1 (mx L + 1) → H' l = some (.lst (natV L)) → (∀ p, H' p = none → R (.int ((mx L : Nat) : Int)) (upd H' p (.lst (.int 0 :: natV L)))) → ∀ p, H' p = none → rMaxKey K [.ref p] [.ty "int"] (upd H' p (.lst (.int 0 :: natV L))) R := fun {L H' R} asc hl k p hp => by
      refine r_maxK (ns := (0 :: L).map fun (n : Nat) => (n : Int)) (SqL.of (by rw [upd_same, List.map_map]; rfl)) (by rw [List.length_map]; exact Nat.zero_lt_succ _) fun m hm hle => ?_
      rw [max_mx asc hm hle]
      exact k p hp
    refine r_cut (fun σ' H' => ∃ L, σ' = [some (.ref x), some (.ref l), none, none, none, none] ∧ Kx x H H' ∧ Rdr aRd H' x wl ws L.length ∧ H' l = some (.lst (natV L)) ∧ OnesK ws L ∧ (L.length = ws.length ∨ ws[L.length]? = some ("from" : Str))) ?_ ?_
    · refine ⟨fun m σ' H' => ∃ L, m = ws.length - L.length ∧ σ' = [some (.ref x), some (.ref l), none, none, none, none] ∧ Kx x H H' ∧ Rdr aRd H' x wl ws L.length ∧ H' l = some (.lst (natV L)) ∧ OnesK ws L, ⟨_, [], rfl, rfl, Kx.refl.new hl0, R.same (same_new hl0), upd_same, OnesK.nil ws⟩, ?_⟩
      rintro m σ' H1 ⟨L, rfl, rfl, k1, R1, hl, I⟩
      obtain ⟨dx1, hx1⟩ := R1.rd
      tm_at "go"
      refine r_obj hx1 (no _ (by decide +kernel) (by decide +kernel)) ?_
      tm_at "go"
      refine ⟨x, wl, ws, L.length, rfl, R1, ?_⟩
      tm_at "go"
      refine r_id (fun c1 => ?_) (fun c1 => ?_)
      rotate_left
      · tm_at "go"
        exact ⟨L, rfl, k1, R1, hl, I, .inl (by have := I.le; omega)⟩
      have hj : ws[L.length]? = some ws[L.length] := List.getElem?_eq_getElem c1
      generalize ws[L.length] = w1 at hj
      tm_at "go"
      refine r_get hx1 T.clR T.rW (rdF_words ..) ?_
      tm_at "go"
      refine r_get hx1 T.clR T.rA (rdF_at ..) ?_
      tm_at "go"
      refine r_ixL (SqL.of R1.wl) (v := .str w1) (atI_nat (by rw [List.getElem?_map, hj]; rfl)) ?_
      tm_at "go"
      refine r_ne rfl ?_
      rw [decS]
      tm_at "go"
      refine r_nid (fun c2 => ?_) (fun c2 => ?_)
      rotate_left
      · tm_at "go"
        exact ⟨L, rfl, k1, R1, hl, I, .inr (by rw [hj, c2])⟩
      refine ⟨fun σ2 H2 => ∃ L2, ws.length - L2.length < ws.length - L.length ∧ σ2 = [some (.ref x), some (.ref l), none, none, none, none] ∧ Kx x H H2 ∧ Rdr aRd H2 x wl ws L2.length ∧ H2 l = some (.lst (natV L2)) ∧ OnesK ws L2, fun σ2 H2 ⟨L2, h1, h2⟩ => ⟨_, h1, L2, rfl, h2⟩, ?_⟩
      have zL : L.length ≤ 1000 := by omega
      tm_at "go"
      refine ⟨.inl ⟨rfl, _, SqL.of hl⟩, ?_⟩
      tm_at "go"
      refine r_obj hx1 (no _ (by decide +kernel) (by decide +kernel)) ?_
      tm_at "go"
      refine r_st (.inr (SqL.of hl)) ?_
      tm_at "go"
      rw [List.append_nil]
      refine ⟨sz (by rw [List.length_cons, List.length_map]; omega), fun p hp => ?_⟩
      tm_at "go"
      refine mxL I.asc hl (fun p hp => ?_) p hp
      tm_at "go"
      rw [show ((mx L : Nat) : Int) + 1 = ((mx L + 1 : Nat) : Int) by omega]
      refine ⟨x, wl, ws, L.length, mx L + 1, _, rfl, R1.same (same_new hp), fun n hn H2 k2 r2 => ?_, fun hn => ?_⟩
      · have k3 : Kx x H1 H2 := (Kx.refl.new hp).trans k2
        have hl2 := k3.at nlx hl
        have R2 : Rdr aRd H2 x wl ws (L.length + 1) := R1.go k3 r2 c1
        tm_at "go"
        refine r_append hl2 (szlt (by rw [List.length_map]; exact Nat.ble_eq_true_of_le (by omega))) ?_
        have nll : wl ≠ l := by
          have := R1.ne
          intro e
          have z := R.wl
          rw [e, hl0] at z
          exact nomatch z
        refine ⟨L ++ [n], by rw [List.length_append]; show _ - (L.length + 1) < _; omega, rfl, (k1.trans k3).new hl0, ?_, ?_, I.snoc hj c2 hn⟩
        · obtain ⟨dy, hy⟩ := R2.rd
          rw [List.length_append]
          exact ⟨⟨dy, at_upd (Ne.symm nlx) hy⟩, at_upd nll R2.wl, R2.le, R2.sz, R2.ok⟩
        · rw [upd_same]
          unfold natV
          rw [List.map_append]
          rfl
      · have e := I.stop (by decide) (.inr (.inr hn))
        have rr := rP L e
        rw [if_neg fun z => c2 (Option.some.inj (hj.symm.trans z.2.1))] at rr
        unfold onesN at rr
        rw [if_neg (by omega), if_pos (by rw [hj]; exact fun z => c2 (Option.some.inj z))] at rr
        exact ((kN _ rr).kx k1).kx (Kx.refl.new hp)
    rintro σ' H1 ⟨L, rfl, k1, R1, hl, I, hend⟩
    have eL := I.stop (hi := 1000000) (by decide) (hend.imp id .inl)
    have rP := rP L eL
    have zL : L.length ≤ 1000 := Nat.le_trans I.le z1000
    clear hx hw hl0 R
    obtain ⟨dx1, hx1⟩ := R1.rd
    tm_at "go"
    refine r_st (.inr (SqL.of hl)) ?_
    tm_at "go"
    rw [List.append_nil]
    refine ⟨sz (by rw [List.length_cons, List.length_map]; omega), fun p hp => ?_⟩
    tm_at "go"
    refine mxL I.asc hl (fun p hp => ?_) p hp
    have hl := at_upd (u := .lst (.int 0 :: natV L)) (ne_of_none hl hp) hl
    have hx1 := at_upd (u := .lst (.int 0 :: natV L)) (ne_of_none hx1 hp) hx1
    have R1 := R1.same (same_new (o := .lst (.int 0 :: natV L)) hp)
    have k1 := k1.add (o := .lst (.int 0 :: natV L)) hp
    generalize upd H1 p (.lst (.int 0 :: natV L)) = H1 at hl hx1 R1 k1 ⊢
    tm_at "go"
    refine r_obj hx1 (no _ (by decide +kernel) (by decide +kernel)) ?_
    tm_at "go"
    refine ⟨x, wl, ws, L.length, rfl, R1, ?_⟩
    tm_at "go"
    refine r_nid (fun c1 => ?_) (fun c1 => ?_)
    · have cl : L.length = ws.length := by have := I.le; omega
      rw [if_neg (by omega)] at rP
      unfold onesN at rP
      rw [if_pos cl] at rP
      tm_at "go"
      rw [show ((mx L : Nat) : Int) + 1 = ((mx L + 1 : Nat) : Int) by omega]
      tm_at "go"
      refine ⟨szl rfl, fun a2 ha2 => ?_⟩
      tm_at "go"
      refine ⟨szl rfl, fun t ht => ?_⟩
      exact kY _ _ _ _ rP t l a2 _ ((k1.add ha2).add ht) upd_same (.inl (SqL.of (at_upd (ne_of_none (at_upd (ne_of_none hl ha2) hl) ht) (at_upd (ne_of_none hl ha2) hl)))) (.inr (SqT.of (at_upd (ne_of_none upd_same ht) upd_same)))
    have hf : ws[L.length]? = some ("from" : Str) := hend.resolve_left (by omega)
    tm_at "go"
    refine r_eq rfl ?_
    rw [decInt, show decide (((mx L : Nat) : Int) = 999999) = decide (mx L = 999999) from decide_eq_decide.mpr (by omega)]
    tm_at "go"
    refine r_id (fun c2 => ?_) (fun c2 => ?_)
    · rw [if_pos ⟨c1, hf, c2⟩] at rP
      tm_at "go"
      refine r_mkAt R_InvalidText.2.1 T.xwT rfl hx1 T.clR T.rA (rdF_at ..) fun d hd => ?_
      exact kN _ rP d H1 k1 hd
    rw [if_neg fun z => c2 z.2.2] at rP
    unfold onesN at rP
    rw [if_neg (by omega), if_neg (fun z => z hf)] at rP
    unfold fromN at rP
    tm_at "go"
    -- from
    refine r_obj hx1 (no _ (by decide +kernel) (by decide +kernel)) ?_
    tm_at "go"
    refine ⟨x, wl, ws, L.length, "from", rfl, R1, fun _ H2 k2 r2 => ?_, fun h => absurd hf h⟩
    have hl := k2.at nlx hl
    have R2 := R1.go k2 r2 c1
    have k2 := k1.trans k2
    clear hx1 R1 k1 hend
    obtain ⟨dx2, hx2⟩ := r2
    tm_at "go"
    -- since
    refine r_obj hx2 (no _ (by decide +kernel) (by decide +kernel)) ?_
    tm_at "go"
    rw [show ((mx L : Nat) : Int) + 1 = ((mx L + 1 : Nat) : Int) by omega]
    refine ⟨x, wl, ws, L.length + 1, mx L + 1, _, rfl, R2, fun s0 hs0 H3 k3 r3 => ?_, fun h => ?_⟩
    rotate_left
    · rw [numAt_hi (h2 := 1000000) (by decide) (by decide)] at h
      rw [h] at rP
      exact (kN _ rP).kx k2
    have hlt := numAt_lt hs0
    rw [numAt_hi (h2 := 1000000) (by decide) (by decide)] at hs0
    rw [hs0] at rP
    have hl := k3.at nlx hl
    have R3 := R2.go k3 r3 hlt
    have k3 := k2.trans k3
    clear hx2 R2 k2
    obtain ⟨dx3, hx3⟩ := r3
    tm_at "go"
    -- by
    refine r_obj hx3 (no _ (by decide +kernel) (by decide +kernel)) ?_
    tm_at "go"
    refine ⟨x, wl, ws, L.length + 2, "by", rfl, R3, fun hb H4 k4 r4 => ?_, fun h => ?_⟩
    rotate_left
    · have rP : readP ws = .inl (L.length + 2) := rP.trans (if_pos h)
      exact (kN _ rP).kx k3
    have rP := rP.trans (if_neg fun z => z hb)
    have hlt := (List.getElem?_eq_some_iff.mp hb).1
    have hl := k4.at nlx hl
    have R4 := R3.go k4 r4 hlt
    have k4 := k3.trans k4
    clear hx3 R3 k3
    obtain ⟨dx4, hx4⟩ := r4
    tm_at "go"
    -- period
    refine r_obj hx4 (no _ (by decide +kernel) (by decide +kernel)) ?_
    tm_at "go"
    refine ⟨x, wl, ws, L.length + 3, 1, _, rfl, R4, fun p0 hp0 H5 k5 r5 => ?_, fun h => ?_⟩
    rotate_left
    · rw [numAt_hi (h2 := 1000000) (by decide) (by decide)] at h
      rw [h] at rP
      exact (kN _ rP).kx k4
    have hlt := numAt_lt hp0
    have p1 := numAt_ge hp0
    rw [numAt_hi (h2 := 1000000) (by decide) (by decide)] at hp0
    rw [hp0] at rP
    have hl := k5.at nlx hl
    have R5 := R4.go k5 r5 hlt
    have k5 := k4.trans k5
    clear hx4 R4 k4
    obtain ⟨dx5, hx5⟩ := r5
    tm_at "go"
    -- :
    refine r_obj hx5 (no _ (by decide +kernel) (by decide +kernel)) ?_
    tm_at "go"
    refine ⟨x, wl, ws, L.length + 4, ":", rfl, R5, fun hb H6 k6 r6 => ?_, fun h => ?_⟩
    rotate_left
    · have rP : readP ws = .inl (L.length + 4) := rP.trans (if_pos h)
      exact (kN _ rP).kx k5
    have rP : readP ws = restsN ws L s0 p0 (L.length + 5) := rP.trans (if_neg fun z => z hb)
    have hlt := (List.getElem?_eq_some_iff.mp hb).1
    have hl := k6.at nlx hl
    have R6 := R5.go k6 r6 hlt
    have k6 := k5.trans k6
    clear hx5 R5 k5 hb hs0 hp0
    obtain ⟨dx6, hx6⟩ := r6
    have I0 : RestsK ws (L.length + 5) p0 [] := RestsK.nil hlt
    tm_at "go"
    -- the first rest
    refine r_obj hx6 (no _ (by decide +kernel) (by decide +kernel)) ?_
    tm_at "go"
    refine ⟨x, wl, ws, L.length + 5, 0, _, rfl, R6, fun n hn H7 k7 r7 => ?_, fun h => ?_⟩
    rotate_left
    · have e := I0.stop (.inr h)
      unfold restsN at rP
      rw [e] at rP
      exact (kN _ rP).kx k6
    have I1 := I0.snoc hn
    have hlt := numAt_lt hn
    have hl := k7.at nlx hl
    have R7 := R6.go k7 r7 hlt
    have k7 := k6.trans k7
    clear hx6 R6 k6 I0
    tm_at "go"
    refine ⟨szl rfl, fun q hq => ?_⟩
    tm_at "go"
    obtain ⟨dx7, hx7⟩ := r7
    have nqx : q ≠ x := Ne.symm (ne_of_none hx7 hq)
    have nql : l ≠ q := ne_of_none hl hq
    have nqw : wl ≠ q := ne_of_none R7.wl hq
    have hq0 : H q = none := k7.free nqx hq
    refine r_cut (fun σ' H' => ∃ L2, σ' = [some (.ref x), some (.ref l), some (.int ((mx L : Nat) : Int)), some (.int ((s0 : Nat) : Int)), some (.int ((p0 : Nat) : Int)), some (.ref q)] ∧ Kx x H H' ∧ H' l = some (.lst (natV L)) ∧ H' q = some (.lst (natV L2)) ∧ L2 ≠ [] ∧ RestsK ws (L.length + 5) p0 L2 ∧ L.length + 5 + L2.length = ws.length) ?_ ?_
    · refine ⟨fun m σ' H' => ∃ L2, m = ws.length - L2.length ∧ σ' = [some (.ref x), some (.ref l), some (.int ((mx L : Nat) : Int)), some (.int ((s0 : Nat) : Int)), some (.int ((p0 : Nat) : Int)), some (.ref q)] ∧ Kx x H H' ∧ Rdr aRd H' x wl ws (L.length + 5 + L2.length) ∧ H' l = some (.lst (natV L)) ∧ H' q = some (.lst (natV L2)) ∧ L2 ≠ [] ∧ RestsK ws (L.length + 5) p0 L2,
        ⟨_, [n], rfl, rfl, k7.new hq0, R7.same (same_new hq), at_upd nql hl, upd_same, (fun z => nomatch z), I1⟩, ?_⟩
      rintro m σ' H8 ⟨L2, rfl, rfl, k8, R8, hl8, hq8, ne8, I8⟩
      obtain ⟨dx8, hx8⟩ := R8.rd
      tm_at "go"
      refine r_obj hx8 (no _ (by decide +kernel) (by decide +kernel)) ?_
      tm_at "go"
      refine ⟨x, wl, ws, _, rfl, R8, ?_⟩
      tm_at "go"
      refine r_id (fun c3 => ?_) (fun c3 => ?_)
      rotate_left
      · exact ⟨L2, rfl, k8, hl8, hq8, ne8, I8, by have := I8.le; omega⟩
      refine ⟨fun σ2 H2 => ∃ L3, ws.length - L3.length < ws.length - L2.length ∧ σ2 = [some (.ref x), some (.ref l), some (.int ((mx L : Nat) : Int)), some (.int ((s0 : Nat) : Int)), some (.int ((p0 : Nat) : Int)), some (.ref q)] ∧ Kx x H H2 ∧ Rdr aRd H2 x wl ws (L.length + 5 + L3.length) ∧ H2 l = some (.lst (natV L)) ∧ H2 q = some (.lst (natV L3)) ∧ L3 ≠ [] ∧ RestsK ws (L.length + 5) p0 L3, fun σ2 H2 ⟨L3, h1, h2⟩ => ⟨_, h1, L3, rfl, h2⟩, ?_⟩
      obtain ⟨n2, hn2, en2⟩ := atI_last ne8
      tm_at "go"
      refine ⟨.inl ⟨rfl, _, SqL.of hq8⟩, ?_⟩
      tm_at "go"
      refine r_obj hx8 (no _ (by decide +kernel) (by decide +kernel)) ?_
      tm_at "go"
      refine r_ixL (SqL.of hq8) hn2 ?_
      tm_at "go"
      rw [show ((n2 : Nat) : Int) + 1 = ((lo L2 : Nat) : Int) by omega]
      refine ⟨x, wl, ws, _, lo L2, _, rfl, R8, fun n3 hn3 H9 k9 r9 => ?_, fun hn3 => ?_⟩
      · have I9 := I8.snoc hn3
        have hlt := numAt_lt hn3
        have R9 := R8.go k9 r9 hlt
        have hl9 := k9.at nlx hl8
        have hq9 := k9.at nqx hq8
        tm_at "go"
        refine r_append hq9 (szlt (by rw [List.length_map]; exact Nat.ble_eq_true_of_le (by omega))) ?_
        refine ⟨L2 ++ [n3], by rw [List.length_append]; show _ - (L2.length + 1) < _; omega, rfl, (k8.trans k9).new hq0, ?_, at_upd nql hl9, ?_, by simp, I9⟩
        · obtain ⟨dy, hy⟩ := R9.rd
          rw [List.length_append]
          exact ⟨⟨dy, at_upd (Ne.symm nqx) hy⟩, at_upd nqw R9.wl, R9.le, R9.sz, R9.ok⟩
        · rw [upd_same]
          unfold natV
          rw [List.map_append]
          rfl
      · have e := I8.stop (.inr hn3)
        unfold restsN at rP
        rw [e, if_neg ne8, if_neg (by omega)] at rP
        exact (kN _ rP).kx k8
    rintro σ' H8 ⟨L2, rfl, k8, hl8, hq8, ne8, I8, e8⟩
    have e := I8.stop (.inl e8)
    unfold restsN at rP
    rw [e, if_neg ne8, if_pos e8] at rP
    tm_at "go"
    refine ⟨szl rfl, fun t ht => ?_⟩
    exact kY _ _ _ _ rP t l q _ (k8.add ht) upd_same (.inl (SqL.of (at_upd (ne_of_none hl8 ht) hl8))) (.inl (SqL.of (at_upd (ne_of_none hq8 ht) hq8)))
end
/-! ### Numbers.read -/
theorem rdOnes_asc : ∀ (last : Nat) (ws : List Str), (rdOnes last ws).1.Pairwise (· < ·) ∧ ∀ n ∈ (rdOnes last ws).1, last + 1 ≤ n
  | _, [] => ⟨.nil, fun n h => nomatch h⟩
  | last, w :: ws => by
    unfold rdOnes
    split
    · exact ⟨.nil, fun n h => nomatch h⟩
    · split
      · split
        · rename_i n _ c
          have ih := rdOnes_asc n ws
          refine ⟨List.pairwise_cons.mpr ⟨fun m hm => ih.2 m hm, ih.1⟩, fun m hm => ?_⟩
          rcases List.mem_cons.mp hm with rfl | hm
          · exact c
          · have := ih.2 m hm
            omega
        · exact ⟨.nil, fun n h => nomatch h⟩
      · exact ⟨.nil, fun n h => nomatch h⟩
theorem rdRests_asc (p : Nat) : ∀ (lo : Nat) (ws : List Str), (rdRests p lo ws).1.Pairwise (· < ·) ∧ ∀ n ∈ (rdRests p lo ws).1, lo ≤ n ∧ n < p
  | _, [] => ⟨.nil, fun n h => nomatch h⟩
  | lo, w :: ws => by
    unfold rdRests
    split
    · split
      · rename_i n _ c
        have ih := rdRests_asc p (n + 1) ws
        refine ⟨List.pairwise_cons.mpr ⟨fun m hm => (ih.2 m hm).1, ih.1⟩, fun m hm => ?_⟩
        rcases List.mem_cons.mp hm with rfl | hm
        · exact c
        · have := ih.2 m hm
          omega
      · exact ⟨.nil, fun n h => nomatch h⟩
    · exact ⟨.nil, fun n h => nomatch h⟩
theorem mx_le {L : List Nat} (h : L.Pairwise (· < ·)) {n : Nat} (hn : n ∈ L) : n ≤ mx L := by
  rcases List.eq_nil_or_concat L with rfl | ⟨L0, m, rfl⟩
  · exact nomatch hn
  · rw [List.concat_eq_append] at *
    rw [mx_snoc]
    rcases List.mem_append.mp hn with e | e
    · exact Nat.le_of_lt ((List.pairwise_append.mp h).2.2 n e m (List.mem_singleton.mpr rfl))
    · rw [List.mem_singleton.mp e]
      exact Nat.le_refl _
def F4ok (f : Form4) : Prop := Asc f.1 1 f.2.1 ∧ 1 ≤ f.2.1 ∧ 1 ≤ f.2.2.1 ∧ Asc f.2.2.2 0 f.2.2.1
theorem ones_asc (ws : List Str) : Asc (rdOnes 0 ws).1 1 (mx (rdOnes 0 ws).1 + 1) := by
  have h := rdOnes_asc 0 ws
  refine ⟨h.1, fun n hn => ⟨h.2 n hn, ?_⟩⟩
  have := mx_le h.1 hn
  omega
theorem onesN_ok {ws : List Str} {L : List Nat} {f : Form4} (hL : Asc L 1 (mx L + 1)) (h : onesN ws L = .inr f) : F4ok f := by
  unfold onesN at h
  split at h
  · cases h
    exact ⟨hL, Nat.succ_le_succ (Nat.zero_le _), Nat.le_refl _, Asc.nil _ _⟩
  split at h
  · exact nomatch h
  unfold fromN at h
  split at h
  · exact nomatch h
  rename_i s hs
  have hs := numAt_ge hs
  split at h
  · exact nomatch h
  split at h
  · exact nomatch h
  rename_i p hp
  have hp := numAt_ge hp
  split at h
  · exact nomatch h
  unfold restsN at h
  dsimp only at h
  split at h
  · exact nomatch h
  split at h
  · cases h
    have r := rdRests_asc p 0 (ws.drop (L.length + 5))
    exact ⟨hL.up hs, by show 1 ≤ s; omega, hp, r⟩
  · exact nomatch h
theorem readP_ok {ws : List Str} {f : Form4} (h : readP ws = .inr f) : F4ok f := by
  unfold readP at h
  split at h
  · split at h
    · cases h
      exact ⟨Asc.nil _ _, Nat.le_refl _, Nat.le_refl _, Asc.nil _ _⟩
    · exact nomatch h
  split at h
  · exact nomatch h
  · exact onesN_ok (ones_asc ws) h
def TextN (K : PySem.W.Frag) (H : Hp) (v : V) : Prop := (∃ x : Str, v = .str x ∧ x.length ≤ 90000 ∧ cpsOk x ∧ (Txt.split x " ").length ≤ 1000) ∨ (Kd K H v ∧ isS v = false)
def telV (v : V) : Nat ⊕ Form4 := match v with | .str x => readP (Txt.split x " ") | _ => .inl 0
/-- a set read -/
def Got (aNum : Addr) (H : Hp) (f : Form4) (y : Addr) (H' : Hp) : Prop := ∃ L' R' s' p', FormN L' s' p' R' ∧ s' ≤ f.2.1 ∧ (∀ n, 1 ≤ n → hasN L' s' p' R' n = hasN f.1 f.2.1 f.2.2.1 f.2.2.2 n) ∧ Same H H' ∧ H y = none ∧ NumAt aNum H' y L' s' p' R'
def spReadN (K : PySem.W.Frag) (aNum aIT : Addr) : Sp := fun vs H Q E => ∃ v, vs = [.ref aNum, v] ∧ TextN K H v ∧
  (∀ k, telV v = .inl k → ∀ (d : Addr) (H' : Hp), Same H H' → H' d = none → E (.ref aIT) (some d) (upd H' d (.xd [("at", .int ((k : Nat) : Int))]))) ∧
  ∀ f, telV v = .inr f → f.2.1 ≤ 10000 ∧ f.2.2.1 ≤ 10000 ∧ ∀ y H', Got aNum H f y H' → Q (.ref y) H'
theorem split_ne (x : Str) : Txt.split x " " ≠ [] := by
  intro z
  have e := split_map x
  rw [z] at e
  have : ∀ (l acc : List Nat), TL.spl [32] 0 acc l ≠ [] := by
    intro l
    induction l with
    | nil => intro acc h; rw [TL.spl_nil] at h; exact nomatch h
    | cons c l ih =>
      intro acc h
      by_cases c1 : TL.pre [32] (c :: l) = true
      · rw [TL.spl_hit c1] at h; exact nomatch h
      · rw [TL.spl_miss (Bool.eq_false_iff.mpr c1)] at h
        exact ih _ h
  exact this _ _ e.symm
section
variable {K : PySem.W.Frag}
theorem ok_readN (F : CmAt K aNum "read" "Numbers.read" s_Numbers_read) (T : Txt K mg aGround aNum aInv aIT aRd) (R_InvalidText : ErrOk P w K mg base 1 "InvalidText" aIT ["self", "at"] (spInitF K aIT "at"))
    (M_NumbersReader : MakeOk P w K mg base CX0 1 "NumbersReader" aRd ["self", "words"] [] (spRInit aRd)) (M_NumbersReader_told_form : MetOk P w K mg base (L2.CX P w) 5 aRd "told_form" ["self"] (spTold4 K aRd aIT))
    (M_Numbers : MakeOk P w K mg base (L2.CX P w) 4 "Numbers" aNum ["self", "listed", "since", "period", "rests"] [] (spNumI K aNum aInv)) :
    CmOk P w K mg base (L2.CX P w) 6 aNum "read" "Numbers.read" s_Numbers_read ["cls", "text"] (spReadN K aNum aIT) := by
  refine F.okX sc_Numbers_read (fun _ _ _ _ _ _ us hl => match us, hl with | [_, _], _ => rfl) (fun vs H Q E h => ?_) (fun f cdv A outer s H vs Q E hr h => ?_)
  · obtain ⟨v, rfl, _⟩ := h
    rfl
  · obtain ⟨v, rfl, hv, kN, kY⟩ := h
    refine ⟨_, (pss_cons (ps_if (pt_not (pt_tr K (pe_callB (c_isi K) (by rfl) T.n_isinstance (by decide +kernel) (pa_cons (pv 1) (pa_cons (pe_bT (T := "str") (by rfl) T.n_str (by decide +kernel)) pa_nil))))) (pss_one (ps_raise rfl (takes_of rfl rfl rfl rfl) (pmkF R_InvalidText (hr.mono (by decide)) rfl (pa_cons pe_int pa_nil))))
  pss_nil)
  (pss_cons (ps_asg (pe_metD0 M_NumbersReader_told_form (hr.mono (by decide)) (passT (takes_of rfl rfl rfl rfl)) (pe_makeD M_NumbersReader (hr.mono (by decide)) pass0 rfl (pa_cons (pe_splitK (pv 1) pe_str) pa_nil))) (pg_t (n := 4) K rfl (pgs_cons (pg_name (i := 2) sc_Numbers_read.nd rfl (Or.inl rfl)) (pgs_cons (pg_name (i := 3) sc_Numbers_read.nd rfl (Or.inl rfl)) (pgs_cons (pg_name (i := 4) sc_Numbers_read.nd rfl (Or.inl rfl)) (pgs_cons (pg_name (i := 5) sc_Numbers_read.nd rfl (Or.inl rfl)) pgs_nil))))))
  (pss_one (ps_ret (pe_makeL (i := 0) (y := "cls") M_Numbers (hr.mono (by decide)) (passT (takes_of rfl rfl rfl rfl)) rfl (Or.inl rfl) (pa_cons (pv 2) (pa_cons (pv 3) (pa_cons (pv 4) (pa_cons (pv 5) pa_nil))))))))), ?_⟩
    tm_at "go"
    have kd : Kd K H v := by
      rcases hv with ⟨x, rfl, _⟩ | ⟨hk, hs⟩
      · exact .str x
      · exact hk
    obtain ⟨t, ty, kt⟩ := kd.isi_str
    refine r_isi (.ty _) ty kt ?_
    tm_at "go"
    rcases hv with ⟨x, rfl, hz, hok, h1000⟩ | ⟨hk, hs⟩
    rotate_left
    · rw [hs]
      tm_at "go"
      refine r_mkS R_InvalidText.2.1 T.xwT fun d hd => ?_
      refine kN 0 ?_ d H Same.refl hd
      cases v <;> first | rfl | exact nomatch hs
    refine r_nF ?_
    tm_at "go"
    refine ⟨x, " ", rfl, rfl, by decide +kernel, sz (by omega), fun p hp => ?_⟩
    have wok : ∀ w ∈ Txt.split x " ", w.length ≤ 100000 ∧ cpsOk w := fun w hw => ⟨Nat.le_trans (split_ok hw).1 (Nat.le_trans hz (by decide)), (split_ok hw).2 hok⟩
    have wne := split_ne x
    have eT : telV (.str x) = readP (Txt.split x " ") := rfl
    rw [eT] at kN kY
    clear eT
    generalize Txt.split x " " = ws at wok wne h1000 kN kY ⊢
    have hp1 : upd H p (.lst (ws.map V.str)) p = some (.lst (ws.map V.str)) := upd_same
    have s1 : Same H (upd H p (.lst (ws.map V.str))) := same_new hp
    generalize upd H p (.lst (ws.map V.str)) = H1 at hp1 s1 ⊢
    tm_at "go"
    intro y dy hy hdy ney
    have n2 : upd H1 dy (.own y) y = none := (upd_ne (Ne.symm ney)).trans hy
    have s2 : Same H1 (upd (upd H1 dy (.own y)) y (.ins aRd dy [])) := Same.new (same_new hdy) n2
    refine ⟨y, dy, p, rfl, upd_same, rfl, ?_⟩
    rw [upd_upd]
    have s3 : Same H1 (upd (upd H1 dy (.own y)) y (.ins aRd dy (rdF p 0))) := Same.new (same_new hdy) n2
    have hy3 : upd (upd H1 dy (.own y)) y (.ins aRd dy (rdF p 0)) y = some (.ins aRd dy (rdF p 0)) := upd_same
    generalize upd (upd H1 dy (.own y)) y (.ins aRd dy (rdF p 0)) = H3 at s3 hy3 ⊢
    have hy0 : H y = none := Same.free s1 hy
    have R : Rdr aRd H3 y p ws 0 := ⟨⟨dy, hy3⟩, s3 _ _ hp1, Nat.zero_le _, h1000, wok⟩
    refine r_obj hy3 (rdF_no _ _ (by decide +kernel) (by decide +kernel)) ?_
    tm_at "go"
    have s3 := s1.trans s3
    refine ⟨y, p, ws, rfl, R, wne, fun L sc pp R4 e t a1 a2 H4 k4 ht h1 h2 => ?_, fun k e d H4 k4 hd => kN k e d H4 (Same.kx s3 k4 hy0) hd⟩
    obtain ⟨b1, b2, kG⟩ := kY _ e
    have ok := readP_ok e
    have s4 := Same.kx s3 k4 hy0
    refine r_gT (SqT.of ht) rfl ?_
    tm_at "go"
    refine r_num h1 h2 ok.2.1 b1 ok.2.2.1 b2 (fun n hn => ok.1.2 n hn) (fun n hn => (ok.2.2.2.2 n hn).2) (Nat.le_trans ok.1.len b1) (Nat.le_trans ok.2.2.2.len b2) fun z L' R' s' p' H5 F' l1 _ _ hh s5 hz hat => ?_
    exact kG z H5 ⟨L', R', s', p', F', l1, hh, s4.trans s5, Same.free s4 hz, hat⟩
end
theorem dp_signs {K : PySem.W.Frag} {H : Hp} : ∀ l : List Nat, DpAll K H (l.map fun c => V.str ⟨#[c]⟩) (l.map fun c => PyData.str ⟨#[c]⟩)
  | [] => .nil
  | n :: l => .cons (.str _) (dp_signs l)
theorem eqv_signs (l : List Nat) : PyData.eqv (.list (l.map fun c => PyData.str ⟨#[c]⟩)) (.list []) = l.isEmpty := by cases l <;> rfl
theorem shp_signs {l : List Nat} (ok : ∀ c ∈ l, c < 1114112) : SeqAt.shaped (.list (l.map fun c => PyData.str ⟨#[c]⟩)) = true := by
  have e1 : PyData.canLayAll0 (l.map fun c => PyData.str ⟨#[c]⟩) = true := by
    induction l with
    | nil => rfl
    | cons n l ih =>
      show (PyData.strOk ⟨#[n]⟩ && PyData.canLayAll0 (l.map fun c => PyData.str ⟨#[c]⟩)) = true
      rw [ih fun c hc => ok c (List.mem_cons_of_mem _ hc), Bool.and_true]
      have := ok n (List.mem_cons_self ..)
      simp [PyData.strOk]
      omega
  have e2 : ∀ l : List Nat, PyData.depthAll (l.map fun c => PyData.str ⟨#[c]⟩) = 0 := fun l => by
    induction l with
    | nil => rfl
    | cons n l ih =>
      show max 0 (PyData.depthAll (l.map fun c => PyData.str ⟨#[c]⟩)) = 0
      rw [ih]; rfl
  unfold SeqAt.shaped
  simp only [PyData.canLay0, PyData.depth, e1, e2]
  decide
/-! ### the law's own reader -/
structure Wds (H : Hp) (wl : Addr) (ws : List Str) : Prop where
  wl : H wl = some (.lst (ws.map V.str))
  sz : ws.length ≤ 1000
  ok : ∀ w ∈ ws, w.length ≤ 100000 ∧ cpsOk w
theorem Wds.same {H H' : Hp} {wl : Addr} {ws : List Str} (h : Wds H wl ws) (s : Same H H') : Wds H' wl ws := ⟨s _ _ h.wl, h.sz, h.ok⟩
theorem numAt_getD (ws : List Str) (i lo : Nat) (hi : Int) : numAt ws i lo hi = (numOf (ws.getD i "")).bind fun n => if lo ≤ n ∧ (n : Int) ≤ hi then some n else none := by
  unfold numAt
  rw [List.getD_eq_getElem?_getD]
  cases ws[i]? with
  | some w => rfl
  | none =>
    rw [show numOf ((none : Option Str).getD "") = none by decide +kernel]
    rfl
def spLNum : Sp := fun vs H Q _ => ∃ (wl : Addr) (ws : List Str) (i lo : Nat) (hi : Int), vs = [.ref wl, .int ((i : Nat) : Int), .int ((lo : Nat) : Int), .int hi] ∧ Wds H wl ws ∧ ∀ H', Same H H' → Q (optI (numAt ws i lo hi)) H'
def spRDue : Sp := fun vs H Q _ => ∃ (wl g l : Addr) (ws : List Str) (L : List Nat) (i s p : Nat), vs = [.ref wl, .int ((i : Nat) : Int), .ref g, .int ((p : Nat) : Int)] ∧ Wds H wl ws ∧ i ≤ ws.length ∧ H g = some (.tup [.ref l, .int ((s : Nat) : Int)]) ∧
  (∀ k, restsN ws L s p i = .inl k → ∀ H', Same H H' → Q (.int ((k : Nat) : Int)) H') ∧
  ∀ R, restsN ws L s p i = .inr (L, s, p, R) → ∀ (t q : Addr) (H' : Hp), Same H H' → H' t = some (.tup [.ref l, .int ((s : Nat) : Int), .int ((p : Nat) : Int), .ref q]) → H' q = some (.lst (natV R)) → Q (.ref t) H'
section
variable {K : PySem.W.Frag}
theorem ok_law_number (F : DefAt K mg "_law_number" s_law_number) (T : Txt K mg aGround aNum aInv aIT aRd) : DefOk P w K mg base CX0 1 "_law_number" ["_law_words", "_law_at", "_law_least", "_law_most"] spLNum := by
  refine F.ok sc_law_number (fun _ _ _ _ _ _ us hl => match us, hl with | [_, _, _, _], _ => rfl) (fun vs H Q E h => ?_) (fun f cdv A outer s H vs Q E hr h => ?_)
  · obtain ⟨wl, ws, i, lo, hi, rfl, _⟩ := h
    rfl
  · obtain ⟨wl, ws, i, lo, hi, rfl, W, k⟩ := h
    refine ⟨_, (pss_cons (ps_set (i := 4) sc_law_number.nd rfl (Or.inl rfl) (pe_cut (pe_ifExp (pt_cmpR o_lt (pv 1) (pe_callB (c_len K) (by rfl) T.n_len (by decide +kernel) (pa_cons (pv 0) pa_nil)) (nomark _)) (pe_ix (ix_u K) (pv 0) (pv 1) (fun _ _ => rfl)) pe_str)))
  (pss_cons (ps_if (PW.pt (pw_or (pt_not (pt_chain o_lt o_lt pe_int (pe_callB (c_len K) (by rfl) T.n_len (by decide +kernel) (pa_cons (pv 4) pa_nil)) pe_int)) (pw_or1 (pt_cmpR (o_ne K hr.units) (pe_lc (own := [("_law_sign", 5)]) (g := (gName 5)) rfl sc_law_number.nd (pi_str (pv 4)) (blkOk_by (own := [("_law_sign", 5)]) (N := ["_law_words", "_law_at", "_law_least", "_law_most", "_law_word", "_law_sign"]) (sc := defScope s_law_number) (by decide +kernel)) (fun _ _ _ _ _ => (pg_name (i := 5) sc_law_number.nd rfl (Or.inl rfl) (Or.inr rfl))) (fun _ _ _ _ _ => (pts_one (pt_cmpR (o_notIn K) (pv 5) pe_str rfl))) (fun _ _ _ _ _ => (pv 5))) (pe_lst pa_nil) (nomark _))))) (pss_one (ps_ret pe_non))
  pss_nil)
  (pss_cons (ps_if (PW.pt (pw_or (PW.pt (pw_and (pt_cmpR (o_eq K hr.units) (pe_ix (ix_u K) (pv 4) pe_int (fun _ _ => rfl)) pe_str (nomark _)) (pw_and1 (pt_cmpR (o_ne K hr.units) (pv 4) pe_str (nomark _))))) (pw_or1 (pt_not (pt_chain o_le o_le (pv 2) (pe_callTy c_int (by rfl) T.n_int (by decide +kernel) (pa_cons (pv 4) pa_nil)) (pv 3)))))) (pss_one (ps_ret pe_non))
  pss_nil)
  (pss_one (ps_ret (pe_callTy c_int (by rfl) T.n_int (by decide +kernel) (pa_cons (pv 4) pa_nil))))))), ?_⟩
    have hw := W.wl
    rw [numAt_getD] at k
    tm_at "go"
    refine r_cutE (fun u H' => u = .str (ws.getD i "") ∧ H' = H) ?_ ?_
    · tm_at "go"
      rw [List.length_map, show decide (((i : Nat) : Int) < ((ws.length : Nat) : Int)) = decide (i < ws.length) by simp]
      refine r_id (fun c => ?_) (fun c => ?_)
      · tm_at "go"
        refine r_ixL (SqL.of hw) (v := .str (ws.getD i "")) (atI_nat (by rw [List.getElem?_map, List.getElem?_eq_getElem c, List.getD_eq_getElem?_getD, List.getElem?_eq_getElem c]; rfl)) ?_
        exact ⟨rfl, rfl⟩
      · tm_at "go"
        rw [List.getD_eq_getElem?_getD, List.getElem?_eq_none (by omega)]
        exact ⟨rfl, rfl⟩
    rintro u H' ⟨rfl, rfl⟩
    have xok : (ws.getD i "").length ≤ 100000 ∧ cpsOk (ws.getD i "") := by
      rw [List.getD_eq_getElem?_getD]
      cases e : ws[i]? with
      | some w => exact W.ok w (List.mem_of_getElem? e)
      | none => exact ⟨by decide +kernel, fun c hc => nomatch hc⟩
    generalize ws.getD i "" = x at k xok ⊢
    obtain ⟨hz, hok⟩ := xok
    clear hw W
    have hz2 : x.length ≤ sizeLine := sz hz
    have lenx : x.cps.toList.length = x.length := Array.length_toList
    tm_at "go"
    refine r_lenS hz2 ?_
    tm_at "go"
    have no : (¬ ((1 ≤ x.length ∧ x.length ≤ 6) ∧ digitsL x.cps.toList = true ∧ (x = "0" ∨ x.cps.toList.head? ≠ some 48))) → numOf x = none := fun z => if_neg z
    refine r_id (fun c1 => ?_) (fun c1 => ?_)
    rotate_left
    · tm_at "go"
      have k := k H' Same.refl
      rw [no (fun z => by omega)] at k
      exact k
    tm_at "go"
    refine r_nid (fun c2 => ?_) (fun c2 => ?_)
    · tm_at "go"
      have k := k H' Same.refl
      rw [no (fun z => by omega)] at k
      exact k
    tm_at "go"
    refine ⟨x, rfl, fun D hD => ?_⟩
    refine lc_it (walk_str (z := x)) (fun i H2 => Same H' H2 ∧ H2 D = some (.lst (((x.cps.toList.take i).filter fun c => !decide (48 ≤ c ∧ c ≤ 57)).map fun c => V.str ⟨#[c]⟩))) ⟨same_new hD, upd_same⟩ (fun i H' _ p => trivial) ?_ ?_
    · rintro i y H1 H2 hi ⟨sm, hd⟩ ⟨rfl, c, hc, rfl⟩
      tm_at "go"
      refine ⟨rfl, ?_⟩
      tm_at "go"
      refine r_ninS ?_
      rw [digits_in]
      tm_at "go"
      refine r_nid (fun cc => ?_) (fun cc => ?_)
      · tm_at "go"
        refine ⟨_, hd, ?_, Same.updF sm hD, ?_⟩
        · rw [List.length_map]
          exact szlt (Nat.ble_eq_true_of_le (Nat.le_trans (List.length_filter_le ..) (Nat.le_trans (List.length_take_le ..) (by have : x.cps.size = x.length := rfl; omega))))
        · rw [upd_same, take_succ (str_at hc), List.filter_append, List.map_append]
          simp only [List.filter, decide_eq_false cc, Bool.not_false, List.map_cons, List.map_nil]
      · refine ⟨sm, ?_⟩
        rw [take_succ (str_at hc), List.filter_append]
        simp only [List.filter, decide_eq_true cc, Bool.not_true, List.append_nil]
        exact hd
    rintro H1 ⟨sm, hd⟩
    rw [show x.cps.size = x.cps.toList.length from Array.length_toList.symm, List.take_length] at hd
    tm_at "go"
    refine ⟨szl rfl, fun q hq => ?_⟩
    tm_at "go"
    have hd2 : (upd H1 q (.lst [])) D = _ := at_upd (ne_of_none hd hq) hd
    refine r_neD (d := .list (((x.cps.toList.filter fun c => !decide (48 ≤ c ∧ c ≤ 57)).map fun c => PyData.str ⟨#[c]⟩))) (e := .list []) (.lst (SqL.of hd2) (dp_signs _)) (.lst (SqL.of upd_same) .nil) (shp_signs fun c hc => hok c (List.mem_filter.mp hc).1) (by decide +kernel) ?_
    rw [eqv_signs]
    have eA : (!((x.cps.toList.filter fun c => !decide (48 ≤ c ∧ c ≤ 57)).isEmpty)) = !digitsL x.cps.toList := by
      unfold digitsL
      congr 1
      rw [Bool.eq_iff_iff, List.isEmpty_iff, List.filter_eq_nil_iff, List.all_eq_true]
      refine forall_congr' fun c => forall_congr' fun _ => ?_
      simp
    rw [eA]
    have k := k _ (Same.new (o := .lst []) sm hq)
    generalize upd H1 q (.lst []) = H2 at k ⊢
    tm_at "go"
    refine r_nb (fun c3 => ?_) (fun c3 => ?_)
    · tm_at "go"
      rw [no (fun z => by rw [z.2.1] at c3; exact nomatch c3)] at k
      exact k
    tm_at "go"
    have x0 : x.cps.toList ≠ [] := fun z => by rw [z] at lenx; simp at lenx; omega
    obtain ⟨c, cs, hcs⟩ := List.exists_cons_of_ne_nil x0
    have rd : ∀ {R : VK} {H3 : Hp}, R (.int ((PySem.NumText.digitsVal x.cps.toList : Nat) : Int)) H3 → uInt [.str x] H3 R := fun h => .inr ⟨x, _, rfl, int_dig c3 (by omega) (by omega), by omega, h⟩
    refine r_ixS hz2 (atI_nat (j := 0) (v := c) (by rw [hcs]; rfl)) ?_
    tm_at "go"
    refine r_eq rfl ?_
    rw [decS, show ("0" : Str) = ⟨#[48]⟩ by decide +kernel, show decide ((⟨#[c]⟩ : Str) = ⟨#[48]⟩) = decide (c = 48) from decide_eq_decide.mpr (sign_eq c 48)]
    rw [show (⟨#[48]⟩ : Str) = "0" by decide +kernel]
    tm_at "go"
    have val : (x = "0" ∨ x.cps.toList.head? ≠ some 48) → numOf x = some (PySem.NumText.digitsVal x.cps.toList) := fun h => if_pos ⟨⟨by omega, by omega⟩, c3, h⟩
    by_cases hz0 : x = "0" ∨ x.cps.toList.head? ≠ some 48
    rotate_left
    · rw [no (fun z => hz0 z.2.2)] at k
      have c48 : c = 48 := Decidable.byContradiction fun q => hz0 (.inr (by rw [hcs]; intro z; exact q (Option.some.inj z)))
      refine r_Td c48 ?_
      tm_at "go"
      refine r_ne rfl ?_
      rw [decS, decide_eq_false fun z => hz0 (.inl z)]
      tm_at "go"
      exact k
    rw [val hz0] at k
    have k : Q (optI (if lo ≤ PySem.NumText.digitsVal x.cps.toList ∧ ((PySem.NumText.digitsVal x.cps.toList : Nat) : Int) ≤ hi then some (PySem.NumText.digitsVal x.cps.toList) else none)) H2 := k
    have rd : ∀ {R : VK} {H3 : Hp}, R (.int ((PySem.NumText.digitsVal x.cps.toList : Nat) : Int)) H3 → uInt [.str x] H3 R := fun h => .inr ⟨x, _, rfl, int_dig c3 (by omega) (by omega), by omega, h⟩
    generalize PySem.NumText.digitsVal x.cps.toList = N at k rd
    refine r_id (fun c48 => ?_) (fun c48 => ?_)
    · have x0 : x = "0" := hz0.resolve_right fun z => z (by rw [hcs, c48]; rfl)
      tm_at "go"
      refine r_ne rfl ?_
      rw [decS, decide_eq_true x0]
      tm_at "go"
      refine rd ?_
      tm_at "go"
      refine r_id (fun d1 => ?_) (fun d1 => ?_)
      · tm_at "go"
        refine r_nid (fun d2 => ?_) (fun d2 => ?_)
        · rw [if_neg fun z => d2 z.2] at k
          tm_at "go"
          exact k
        · rw [if_pos ⟨by omega, d2⟩] at k
          tm_at "go"
          exact rd k
      · rw [if_neg fun z => d1 (by omega)] at k
        tm_at "go"
        exact k
    · tm_at "go"
      refine rd ?_
      tm_at "go"
      refine r_id (fun d1 => ?_) (fun d1 => ?_)
      · tm_at "go"
        refine r_nid (fun d2 => ?_) (fun d2 => ?_)
        · rw [if_neg fun z => d2 z.2] at k
          tm_at "go"
          exact k
        · rw [if_pos ⟨by omega, d2⟩] at k
          tm_at "go"
          exact rd k
      · rw [if_neg fun z => d1 (by omega)] at k
        tm_at "go"
        exact k
theorem ok_rests_due (F : DefAt K mg "_law_rests_due" s_law_rests_due) (T : Txt K mg aGround aNum aInv aIT aRd) (D_law_number : DefOk P w K mg base CX0 1 "_law_number" ["_law_words", "_law_at", "_law_least", "_law_most"] spLNum) :
    DefOk P w K mg base CX0 2 "_law_rests_due" ["_law_words", "_law_at", "_law_given", "_law_period"] spRDue := by
  refine F.ok sc_law_rests_due (fun _ _ _ _ _ _ us hl => match us, hl with | [_, _, _, _], _ => rfl) (fun vs H Q E h => ?_) (fun f cdv A outer s H vs Q E hr h => ?_)
  · obtain ⟨wl, g, l, ws, L, i, s, p, rfl, _⟩ := h
    rfl
  · obtain ⟨wl, g, l, ws, L, i, sc, p, rfl, W, hi, hg, kN, kY⟩ := h
    refine ⟨_, (pss_cons (ps_set (i := 4) sc_law_rests_due.nd rfl (Or.inl rfl) (pe_lst pa_nil))
  (pss_cut (ps_while PassesOwn.never (PW.pt (pw_or (pt_cmpR o_lt (pv 1) (pe_callB (c_len K) (by rfl) T.n_len (by decide +kernel) (pa_cons (pv 0) pa_nil)) (nomark _)) (pw_or1 (pt_cmpR (o_eq K hr.units) (pv 4) (pe_lst pa_nil) (nomark _)))))
  (pss_cons (ps_set (i := 5) sc_law_rests_due.nd rfl (Or.inl rfl) (pe_callD D_law_number (hr.mono (by decide)) pass0 rfl (pa_cons (pv 0) (pa_cons (pv 1) (pa_cons (pe_cut (pe_ifExp (pt_cmpR (o_ne K hr.units) (pv 4) (pe_lst pa_nil) (nomark _)) (pe_op (o_add K) (pe_ix (ix_u K) (pv 4) (pe_un un_neg pe_int) (fun _ _ => rfl)) pe_int) pe_int)) (pa_cons (pe_op o_sub (pv 3) pe_int) pa_nil))))))
  (pss_cons (ps_if (pt_cmpR o_is (pv 5) pe_non (nomark _)) (pss_one (ps_ret (pv 1)))
  pss_nil)
  (pss_cons (ps_expr (pe_bm PySem.F.plainAttrs_list PySem.F.slot_list_append PySem.F.type_list_append mt_append (pv 4) (pa_cons (pv 5) pa_nil)))
  (pss_one (ps_set (i := 1) sc_law_rests_due.nd rfl (Or.inl rfl) (pe_op (o_add K) (pv 1) pe_int)))))))
  (pss_one (ps_ret (pe_op (o_add K) (pv 2) (pe_tup (pa_cons (pv 3) (pa_cons (pv 4) pa_nil)))))))), ?_⟩
    tm_at "go"
    refine ⟨szl rfl, fun q hq0 => ?_⟩
    tm_at "go"
    refine r_cut (fun σ' H' => ∃ R o, σ' = [some (.ref wl), some (.int ((i + R.length : Nat) : Int)), some (.ref g), some (.int ((p : Nat) : Int)), some (.ref q), o] ∧ Same H H' ∧ H' q = some (.lst (natV R)) ∧ RestsK ws i p R ∧ i + R.length = ws.length ∧ R ≠ []) ?_ ?_
    · refine ⟨fun m σ' H' => ∃ R o, m = ws.length - R.length ∧ σ' = [some (.ref wl), some (.int ((i + R.length : Nat) : Int)), some (.ref g), some (.int ((p : Nat) : Int)), some (.ref q), o] ∧ Same H H' ∧ H' q = some (.lst (natV R)) ∧ RestsK ws i p R, ⟨_, [], none, rfl, rfl, same_new hq0, upd_same, RestsK.nil hi⟩, ?_⟩
      rintro m σ' H1 ⟨R, o, rfl, rfl, s1, hq, I⟩
      have hw := (W.same s1).wl
      have cutP : ∀ (H2 : Hp), Same H1 H2 → ∀ σ2 : St, σ2[4]? = some (some (.ref q)) →
          tIf (tTest (tOp (uNe K) (tVar 4) (tLst tNil))) (tOp (uAdd K) (tOp (rIx K) (tVar 4) (tUn (rU fun i => V.int (-i)) (tC (V.int 1)))) (tC (V.int 1))) (tC (V.int 0)) σ2 H2 fun u H' => u = .int ((lo R : Nat) : Int) ∧ Same H2 H' := fun H2 s2 σ2 hv => by
        have hq2 := s2 _ _ hq
        refine r_if (r_test (r_op (r_var hv ?_)))
        tm_at "go"
        refine ⟨szl rfl, fun e0 he0 => ?_⟩
        refine r_neD (d := .list (natD R)) (e := .list []) (.lst (SqL.of (at_upd (ne_of_none hq2 he0) hq2)) (dp_nats _)) (.lst (SqL.of upd_same) .nil) (sp_nats _) (by decide +kernel) ?_
        rw [eqv_nil]
        tm_at "go"
        refine r_nb (fun c => ?_) (fun c => ?_)
        · obtain ⟨n, hn, en⟩ := atI_last (R := R) (fun z => by rw [z] at c; exact nomatch c)
          refine r_op (r_op (r_var hv ?_))
          tm_at "go"
          refine r_ixL (SqL.of (at_upd (ne_of_none hq2 he0) hq2)) hn ?_
          tm_at "go"
          exact ⟨by rw [← en]; rfl, same_new he0⟩
        · tm_at "go"
          rw [List.isEmpty_iff.mp c]
          exact ⟨rfl, same_new he0⟩
      tm_at "go"
      rw [List.length_map, show decide (((i + R.length : Nat) : Int) < ((ws.length : Nat) : Int)) = decide (i + R.length < ws.length) from decide_eq_decide.mpr (by omega)]
      refine r_id (fun c1 => ?_) (fun c1 => ?_)
      · refine r_T ?_
        refine ⟨fun σ2 H2 => ∃ R2 o, ws.length - R2.length < ws.length - R.length ∧ σ2 = [some (.ref wl), some (.int ((i + R2.length : Nat) : Int)), some (.ref g), some (.int ((p : Nat) : Int)), some (.ref q), o] ∧ Same H H2 ∧ H2 q = some (.lst (natV R2)) ∧ RestsK ws i p R2, fun σ2 H2 ⟨R2, o, h1, h2⟩ => ⟨_, h1, R2, o, rfl, h2⟩, ?_⟩
        tm_at "go"
        refine r_cutE (fun u H' => u = .int ((lo R : Nat) : Int) ∧ Same H1 H') ?_ ?_
        · exact cutP H1 Same.refl _ rfl
        rintro u H2 ⟨rfl, s2⟩
        tm_at "go"
        refine ⟨wl, ws, i + R.length, lo R, _, rfl, W.same (s1.trans s2), fun H3 s3 => ?_⟩
        have s23 := s2.trans s3
        have hq3 := s23 _ _ hq
        tm_at "go"
        cases en : numAt ws (i + R.length) (lo R) ((p : Int) - 1) with
        | none =>
          rw [show optI none = V.non from rfl]
          tm_at "go"
          refine r_Td rfl ?_
          tm_at "go"
          have e := I.stop (.inr en)
          refine kN _ ?_ _ (s1.trans s23)
          unfold restsN
          rw [e]
          by_cases c : R = []
          · rw [c]
            rfl
          · rw [if_neg c, if_neg (by omega)]
        | some n =>
          rw [show optI (some n) = V.int ((n : Nat) : Int) from rfl]
          tm_at "go"
          refine r_Fd (fun z => nomatch z) ?_
          tm_at "go"
          refine ⟨.inl ⟨rfl, _, SqL.of hq3⟩, ?_⟩
          have zR : R.length ≤ 1000 := by have := W.sz; omega
          tm_at "go"
          refine r_append hq3 (szlt (by rw [List.length_map]; exact Nat.ble_eq_true_of_le (by omega))) ?_
          tm_at "go"
          refine ⟨R ++ [n], some (.int ((n : Nat) : Int)), by rw [List.length_append]; show _ - (R.length + 1) < _; omega, ?_, Same.updF (s1.trans s23) hq0, ?_, I.snoc en⟩
          · rw [List.length_append, show ((i + R.length : Nat) : Int) + 1 = ((i + (R.length + 1) : Nat) : Int) by omega]
            rfl
          · rw [upd_same]
            unfold natV
            rw [List.map_append]
            rfl
      · have eL : i + R.length = ws.length := by have := I.le; omega
        tm_at "go"
        refine ⟨szl rfl, fun e0 he0 => ?_⟩
        have hq2 := at_upd (u := .lst []) (ne_of_none hq he0) hq
        refine r_eqD (d := .list (natD R)) (e := .list []) (.lst (SqL.of hq2) (dp_nats _)) (.lst (SqL.of upd_same) .nil) (sp_nats _) (by decide +kernel) ?_
        rw [eqv_nil]
        have s2 : Same H1 (upd H1 e0 (.lst [])) := same_new he0
        generalize upd H1 e0 (.lst []) = H2 at s2 hq2 ⊢
        tm_at "go"
        refine r_ite (fun c => ?_) (fun c => ?_)
        · have hR : R = [] := List.isEmpty_iff.mp c
          refine ⟨fun _ _ => False, fun _ _ z => z.elim, ?_⟩
          tm_at "go"
          refine r_cutE (fun u H' => u = .int ((lo R : Nat) : Int) ∧ Same H2 H') ?_ ?_
          · exact cutP H2 s2 _ rfl
          rintro u H3 ⟨rfl, s3⟩
          tm_at "go"
          refine ⟨wl, ws, i + R.length, lo R, _, rfl, W.same ((s1.trans s2).trans s3), fun H4 s4 => ?_⟩
          rw [numAt_end (List.getElem?_eq_none (by omega))]
          rw [show optI none = V.non from rfl]
          tm_at "go"
          refine r_Td rfl ?_
          tm_at "go"
          refine kN _ ?_ _ (((s1.trans s2).trans s3).trans s4)
          unfold restsN
          rw [I.stop (.inl eL), hR]
          rfl
        · exact ⟨R, o, rfl, s1.trans s2, hq2, I, eL, fun z => by rw [z] at c; exact nomatch c⟩
    rintro σ' H1 ⟨R, o, rfl, s1, hq, I, eL, ne⟩
    have e := I.stop (.inl eL)
    have rr : restsN ws L sc p i = .inr (L, sc, p, R) := by
      unfold restsN
      rw [e, if_neg ne, if_pos eL]
    tm_at "go"
    refine ⟨szl rfl, fun t1 ht1 => ?_⟩
    have hg1 := at_upd (u := .tup [.int ((p : Nat) : Int), .ref q]) (ne_of_none (s1 _ _ hg) ht1) (s1 _ _ hg)
    have hq1 := at_upd (u := .tup [.int ((p : Nat) : Int), .ref q]) (ne_of_none hq ht1) hq
    refine r_addT (SqT.of hg1) (SqT.of upd_same) (fun z => nomatch z) (szl rfl) (fun z => nomatch z) fun _ t ht => ?_
    exact kY R rr t q _ (Same.new (Same.new s1 ht1) ht) upd_same (at_upd (ne_of_none hq1 ht) hq1)
end
theorem cps_dec {x : Str} (h : (x.cps.toList.all fun c => decide (c < 1114112)) = true) : cpsOk x := fun c hc => of_decide_eq_true (List.all_eq_true.mp h c hc)
theorem take1 {ws : List Str} {i : Nat} {w : Str} : ((ws.drop i).take 1 = [w]) ↔ ws[i]? = some w := by
  cases h : ws[i]? with
  | none =>
    have := List.getElem?_eq_none_iff.mp h
    rw [List.drop_of_length_le this]
    exact ⟨(fun z => nomatch z), (fun z => nomatch z)⟩
  | some u =>
    rw [drop_cons h]
    show [u] = [w] ↔ _
    exact ⟨fun z => by rw [(List.cons.inj z).1], fun z => by rw [Option.some.inj z]⟩
theorem cut_one (ws : List Str) {a b : Int} {i : Nat} (ha : a = (i : Int)) (hb : b = ((i + 1 : Nat) : Int)) : cutV (ws.map V.str) (some a) (some b) = ((ws.drop i).take 1).map V.str := by
  subst ha
  subst hb
  unfold cutV HT.sIx
  have h1 : ¬ ((i : Int) < 0) := by omega
  have h2 : ¬ (((i + 1 : Nat) : Int) < 0) := by omega
  simp only [if_neg h1, if_neg h2]
  rw [Int.toNat_natCast, Int.toNat_natCast, List.length_map, List.map_take, List.map_drop]
  by_cases c : i < ws.length
  · rw [show min i ws.length = i by omega, show min (i + 1) ws.length = i + 1 by omega, show i + 1 - i = 1 by omega]
  · rw [show min i ws.length = ws.length by omega, show min (i + 1) ws.length = ws.length by omega, List.drop_of_length_le (by rw [List.length_map]; exact Nat.le_refl _), List.drop_of_length_le (by rw [List.length_map]; omega), List.take_nil, List.take_nil]
def spDue : Sp := fun vs H Q _ => ∃ x : Str, vs = [.str x] ∧ x.length ≤ 90000 ∧ cpsOk x ∧ (Txt.split x " ").length ≤ 1000 ∧
  (∀ k, readN (Txt.split x " ") = .inl k → ∀ H', Same H H' → Q (.int ((k : Nat) : Int)) H') ∧
  ∀ L s p R, readN (Txt.split x " ") = .inr (L, s, p, R) → ∀ (t l q : Addr) (H' : Hp), Same H H' → H' t = some (.tup [.ref l, .int ((s : Nat) : Int), .int ((p : Nat) : Int), .ref q]) → H' l = some (.lst (natV L)) → H' q = some (.lst (natV R)) → Q (.ref t) H'
section
variable {K : PySem.W.Frag}
theorem ok_law_due (F : DefAt K mg "_law_due" s_law_due) (T : Txt K mg aGround aNum aInv aIT aRd) (D_law_number : DefOk P w K mg base CX0 1 "_law_number" ["_law_words", "_law_at", "_law_least", "_law_most"] spLNum)
    (D_law_rests_due : DefOk P w K mg base CX0 2 "_law_rests_due" ["_law_words", "_law_at", "_law_given", "_law_period"] spRDue) : DefOk P w K mg base CX0 3 "_law_due" ["_law_line_text"] spDue := by
  refine F.ok sc_law_due (fun _ _ _ _ _ _ us hl => match us, hl with | [_], _ => rfl) (fun vs H Q E h => ?_) (fun f cdv A outer s H vs Q E hr h => ?_)
  · obtain ⟨x, rfl, _⟩ := h
    rfl
  · obtain ⟨x, rfl, hz, hok, h1000, kN, kY⟩ := h
    refine ⟨_, (pss_cons (ps_par3 (i := 4) (j := 5) (l := 6) (by rfl) sc_law_due.nd rfl rfl rfl (by decide) (by decide) (by decide) rfl rfl rfl (pa_cons (pe_splitK (pv 0) pe_str) (pa_cons (pe_lst pa_nil) (pa_cons pe_int pa_nil))) (by rfl))
  (pss_cons (ps_if (pt_cmpR (o_eq K hr.units) (pe_ix (ix_u K) (pv 4) pe_int (fun _ _ => rfl)) pe_str (nomark _)) (pss_one (ps_ret (pe_ifExp (pt_cmpR (o_eq K hr.units) (pe_callB (c_len K) (by rfl) T.n_len (by decide +kernel) (pa_cons (pv 4) pa_nil)) pe_int (nomark _)) (pe_tup (pa_cons (pe_lst pa_nil) (pa_cons pe_int (pa_cons pe_int (pa_cons (pe_lst pa_nil) pa_nil))))) pe_int)))
  pss_nil)
  (pss_cut (ps_while PassesOwn.never (PW.pt (pw_and (pt_cmpR o_lt (pv 6) (pe_callB (c_len K) (by rfl) T.n_len (by decide +kernel) (pa_cons (pv 4) pa_nil)) (nomark _)) (pw_and1 (pt_cmpR (o_ne K hr.units) (pe_ix (ix_u K) (pv 4) (pv 6) (fun _ _ => rfl)) pe_str (nomark _)))))
  (pss_cons (ps_set (i := 7) sc_law_due.nd rfl (Or.inl rfl) (pe_callD D_law_number (hr.mono (by decide)) pass0 rfl (pa_cons (pv 4) (pa_cons (pv 6) (pa_cons (pe_cut (pe_ifExp (pt_cmpR (o_ne K hr.units) (pv 5) (pe_lst pa_nil) (nomark _)) (pe_op (o_add K) (pe_ix (ix_u K) (pv 5) (pe_un un_neg pe_int) (fun _ _ => rfl)) pe_int) pe_int)) (pa_cons (pe_op o_pow pe_int pe_int) pa_nil))))))
  (pss_cons (ps_if (pt_cmpR o_is (pv 7) pe_non (nomark _)) (pss_one (ps_ret (pv 6)))
  pss_nil)
  (pss_cons (ps_expr (pe_bm PySem.F.plainAttrs_list PySem.F.slot_list_append PySem.F.type_list_append mt_append (pv 5) (pa_cons (pv 7) pa_nil)))
  (pss_one (ps_set (i := 6) sc_law_due.nd rfl (Or.inl rfl) (pe_op (o_add K) (pv 6) pe_int)))))))
  (pss_cons (ps_set (i := 1) sc_law_due.nd rfl (Or.inl rfl) (pe_cut (pe_ifExp (pt_cmpR (o_ne K hr.units) (pv 5) (pe_lst pa_nil) (nomark _)) (pe_ix (ix_u K) (pv 5) (pe_un un_neg pe_int) (fun _ _ => rfl)) pe_int)))
  (pss_cons (ps_if (pt_cmpR (o_eq K hr.units) (pv 6) (pe_callB (c_len K) (by rfl) T.n_len (by decide +kernel) (pa_cons (pv 4) pa_nil)) (nomark _)) (pss_one (ps_ret (pe_tup (pa_cons (pv 5) (pa_cons (pe_op (o_add K) (pv 1) pe_int) (pa_cons pe_int (pa_cons (pe_lst pa_nil) pa_nil)))))))
  pss_nil)
  (pss_cons (ps_set (i := 2) sc_law_due.nd rfl (Or.inl rfl) (pe_callD D_law_number (hr.mono (by decide)) pass0 rfl (pa_cons (pv 4) (pa_cons (pe_op (o_add K) (pv 6) pe_int) (pa_cons (pe_op (o_add K) (pv 1) pe_int) (pa_cons (pe_op o_pow pe_int pe_int) pa_nil))))))
  (pss_cons (ps_if (pt_cmpR o_is (pv 2) pe_non (nomark _)) (pss_one (ps_ret (pe_op (o_add K) (pv 6) pe_int)))
  pss_nil)
  (pss_cons (ps_if (pt_cmpR (o_ne K hr.units) (pe_slice (slL K) (pv 4) (po_some (pe_op (o_add K) (pv 6) pe_int)) (po_some (pe_op (o_add K) (pv 6) pe_int))) (pe_lst (pa_cons pe_str pa_nil)) (nomark _)) (pss_one (ps_ret (pe_op (o_add K) (pv 6) pe_int)))
  pss_nil)
  (pss_cons (ps_set (i := 3) sc_law_due.nd rfl (Or.inl rfl) (pe_callD D_law_number (hr.mono (by decide)) pass0 rfl (pa_cons (pv 4) (pa_cons (pe_op (o_add K) (pv 6) pe_int) (pa_cons pe_int (pa_cons (pe_op o_pow pe_int pe_int) pa_nil))))))
  (pss_cons (ps_if (pt_cmpR o_is (pv 3) pe_non (nomark _)) (pss_one (ps_ret (pe_op (o_add K) (pv 6) pe_int)))
  pss_nil)
  (pss_cons (ps_if (pt_cmpR (o_ne K hr.units) (pe_slice (slL K) (pv 4) (po_some (pe_op (o_add K) (pv 6) pe_int)) (po_some (pe_op (o_add K) (pv 6) pe_int))) (pe_lst (pa_cons pe_str pa_nil)) (nomark _)) (pss_one (ps_ret (pe_op (o_add K) (pv 6) pe_int)))
  pss_nil)
  (pss_one (ps_ret (pe_callD D_law_rests_due (hr.mono (by decide)) pass0 rfl (pa_cons (pv 4) (pa_cons (pe_op (o_add K) (pv 6) pe_int) (pa_cons (pe_tup (pa_cons (pv 5) (pa_cons (pv 2) pa_nil))) (pa_cons (pv 3) pa_nil)))))))))))))))))), ?_⟩
    tm_at "go"
    refine ⟨x, " ", rfl, rfl, by decide +kernel, sz (by omega), fun wl hwl => ?_⟩
    have wok : ∀ w ∈ Txt.split x " ", w.length ≤ 100000 ∧ cpsOk w := fun w hw => ⟨Nat.le_trans (split_ok hw).1 (Nat.le_trans hz (by decide)), (split_ok hw).2 hok⟩
    have wne := split_ne x
    generalize Txt.split x " " = ws at wok wne h1000 kN kY ⊢
    have W : Wds (upd H wl (.lst (ws.map V.str))) wl ws := ⟨upd_same, h1000, wok⟩
    have s1 : Same H (upd H wl (.lst (ws.map V.str))) := same_new hwl
    generalize upd H wl (.lst (ws.map V.str)) = H1 at W s1 ⊢
    clear hwl
    tm_at "go"
    refine ⟨szl rfl, fun l hl0 => ?_⟩
    have hl : upd H1 l (.lst (natV [])) l = some (.lst (natV [])) := upd_same
    have W := W.same (same_new (o := .lst (natV [])) hl0)
    have hl00 : H l = none := Same.free s1 hl0
    have s1 := Same.new (o := .lst (natV [])) s1 hl0
    rw [show upd H1 l (.lst []) = upd H1 l (.lst (natV [])) from rfl]
    generalize upd H1 l (.lst (natV [])) = H2 at W s1 hl ⊢
    clear hl0
    have hw := W.wl
    have wpos : 0 < ws.length := List.length_pos_iff.mpr wne
    have hj0 : ws[0]? = some ws[0] := List.getElem?_eq_getElem wpos
    generalize ws[0] = w0 at hj0
    tm_at "go"
    refine r_ixL (SqL.of hw) (atI_nat (j := 0) (v := .str w0) (by rw [List.getElem?_map, hj0]; rfl)) ?_
    tm_at "go"
    refine r_eq rfl ?_
    rw [decS]
    tm_at "go"
    refine r_id (fun c0 => ?_) (fun c0 => ?_)
    · rw [c0] at hj0
      have rp : readN ws = if ws.length = 1 then .inr ([], 1, 1, []) else .inl 1 := by
        unfold readN
        exact if_pos hj0
      tm_at "go"
      refine r_eq rfl ?_
      rw [decInt, List.length_map, show decide (((ws.length : Nat) : Int) = 1) = decide (ws.length = 1) from decide_eq_decide.mpr (by omega)]
      tm_at "go"
      refine r_id (fun c1 => ?_) (fun c1 => ?_)
      · rw [if_pos c1] at rp
        tm_at "go"
        refine ⟨szl rfl, fun a1 ha1 => ?_⟩
        tm_at "go"
        refine ⟨szl rfl, fun a2 ha2 => ?_⟩
        tm_at "go"
        refine ⟨szl rfl, fun t ht => ?_⟩
        exact kY [] 1 1 [] rp t a1 a2 _ (Same.new (Same.new (Same.new s1 ha1) ha2) ht) upd_same (at_upd (ne_of_none (at_upd (ne_of_none upd_same ha2) upd_same) ht) (at_upd (ne_of_none upd_same ha2) upd_same)) (at_upd (ne_of_none upd_same ht) upd_same)
      · rw [if_neg c1] at rp
        tm_at "go"
        exact kN 1 rp _ s1
    have n0 : ws[0]? ≠ some ("none" : Str) := by rw [hj0]; exact fun z => c0 (Option.some.inj z)
    have rP : ∀ L, (rdOnes 0 ws).1 = L → readN ws = onesN ws L := fun L e => by
      unfold readN
      rw [if_neg n0, e]
    clear hj0 c0 n0 wpos
    have big : ((1000000 : Nat) : Int) ≤ 10 ^ Int.toNat 6 := by decide +kernel
    tm_at "go"
    have nes : ∀ {H' : Hp} {L : List Nat} {σ' : St} {Q' : Bool → Hp → Prop}, H' l = some (.lst (natV L)) → σ'[5]? = some (some (.ref l)) → (∀ H3, Same H' H3 → Q' (!L.isEmpty) H3) → tTest (tOp (uNe K) (tVar 5) (tLst tNil)) σ' H' Q' := fun {H' L σ' Q'} hl hv k => by
      refine r_test (r_op (r_var hv ?_))
      tm_at "go"
      refine ⟨szl rfl, fun e0 he0 => ?_⟩
      refine r_neD (d := .list (natD L)) (e := .list []) (.lst (SqL.of (at_upd (ne_of_none hl he0) hl)) (dp_nats _)) (.lst (SqL.of upd_same) .nil) (sp_nats _) (by decide +kernel) ?_
      rw [eqv_nil]
      exact ⟨_, rfl, k _ (same_new he0)⟩
    have lastE : ∀ {L : List Nat}, L ≠ [] → atI (natV L) (-1) = some (.int ((mx L : Nat) : Int)) := fun {L} h => by
      obtain ⟨n, hn, en⟩ := atI_last h
      rcases List.eq_nil_or_concat L with rfl | ⟨L0, m, rfl⟩
      · exact absurd rfl h
      · rw [List.concat_eq_append] at *
        rw [lo_snoc] at en
        rw [mx_snoc, hn, show n = m by omega]
    refine r_cut (fun σ' H' => ∃ L o, σ' = [some (.str x), none, none, none, some (.ref wl), some (.ref l), some (.int ((L.length : Nat) : Int)), o] ∧ Same H H' ∧ Wds H' wl ws ∧ H' l = some (.lst (natV L)) ∧ OnesK ws L ∧ (L.length = ws.length ∨ ws[L.length]? = some ("from" : Str))) ?_ ?_
    · refine ⟨fun m σ' H' => ∃ L o, m = ws.length - L.length ∧ σ' = [some (.str x), none, none, none, some (.ref wl), some (.ref l), some (.int ((L.length : Nat) : Int)), o] ∧ Same H H' ∧ Wds H' wl ws ∧ H' l = some (.lst (natV L)) ∧ OnesK ws L, ⟨_, [], none, rfl, rfl, s1, W, hl, OnesK.nil ws⟩, ?_⟩
      clear hl W s1 hw
      rintro m σ' H3 ⟨L, o, rfl, rfl, s3, W3, hl, I⟩
      have hw := W3.wl
      tm_at "go"
      rw [List.length_map, show decide (((L.length : Nat) : Int) < ((ws.length : Nat) : Int)) = decide (L.length < ws.length) by simp]
      refine r_id (fun c1 => ?_) (fun c1 => ?_)
      rotate_left
      · tm_at "go"
        exact ⟨L, o, rfl, s3, W3, hl, I, .inl (by have := I.le; omega)⟩
      have hj : ws[L.length]? = some ws[L.length] := List.getElem?_eq_getElem c1
      generalize ws[L.length] = w1 at hj
      tm_at "go"
      refine r_ixL (SqL.of hw) (v := .str w1) (atI_nat (by rw [List.getElem?_map, hj]; rfl)) ?_
      tm_at "go"
      refine r_ne rfl ?_
      rw [decS]
      tm_at "go"
      refine r_nid (fun c2 => ?_) (fun c2 => ?_)
      rotate_left
      · tm_at "go"
        exact ⟨L, o, rfl, s3, W3, hl, I, .inr (by rw [hj, c2])⟩
      refine ⟨fun σ2 H2 => ∃ L2 o, ws.length - L2.length < ws.length - L.length ∧ σ2 = [some (.str x), none, none, none, some (.ref wl), some (.ref l), some (.int ((L2.length : Nat) : Int)), o] ∧ Same H H2 ∧ Wds H2 wl ws ∧ H2 l = some (.lst (natV L2)) ∧ OnesK ws L2, fun σ2 H2 ⟨L2, o, h1, h2⟩ => ⟨_, h1, L2, o, rfl, h2⟩, ?_⟩
      tm_at "go"
      refine r_cutE (fun u H' => u = .int ((mx L + 1 : Nat) : Int) ∧ Same H3 H') ?_ ?_
      · refine r_if (nes hl rfl fun H4 s4 => ?_)
        refine r_nb (fun c => ?_) (fun c => ?_)
        · tm_at "go"
          refine r_ixL (SqL.of (s4 _ _ hl)) (lastE (L := L) fun z => by rw [z] at c; exact nomatch c) ?_
          tm_at "go"
          exact ⟨rfl, s4⟩
        · tm_at "go"
          rw [List.isEmpty_iff.mp c]
          exact ⟨rfl, s4⟩
      rintro u H4 ⟨rfl, s4⟩
      tm_at "go"
      refine ⟨wl, ws, L.length, mx L + 1, _, rfl, W3.same s4, fun H5 s5 => ?_⟩
      have s45 := s4.trans s5
      have hl5 := s45 _ _ hl
      tm_at "go"
      cases en : numAt ws L.length (mx L + 1) (10 ^ Int.toNat 6) with
      | none =>
        rw [show optI none = V.non from rfl]
        tm_at "go"
        refine r_Td rfl ?_
        tm_at "go"
        have rr := rP L (I.stop big (.inr (.inr en)))
        unfold onesN at rr
        rw [if_neg (by omega), if_pos (by rw [hj]; exact fun z => c2 (Option.some.inj z))] at rr
        exact kN _ rr _ (s3.trans s45)
      | some n =>
        rw [show optI (some n) = V.int ((n : Nat) : Int) from rfl]
        tm_at "go"
        refine r_Fd (fun z => nomatch z) ?_
        tm_at "go"
        refine ⟨.inl ⟨rfl, _, SqL.of hl5⟩, ?_⟩
        tm_at "go"
        refine r_append hl5 (szlt (by rw [List.length_map]; exact Nat.ble_eq_true_of_le (by omega))) ?_
        have nll : wl ≠ l := fun e => by
          have z := W3.wl
          rw [e, hl] at z
          have z := HO.lst.inj (Option.some.inj z)
          cases L with
          | nil => cases ws with
            | nil => exact wne rfl
            | cons => exact nomatch z
          | cons a L => cases ws with
            | nil => exact wne rfl
            | cons b ws => exact nomatch (List.cons.inj z).1
        have W5 := W3.same s45
        tm_at "go"
        refine ⟨L ++ [n], some (.int ((n : Nat) : Int)), by rw [List.length_append]; show _ - (L.length + 1) < _; omega, ?_, Same.updF (s3.trans s45) hl00, ⟨at_upd nll W5.wl, W5.sz, W5.ok⟩, ?_, I.snoc hj c2 en⟩
        · rw [List.length_append, show ((L.length : Nat) : Int) + 1 = ((L.length + 1 : Nat) : Int) by omega]
          rfl
        · rw [upd_same]
          unfold natV
          rw [List.map_append]
          rfl
    clear hl W s1 hw
    rintro σ' H3 ⟨L, o, rfl, s3, W, hl, I, hend⟩
    have rP := rP L (I.stop (hi := 1000000) (by decide) (hend.imp id .inl))
    tm_at "go"
    refine r_cutE (fun u H' => u = .int ((mx L : Nat) : Int) ∧ Same H3 H') ?_ ?_
    · refine r_if (nes hl rfl fun H4 s4 => ?_)
      refine r_nb (fun c => ?_) (fun c => ?_)
      · tm_at "go"
        refine r_ixL (SqL.of (s4 _ _ hl)) (lastE (L := L) fun z => by rw [z] at c; exact nomatch c) ?_
        exact ⟨rfl, s4⟩
      · tm_at "go"
        rw [List.isEmpty_iff.mp c]
        exact ⟨rfl, s4⟩
    rintro u H4 ⟨rfl, s4⟩
    have W := W.same s4
    have hl := s4 _ _ hl
    have s4 := s3.trans s4
    have hw := W.wl
    clear s3
    tm_at "go"
    refine r_eq rfl ?_
    rw [decInt, List.length_map, show decide (((L.length : Nat) : Int) = ((ws.length : Nat) : Int)) = decide (L.length = ws.length) from decide_eq_decide.mpr (by omega)]
    tm_at "go"
    refine r_id (fun c1 => ?_) (fun c1 => ?_)
    · unfold onesN at rP
      rw [if_pos c1] at rP
      tm_at "go"
      rw [show ((mx L : Nat) : Int) + 1 = ((mx L + 1 : Nat) : Int) by omega]
      refine ⟨szl rfl, fun a2 ha2 => ?_⟩
      tm_at "go"
      refine ⟨szl rfl, fun t ht => ?_⟩
      exact kY _ _ _ _ rP t l a2 _ (Same.new (Same.new s4 ha2) ht) upd_same (at_upd (ne_of_none (at_upd (ne_of_none hl ha2) hl) ht) (at_upd (ne_of_none hl ha2) hl)) (at_upd (ne_of_none upd_same ht) upd_same)
    have hf : ws[L.length]? = some ("from" : Str) := hend.resolve_left c1
    unfold onesN at rP
    rw [if_neg c1, if_neg (fun z => z hf)] at rP
    unfold fromN at rP
    tm_at "go"
    rw [show ((mx L : Nat) : Int) + 1 = ((mx L + 1 : Nat) : Int) by omega, show ((L.length : Nat) : Int) + 1 = ((L.length + 1 : Nat) : Int) by omega]
    refine ⟨wl, ws, L.length + 1, mx L + 1, _, rfl, W, fun H5 s5 => ?_⟩
    rw [numAt_hi (h2 := 1000000) big (by decide)]
    have W5 := W.same s5
    have hl5 := s5 _ _ hl
    have s5 := s4.trans s5
    clear W hl s4 hw
    have hw := W5.wl
    tm_at "go"
    cases e1 : numAt ws (L.length + 1) (mx L + 1) 1000000 with
    | none =>
      rw [e1] at rP
      rw [show optI none = V.non from rfl]
      tm_at "go"
      refine r_Td rfl ?_
      tm_at "go"
      rw [show ((L.length : Nat) : Int) + 1 = ((L.length + 1 : Nat) : Int) by omega]
      exact kN _ rP _ s5
    | some s0 =>
    rw [e1] at rP
    rw [show optI (some s0) = V.int ((s0 : Nat) : Int) from rfl]
    tm_at "go"
    refine r_Fd (fun z => nomatch z) ?_
    tm_at "go"
    have slice : ∀ (i : Nat) (z : Str) {H' : Hp} {a b : Int} {Q' : VK}, cpsOk z → Wds H' wl ws → a = (i : Int) → b = ((i + 1 : Nat) : Int) → (∀ H3, Same H' H3 → Q' (.bl (!decide (ws[i]? = some z))) H3) → rSlL K (.ref wl) (some a) (some b) H' fun v H1 => tLst (tCons (tC (.str z)) tNil) [] H1 fun y H2 => uNe K v y H2 Q' := fun i z {H' a b Q'} hz W ha hb k => by
      refine r_slL (SqL.of W.wl) fun q hq => ?_
      rw [cut_one ws ha hb]
      tm_at "go"
      refine ⟨szl rfl, fun e0 he0 => ?_⟩
      refine r_neD (d := .list (strD ((ws.drop i).take 1))) (e := .list (strD [z])) (.lst (SqL.of (at_upd (ne_of_none upd_same he0) upd_same)) (dp_strs _)) (.lst (SqL.of upd_same) (dp_strs [z])) (shp_strs fun w hw => (W.ok w (List.mem_of_mem_drop (List.mem_of_mem_take hw))).2) (shp_strs fun w hw => by rw [List.mem_singleton.mp hw]; exact hz) ?_
      rw [eqv_strL, show decide ((ws.drop i).take 1 = [z]) = decide (ws[i]? = some z) from decide_eq_decide.mpr take1]
      exact k _ (Same.new (same_new hq) he0)
    refine slice (L.length + 2) "by" (cps_dec (by decide +kernel)) W5 (by omega) (by omega) fun H6 s6 => ?_
    have W6 := W5.same s6
    have hl6 := s6 _ _ hl5
    have s6 := s5.trans s6
    clear W5 hl5 s5 hw
    have hw := W6.wl
    tm_at "go"
    refine r_nid (fun c2 => ?_) (fun c2 => ?_)
    · have rP : readN ws = .inl (L.length + 2) := rP.trans (if_pos c2)
      tm_at "go"
      rw [show ((L.length : Nat) : Int) + 2 = ((L.length + 2 : Nat) : Int) by omega]
      exact kN _ rP _ s6
    have rP := rP.trans (if_neg fun z => z c2)
    tm_at "go"
    rw [show ((L.length : Nat) : Int) + 3 = ((L.length + 3 : Nat) : Int) by omega]
    refine ⟨wl, ws, L.length + 3, 1, _, rfl, W6, fun H7 s7 => ?_⟩
    rw [numAt_hi (h2 := 1000000) big (by decide)]
    have W7 := W6.same s7
    have hl7 := s7 _ _ hl6
    have s7 := s6.trans s7
    clear W6 hl6 s6 hw
    have hw := W7.wl
    tm_at "go"
    cases e2 : numAt ws (L.length + 3) 1 1000000 with
    | none =>
      rw [e2] at rP
      rw [show optI none = V.non from rfl]
      tm_at "go"
      refine r_Td rfl ?_
      tm_at "go"
      rw [show ((L.length : Nat) : Int) + 3 = ((L.length + 3 : Nat) : Int) by omega]
      exact kN _ rP _ s7
    | some p0 =>
    rw [e2] at rP
    rw [show optI (some p0) = V.int ((p0 : Nat) : Int) from rfl]
    tm_at "go"
    refine r_Fd (fun z => nomatch z) ?_
    tm_at "go"
    refine slice (L.length + 4) ":" (cps_dec (by decide +kernel)) W7 (by omega) (by omega) fun H8 s8 => ?_
    have W8 := W7.same s8
    have hl8 := s8 _ _ hl7
    have s8 := s7.trans s8
    clear W7 hl7 s7 hw
    have hw := W8.wl
    tm_at "go"
    refine r_nid (fun c3 => ?_) (fun c3 => ?_)
    · have rP : readN ws = .inl (L.length + 4) := rP.trans (if_pos c3)
      tm_at "go"
      rw [show ((L.length : Nat) : Int) + 4 = ((L.length + 4 : Nat) : Int) by omega]
      exact kN _ rP _ s8
    have rP : readN ws = restsN ws L s0 p0 (L.length + 5) := rP.trans (if_neg fun z => z c3)
    have hlt := (List.getElem?_eq_some_iff.mp c3).1
    tm_at "go"
    refine ⟨szl rfl, fun g hg => ?_⟩
    tm_at "go"
    rw [show ((L.length : Nat) : Int) + 5 = ((L.length + 5 : Nat) : Int) by omega]
    have sg := same_new (o := .tup [.ref l, .int ((s0 : Nat) : Int)]) hg
    refine ⟨wl, g, l, ws, L, L.length + 5, s0, p0, rfl, W8.same sg, hlt, upd_same, fun k e H9 s9 => ?_, fun R e t q H9 s9 ht hq => ?_⟩
    · exact kN k (rP.trans e) _ ((s8.trans sg).trans s9)
    · exact kY L s0 p0 R (rP.trans e) t l q _ ((s8.trans sg).trans s9) ht (s9 _ _ (sg _ _ hl8)) hq
end
/-! ### what the law reads; the text of arguments -/
def spLRead (K : PySem.W.Frag) (aNum : Addr) : Sp := fun vs H Q _ => ∃ v, vs = [v] ∧ TextN K H v ∧ (∀ k, telV v = .inl k → ∀ H', Same H H' → Q (.int ((k : Nat) : Int)) H') ∧
  ∀ f, telV v = .inr f → f.2.1 ≤ 10000 ∧ f.2.2.1 ≤ 10000 ∧ ∀ y H', Got aNum H f y H' → Q (.ref y) H'
def wordsT (L : List Nat) (s p : Nat) (R : List Nat) : List Str := if R = [] then L.map numS else L.map numS ++ (["from", numS s, "by", numS p, ":"] : List Str) ++ R.map numS
def textT (L : List Nat) (s p : Nat) (R : List Nat) : Str := if wordsT L s p R = [] then "none" else Txt.join " " (wordsT L s p R)
def spText (K : PySem.W.Frag) : Sp := fun vs H Q _ => ∃ (t l1 l2 : Addr) (L R : List Nat) (s p : Nat), vs = [.ref t] ∧ H t = some (.tup [.ref l1, .int ((s : Nat) : Int), .int ((p : Nat) : Int), .ref l2]) ∧ SqL K H l1 (natV L) ∧ SqL K H l2 (natV R) ∧
  s < 10 ^ 38 ∧ p < 10 ^ 38 ∧ (∀ n ∈ L, n < 10 ^ 38) ∧ (∀ n ∈ R, n < 10 ^ 38) ∧ L.length ≤ 1000 ∧ R.length ≤ 1000 ∧ ∀ H', Same H H' → Q (.str (textT L s p R)) H'
theorem eqv_strE (l : List Str) : PyData.eqv (.list (strD l)) (.list []) = l.isEmpty := by cases l <;> rfl
theorem sum_bd {m : Nat} : ∀ {ys : List Str}, (∀ w ∈ ys, w.length ≤ m) → (ys.map (·.length)).sum ≤ ys.length * m
  | [], _ => Nat.zero_le _
  | a :: l, h => by
    have h1 := h a (List.mem_cons_self ..)
    have ih := sum_bd (ys := l) fun w hw => h w (List.mem_cons_of_mem _ hw)
    rw [List.map_cons, List.sum_cons, List.length_cons, Nat.succ_mul]
    omega
theorem cps_ofs (s : String) : cpsOk (Str.ofString s) := by
  intro c hc
  rw [PySem.Str.ofString_eq_toList] at hc
  have hc : c ∈ s.toList.map Char.toNat := by simpa using hc
  obtain ⟨d, _, rfl⟩ := List.mem_map.mp hc
  have := d.valid
  have e : d.toNat = d.val.toNat := rfl
  rcases this with h | h
  · have h : d.val.toNat < 55296 := h
    omega
  · have h := h.2
    have h : d.val.toNat < 1114112 := h
    omega
theorem words_bd {L R : List Nat} {s p : Nat} (hs : s < 10 ^ 38) (hp : p < 10 ^ 38) (hL : ∀ n ∈ L, n < 10 ^ 38) (hR : ∀ n ∈ R, n < 10 ^ 38) : ∀ w ∈ wordsT L s p R, w.length ≤ 40 ∧ cpsOk w := by
  have hn : ∀ {l : List Nat}, (∀ n ∈ l, n < 10 ^ 38) → ∀ w ∈ l.map numS, w.length ≤ 40 ∧ cpsOk w := fun {l} h w hw => by
    obtain ⟨n, hn, rfl⟩ := List.mem_map.mp hw
    exact ⟨numS_len (h n hn), cps_ofs _⟩
  intro w hw
  unfold wordsT at hw
  split at hw
  · exact hn hL w hw
  · rcases List.mem_append.mp hw with hw | hw
    · rcases List.mem_append.mp hw with hw | hw
      · exact hn hL w hw
      · simp only [List.mem_cons, List.not_mem_nil, or_false] at hw
        rcases hw with rfl | rfl | rfl | rfl | rfl
        · exact ⟨by decide +kernel, cps_ofs _⟩
        · exact ⟨numS_len hs, cps_ofs _⟩
        · exact ⟨by decide +kernel, cps_ofs _⟩
        · exact ⟨numS_len hp, cps_ofs _⟩
        · exact ⟨by decide +kernel, cps_ofs _⟩
    · exact hn hR w hw
theorem words_len (L R : List Nat) (s p : Nat) : (wordsT L s p R).length ≤ L.length + R.length + 5 := by
  unfold wordsT
  split
  · rw [List.length_map]
    omega
  · rw [List.length_append, List.length_append, List.length_map, List.length_map]
    show L.length + 5 + R.length ≤ _
    omega
section
variable {K : PySem.W.Frag}
theorem ok_law_read (F : DefAt K mg "_law_read" s_law_read) (T : Txt K mg aGround aNum aInv aIT aRd) (M_Numbers_read : CmOk P w K mg base (L2.CX P w) 6 aNum "read" "Numbers.read" s_Numbers_read ["cls", "text"] (spReadN K aNum aIT)) :
    DefOk P w K mg base CX0 7 "_law_read" ["_law_line_text"] (spLRead K aNum) := by
  refine F.ok sc_law_read (fun _ _ _ _ _ _ us hl => match us, hl with | [_], _ => rfl) (fun vs H Q E h => ?_) (fun f cdv A outer s H vs Q E hr h => ?_)
  · obtain ⟨v, rfl, _⟩ := h
    rfl
  · obtain ⟨v, rfl, hv, kN, kY⟩ := h
    refine ⟨_, (pss_cons (ps_set (i := 1) sc_law_read.nd rfl (Or.inl rfl) pe_non)
  (pss_cons (ps_try_as (i := 2) rfl rfl sc_law_read.nd rfl rfl ⟨rfl, by decide, .inl T.m_InvalidText⟩ takes0
  (fun W pn xe tk po => (pss_one (ps_set (i := 1) sc_law_read.nd rfl (Or.inl rfl) (pe_cmS M_Numbers_read (hr.mono (by decide)) (fun σ => passAt tk σ) (pe_gR rfl T.m_Numbers) (pa_cons (pv 0) pa_nil)))))
  (fun a oe cls d pn hz hf => (pss_one (ps_set (i := 1) sc_law_read.nd rfl (Or.inl rfl) (pe_xf T.xfT T.xwT hz hf (pv 2))))))
  (pss_one (ps_ret (pv 1))))), ?_⟩
    tm_at "go"
    refine ⟨v, rfl, hv, fun k e d H' sm hd => ?_, fun f e => ⟨(kY f e).1, (kY f e).2.1, fun y H' g => ?_⟩⟩
    · refine ⟨true, T.exmT, fun _ e he => ?_, fun q => Bool.noConfusion q⟩
      tm_at "go"
      refine ⟨rfl, d, _, .int ((k : Nat) : Int), rfl, upd_same, rfl, ?_⟩
      tm_at "go"
      exact kN k ‹telV v = _› _ (sm.trans (same_new hd))
    · tm_at "go"
      exact (kY f e).2.2 y H' g
theorem ok_law_text (F : DefAt K mg "_law_text" s_law_text) (T : Txt K mg aGround aNum aInv aIT aRd) : DefOk P w K mg base CX0 1 "_law_text" ["_law_given"] (spText K) := by
  refine F.ok sc_law_text (fun _ _ _ _ _ _ us hl => match us, hl with | [_], _ => rfl) (fun vs H Q E h => ?_) (fun f cdv A outer s H vs Q E hr h => ?_)
  · obtain ⟨t, l1, l2, L, R, s, p, rfl, _⟩ := h
    rfl
  · obtain ⟨t, l1, l2, L, R, sc, p, rfl, ht, h1, h2, s9, p9, L9, R9, zL, zR, k⟩ := h
    refine ⟨_, (pss_cons (ps_asg (pv 0) (pg_t (n := 4) K rfl (pgs_cons (pg_name (i := 2) sc_law_text.nd rfl (Or.inl rfl)) (pgs_cons (pg_name (i := 3) sc_law_text.nd rfl (Or.inl rfl)) (pgs_cons (pg_name (i := 4) sc_law_text.nd rfl (Or.inl rfl)) (pgs_cons (pg_name (i := 5) sc_law_text.nd rfl (Or.inl rfl)) pgs_nil))))))
  (pss_cons (ps_setLc (i := 1) rfl sc_law_text.nd rfl rfl (sw_true rfl rfl rfl (by decide +kernel)) (own := [("_law_n", 6)]) (g := (gName 6)) (pi_l K (pv 2)) (blkOk_by (own := [("_law_n", 6)]) (N := ["_law_given", "_law_words", "_law_ones", "_law_since", "_law_period", "_law_rests", "_law_n", "_law_rest"]) (sc := defScope s_law_text) (by decide +kernel)) (fun _ _ _ _ _ => (pg_name (i := 6) sc_law_text.nd rfl (Or.inl rfl) (Or.inr rfl))) (fun _ _ _ _ _ => pts_nil) (fun _ _ _ _ _ => (pe_callTy c_str (by rfl) T.n_str (by decide +kernel) (pa_cons (pv 6) pa_nil))))
  (pss_cut (ps_if (pt_cmpR (o_ne K hr.units) (pv 5) (pe_lst pa_nil) (nomark _)) (pss_one (ps_set (i := 1) sc_law_text.nd rfl (Or.inl rfl) (pe_op (o_add K) (pe_op (o_add K) (pv 1) (pe_lst (pa_cons pe_str (pa_cons (pe_callTy c_str (by rfl) T.n_str (by decide +kernel) (pa_cons (pv 3) pa_nil)) (pa_cons pe_str (pa_cons (pe_callTy c_str (by rfl) T.n_str (by decide +kernel) (pa_cons (pv 4) pa_nil)) (pa_cons pe_str pa_nil))))))) (pe_lc (own := [("_law_rest", 7)]) (g := (gName 7)) rfl sc_law_text.nd (pi_l K (pv 5)) (blkOk_by (own := [("_law_rest", 7)]) (N := ["_law_given", "_law_words", "_law_ones", "_law_since", "_law_period", "_law_rests", "_law_n", "_law_rest"]) (sc := defScope s_law_text) (by decide +kernel)) (fun _ _ _ _ _ => (pg_name (i := 7) sc_law_text.nd rfl (Or.inl rfl) (Or.inr rfl))) (fun _ _ _ _ _ => pts_nil) (fun _ _ _ _ _ => (pe_callTy c_str (by rfl) T.n_str (by decide +kernel) (pa_cons (pv 7) pa_nil)))))))
  pss_nil)
  (pss_one (ps_ret (pe_ifExp (pt_cmpR (o_ne K hr.units) (pv 1) (pe_lst pa_nil) (nomark _)) (pe_joinK K pe_str (pv 1)) pe_str)))))), ?_⟩
    tm_at "go"
    refine r_gT (SqT.of ht) rfl ?_
    tm_at "go"
    refine ⟨l1, rfl, ⟨_, h1⟩, fun D hD => ?_⟩
    have lenL : (natV L).length = L.length := List.length_map ..
    have lenR : (natV R).length = R.length := List.length_map ..
    refine lc_it (walk_list (xs := natV L)) (fun i H' => Same H H' ∧ H' D = some (.lst (((L.take i).map numS).map V.str))) ⟨same_new hD, upd_same⟩ (fun i H' _ q => Same.seqL q.1 h1) ?_ ?_
    · rintro i y H1 H2 hi ⟨sm, hl⟩ ⟨rfl, hy⟩
      obtain ⟨n, hn, rfl⟩ := natV_at hy
      tm_at "go"
      refine ⟨rfl, ?_⟩
      tm_at "go"
      refine r_strI (numS_log (L9 n (List.mem_of_getElem? hn))) ?_
      refine ⟨_, hl, ?_, Same.updF sm hD, ?_⟩
      · rw [List.length_map, List.length_map]
        exact szlt (Nat.ble_eq_true_of_le (Nat.le_trans (List.length_take_le ..) (by omega)))
      · rw [upd_same, take_succ hn, List.map_append, List.map_append]
        rfl
    rintro H1 ⟨s1, hl1⟩
    rw [lenL, List.take_length] at hl1
    have h21 := Same.seqL s1 h2
    tm_at "go"
    refine r_cut (fun σ' H' => ∃ q o, σ' = [some (.ref t), some (.ref q), some (.ref l1), some (.int ((sc : Nat) : Int)), some (.int ((p : Nat) : Int)), some (.ref l2), none, o] ∧ Same H H' ∧ H' q = some (.lst ((wordsT L sc p R).map V.str))) ?_ ?_
    · tm_at "go"
      refine ⟨szl rfl, fun e0 he0 => ?_⟩
      refine r_neD (d := .list (natD R)) (e := .list []) (.lst (Same.seqL (same_new he0) h21) (dp_nats _)) (.lst (SqL.of upd_same) .nil) (sp_nats _) (by decide +kernel) ?_
      rw [eqv_nil]
      have hl2 := at_upd (u := .lst []) (ne_of_none hl1 he0) hl1
      have s2 := Same.new (o := .lst []) s1 he0
      have h22 := Same.seqL s2 h2
      generalize upd H1 e0 (.lst []) = H2 at hl2 s2 h22 ⊢
      tm_at "go"
      refine r_nb (fun c => ?_) (fun c => ?_)
      rotate_left
      · have hR := List.isEmpty_iff.mp c
        tm_at "go"
        refine ⟨D, none, rfl, s2, ?_⟩
        rw [hl2]
        unfold wordsT
        rw [if_pos hR]
      have hR : R ≠ [] := fun z => by rw [z] at c; exact nomatch c
      tm_at "go"
      refine r_strI (numS_log s9) ?_
      tm_at "go"
      refine r_strI (numS_log p9) ?_
      tm_at "go"
      refine ⟨szl rfl, fun q1 hq1 => ?_⟩
      refine r_addL (at_upd (ne_of_none hl2 hq1) hl2) upd_same (sz (by rw [List.length_map, List.length_map]; show _ + 5 ≤ _; omega)) fun q2 hq2 => ?_
      have s4 := Same.new (o := .lst ((L.map numS).map V.str ++ [.str "from", .str (numS sc), .str "by", .str (numS p), .str ":"])) (Same.new (o := .lst [.str "from", .str (numS sc), .str "by", .str (numS p), .str ":"]) s2 hq1) hq2
      rw [show upd (upd H2 q1 (.lst [V.str "from", .str (Str.ofString (toString ((sc : Nat) : Int))), .str "by", .str (Str.ofString (toString ((p : Nat) : Int))), .str ":"])) q2 (.lst ((L.map numS).map V.str ++ [V.str "from", .str (Str.ofString (toString ((sc : Nat) : Int))), .str "by", .str (Str.ofString (toString ((p : Nat) : Int))), .str ":"])) = upd (upd H2 q1 (.lst [.str "from", .str (numS sc), .str "by", .str (numS p), .str ":"])) q2 (.lst ((L.map numS).map V.str ++ [.str "from", .str (numS sc), .str "by", .str (numS p), .str ":"])) from rfl]
      have hq2' : upd (upd H2 q1 (.lst [.str "from", .str (numS sc), .str "by", .str (numS p), .str ":"])) q2 (.lst ((L.map numS).map V.str ++ [.str "from", .str (numS sc), .str "by", .str (numS p), .str ":"])) q2 = some (.lst ((L.map numS).map V.str ++ [.str "from", .str (numS sc), .str "by", .str (numS p), .str ":"])) := upd_same
      generalize upd (upd H2 q1 (.lst [.str "from", .str (numS sc), .str "by", .str (numS p), .str ":"])) q2 (.lst ((L.map numS).map V.str ++ [.str "from", .str (numS sc), .str "by", .str (numS p), .str ":"])) = H4 at s4 hq2' ⊢
      have h24 := Same.seqL s4 h2
      tm_at "go"
      refine ⟨l2, rfl, ⟨_, h24⟩, fun D2 hD2 => ?_⟩
      refine lc_it (walk_list (xs := natV R)) (fun i H' => Same H4 H' ∧ H' D2 = some (.lst (((R.take i).map numS).map V.str))) ⟨same_new hD2, upd_same⟩ (fun i H' _ q => Same.seqL q.1 h24) ?_ ?_
      · rintro i y H5 H6 hi ⟨sm, hl⟩ ⟨rfl, hy⟩
        obtain ⟨n, hn, rfl⟩ := natV_at hy
        tm_at "go"
        refine ⟨rfl, ?_⟩
        tm_at "go"
        refine r_strI (numS_log (R9 n (List.mem_of_getElem? hn))) ?_
        refine ⟨_, hl, ?_, Same.updF sm hD2, ?_⟩
        · rw [List.length_map, List.length_map]
          exact szlt (Nat.ble_eq_true_of_le (Nat.le_trans (List.length_take_le ..) (by omega)))
        · rw [upd_same, take_succ hn, List.map_append, List.map_append]
          rfl
      rintro H5 ⟨s5, hl5⟩
      rw [lenR, List.take_length] at hl5
      refine r_addL (s5 _ _ hq2') hl5 (sz (by rw [List.length_append, List.length_map, List.length_map, List.length_map, List.length_map]; show _ + 5 + _ ≤ _; omega)) fun q3 hq3 => ?_
      tm_at "go"
      refine ⟨q3, none, rfl, Same.new (s4.trans s5) hq3, ?_⟩
      rw [upd_same]
      unfold wordsT
      rw [if_neg hR, List.map_append, List.map_append]
      rfl
    rintro σ' H2 ⟨q, o, rfl, s2, hq⟩
    have wb := words_bd s9 p9 L9 R9
    have wl := words_len L R sc p
    have k : ∀ H', Same H H' → Q (.str (if wordsT L sc p R = [] then "none" else Txt.join " " (wordsT L sc p R))) H' := k
    generalize wordsT L sc p R = ws at hq k wb wl
    tm_at "go"
    refine ⟨szl rfl, fun e0 he0 => ?_⟩
    have hq2 := at_upd (u := .lst []) (ne_of_none hq he0) hq
    refine r_neD (d := .list (strD ws)) (e := .list []) (.lst (SqL.of hq2) (dp_strs _)) (.lst (SqL.of upd_same) .nil) (shp_strs fun w hw => (wb w hw).2) (by decide +kernel) ?_
    rw [eqv_strE]
    have k := k _ (Same.new (o := .lst []) s2 he0)
    tm_at "go"
    refine r_nb (fun c => ?_) (fun c => ?_)
    · rw [if_neg (fun z => by rw [z] at c; exact nomatch c)] at k
      tm_at "go"
      refine r_join (.inl (SqL.of hq2)) ?_ k
      have := sum_bd fun w hw => (wb w hw).1
      rw [show (" " : Str).length = 1 by decide +kernel]
      omega
    · rw [if_pos (List.isEmpty_iff.mp c)] at k
      tm_at "go"
      exact k
end
/-! ### what the law's texts tell -/
def w0 (w : Str) : Bool := !w.cps.toList.contains 32 && decide (w.length ≤ 10) && (w.cps.toList.all fun c => decide (c < 1114112)) && (match numOf w with | some n => decide (n ≤ 40) | none => true)
theorem w0_sp {w : Str} (h : w0 w = true) : 32 ∉ TL.tl w := fun z => by
  unfold w0 at h
  rw [Bool.and_eq_true, Bool.and_eq_true, Bool.and_eq_true] at h
  have e := h.1.1.1
  rw [show w.cps.toList.contains 32 = true from List.contains_iff_mem.mpr z] at e
  exact nomatch e
theorem w0_len {w : Str} (h : w0 w = true) : w.length ≤ 10 := by
  unfold w0 at h
  rw [Bool.and_eq_true, Bool.and_eq_true, Bool.and_eq_true] at h
  exact of_decide_eq_true h.1.1.2
theorem w0_cps {w : Str} (h : w0 w = true) : cpsOk w := by
  unfold w0 at h
  rw [Bool.and_eq_true, Bool.and_eq_true, Bool.and_eq_true] at h
  exact cps_dec h.1.2
theorem w0_num {w : Str} (h : w0 w = true) {n : Nat} (e : numOf w = some n) : n ≤ 40 := by
  unfold w0 at h
  rw [Bool.and_eq_true, e] at h
  exact of_decide_eq_true h.2
theorem num_small {n : Nat} (h : n ≤ 40) : w0 (numS n) = true ∧ numOf (numS n) = some n := by
  have z : ((List.range 41).all fun n => w0 (numS n) && (numOf (numS n) == some n)) = true := by decide +kernel
  have q := List.all_eq_true.mp z n (List.mem_range.mpr (by omega))
  rw [Bool.and_eq_true, beq_iff_eq] at q
  exact q
theorem split_w0 {ws : List Str} (ne : ws ≠ []) (h : ∀ w ∈ ws, w0 w = true) : Txt.split (Txt.join " " ws) " " = ws :=
  TL.split_join (s := 32) (S := []) (by decide +kernel) (by decide +kernel) ne fun p hp => w0_sp (h p hp)
theorem words_w0 {L R : List Nat} {s p : Nat} (hs : s ≤ 40) (hp : p ≤ 40) (hL : ∀ n ∈ L, n ≤ 40) (hR : ∀ n ∈ R, n ≤ 40) : ∀ w ∈ wordsT L s p R, w0 w = true := by
  have hn : ∀ {l : List Nat}, (∀ n ∈ l, n ≤ 40) → ∀ w ∈ l.map numS, w0 w = true := fun {l} h w hw => by
    obtain ⟨n, hn, rfl⟩ := List.mem_map.mp hw
    exact (num_small (h n hn)).1
  intro w hw
  unfold wordsT at hw
  split at hw
  · exact hn hL w hw
  · rcases List.mem_append.mp hw with hw | hw
    · rcases List.mem_append.mp hw with hw | hw
      · exact hn hL w hw
      · simp only [List.mem_cons, List.not_mem_nil, or_false] at hw
        rcases hw with rfl | rfl | rfl | rfl | rfl
        · decide +kernel
        · exact (num_small hs).1
        · decide +kernel
        · exact (num_small hp).1
        · decide +kernel
    · exact hn hR w hw
theorem num_ne {n : Nat} (h : n ≤ 40) {w : Str} (e : numOf w = none) : numS n ≠ w := fun z => by
  have := (num_small h).2
  rw [z, e] at this
  exact nomatch this
theorem from_no : numOf "from" = none := by decide +kernel
theorem none_no : numOf "none" = none := by decide +kernel
theorem rd_nums : ∀ (L : List Nat) (last : Nat) (rest : List Str), L.Pairwise (· < ·) → (∀ n ∈ L, last + 1 ≤ n ∧ n ≤ 40) → (rest = [] ∨ ∃ r, rest = ("from" : Str) :: r) → rdOnes last (L.map numS ++ rest) = (L, rest)
  | [], last, rest, _, _, hr => by
    rcases hr with rfl | ⟨r, rfl⟩
    · rfl
    · exact rdOnes_stop (.inl rfl)
  | n :: L, last, rest, hp, hn, hr => by
    have h := hn n (List.mem_cons_self ..)
    have hc := List.pairwise_cons.mp hp
    show rdOnes last (numS n :: (L.map numS ++ rest)) = _
    rw [rdOnes_hit (num_ne h.2 from_no) (num_small h.2).2 h.1, rd_nums L n rest hc.2 (fun m hm => ⟨hc.1 m hm, (hn m (List.mem_cons_of_mem _ hm)).2⟩) hr]
theorem rd_rests (p : Nat) : ∀ (R : List Nat) (lo : Nat), R.Pairwise (· < ·) → (∀ n ∈ R, lo ≤ n ∧ n < p ∧ n ≤ 40) → rdRests p lo (R.map numS) = (R, [])
  | [], lo, _, _ => rfl
  | n :: R, lo, hp, hn => by
    have h := hn n (List.mem_cons_self ..)
    have hc := List.pairwise_cons.mp hp
    show rdRests p lo (numS n :: R.map numS) = _
    rw [rdRests_hit (num_small h.2.2).2 ⟨h.1, h.2.1⟩, rd_rests p R (n + 1) hc.2 (fun m hm => ⟨hc.1 m hm, (hn m (List.mem_cons_of_mem _ hm)).2⟩)]
theorem app_at {A B : List Str} (i : Nat) {n : Nat} (h : A.length = n) : (A ++ B)[n + i]? = B[i]? := by
  rw [← h, List.getElem?_append_right (by omega), Nat.add_sub_cancel_left]
theorem mx_lt {L : List Nat} {s : Nat} (h : Asc L 1 s) (s1 : 1 ≤ s) : mx L < s := by
  rcases List.eq_nil_or_concat L with rfl | ⟨L0, m, rfl⟩
  · exact s1
  · rw [List.concat_eq_append] at *
    rw [mx_snoc]
    exact (h.2 m (List.mem_append_right _ (List.mem_singleton.mpr rfl))).2
theorem read_words {L R : List Nat} {s p : Nat} (aL : Asc L 1 s) (aR : Asc R 0 p) (s1 : 1 ≤ s) (s2 : s ≤ 40) (p1 : 1 ≤ p) (p2 : p ≤ 40) (ne : R ≠ []) : readN (wordsT L s p R) = .inr (L, s, p, R) := by
  have hL : ∀ n ∈ L, 0 + 1 ≤ n ∧ n ≤ 40 := fun n hn => by have := aL.2 n hn; omega
  have hR : ∀ n ∈ R, 0 ≤ n ∧ n < p ∧ n ≤ 40 := fun n hn => by have := aR.2 n hn; omega
  have eW : wordsT L s p R = L.map numS ++ (("from" : Str) :: numS s :: "by" :: numS p :: ":" :: R.map numS) := by
    unfold wordsT
    rw [if_neg ne, List.append_assoc]
    rfl
  rw [eW]
  have len : (L.map numS).length = L.length := List.length_map ..
  have ws0 : (L.map numS ++ (("from" : Str) :: numS s :: "by" :: numS p :: ":" :: R.map numS))[0]? ≠ some ("none" : Str) := by
    cases L with
    | nil =>
      intro z
      exact absurd (Option.some.inj z) (by decide +kernel)
    | cons n L => exact fun z => num_ne (hL n (List.mem_cons_self ..)).2 none_no (Option.some.inj z)
  have ro := rd_nums L 0 (("from" : Str) :: numS s :: "by" :: numS p :: ":" :: R.map numS) aL.1 hL (.inr ⟨_, rfl⟩)
  have a0 := app_at (B := ("from" : Str) :: numS s :: "by" :: numS p :: ":" :: R.map numS) 0 len
  have a1 := app_at (B := ("from" : Str) :: numS s :: "by" :: numS p :: ":" :: R.map numS) 1 len
  have a2 := app_at (B := ("from" : Str) :: numS s :: "by" :: numS p :: ":" :: R.map numS) 2 len
  have a3 := app_at (B := ("from" : Str) :: numS s :: "by" :: numS p :: ":" :: R.map numS) 3 len
  have a4 := app_at (B := ("from" : Str) :: numS s :: "by" :: numS p :: ":" :: R.map numS) 4 len
  have d5 : (L.map numS ++ (("from" : Str) :: numS s :: "by" :: numS p :: ":" :: R.map numS)).drop (L.length + 5) = R.map numS := by
    rw [← len, List.drop_append, List.drop_of_length_le (by omega), show (L.map numS).length + 5 - (L.map numS).length = 5 by omega]
    rfl
  have tot : (L.map numS ++ (("from" : Str) :: numS s :: "by" :: numS p :: ":" :: R.map numS)).length = L.length + 5 + R.length := by
    rw [List.length_append, len]
    show _ + ((R.map numS).length + 5) = _
    rw [List.length_map]
    omega
  have m := mx_lt aL s1
  unfold readN
  rw [if_neg ws0, ro]
  dsimp only
  unfold onesN
  rw [if_neg (by omega), if_neg (fun z => z (a0.trans rfl))]
  unfold fromN
  have n1 : numAt (L.map numS ++ (("from" : Str) :: numS s :: "by" :: numS p :: ":" :: R.map numS)) (L.length + 1) (mx L + 1) 1000000 = some s := by
    unfold numAt
    rw [a1]
    show ((numOf (numS s)).bind _) = _
    rw [(num_small s2).2]
    exact if_pos ⟨m, by omega⟩
  have n3 : numAt (L.map numS ++ (("from" : Str) :: numS s :: "by" :: numS p :: ":" :: R.map numS)) (L.length + 3) 1 1000000 = some p := by
    unfold numAt
    rw [a3]
    show ((numOf (numS p)).bind _) = _
    rw [(num_small p2).2]
    exact if_pos ⟨p1, by omega⟩
  rw [n1, n3]
  dsimp only
  rw [if_neg (fun z => z (a2.trans rfl)), if_neg (fun z => z (a4.trans rfl))]
  unfold restsN
  rw [d5, rd_rests p R 0 aR.1 hR]
  dsimp only
  rw [if_neg ne, if_pos tot.symm]
theorem read_ones {L : List Nat} {s : Nat} (aL : Asc L 1 s) (s2 : s ≤ 40) (ne : L ≠ []) : readN (L.map numS) = .inr (L, mx L + 1, 1, []) := by
  have hL : ∀ n ∈ L, 0 + 1 ≤ n ∧ n ≤ 40 := fun n hn => by have := aL.2 n hn; omega
  have ws0 : (L.map numS)[0]? ≠ some ("none" : Str) := by
    cases L with
    | nil => exact absurd rfl ne
    | cons n L => exact fun z => num_ne (hL n (List.mem_cons_self ..)).2 none_no (Option.some.inj z)
  have ro := rd_nums L 0 [] aL.1 hL (.inl rfl)
  rw [List.append_nil] at ro
  unfold readN
  rw [if_neg ws0, ro]
  unfold onesN
  rw [if_pos (List.length_map ..).symm]
theorem rdOnes_mem : ∀ (last : Nat) (ws : List Str) {n : Nat}, n ∈ (rdOnes last ws).1 → ∃ w ∈ ws, numOf w = some n
  | _, [], _, h => nomatch h
  | last, w :: ws, n, h => by
    unfold rdOnes at h
    split at h
    · exact nomatch h
    · split at h
      · rename_i m e
        split at h
        · rcases List.mem_cons.mp h with rfl | h
          · exact ⟨w, List.mem_cons_self .., e⟩
          · obtain ⟨u, hu, e⟩ := rdOnes_mem m ws h
            exact ⟨u, List.mem_cons_of_mem _ hu, e⟩
        · exact nomatch h
      · exact nomatch h
theorem mx_mem {L : List Nat} (h : L ≠ []) : mx L ∈ L := by
  rcases List.eq_nil_or_concat L with rfl | ⟨L0, m, rfl⟩
  · exact absurd rfl h
  · rw [List.concat_eq_append, mx_snoc]
    exact List.mem_append_right _ (List.mem_singleton.mpr rfl)
theorem ones_small {ws : List Str} (h : ∀ w ∈ ws, w0 w = true) : mx (rdOnes 0 ws).1 ≤ 40 := by
  by_cases c : (rdOnes 0 ws).1 = []
  · rw [c]
    exact Nat.zero_le _
  · obtain ⟨w, hw, e⟩ := rdOnes_mem 0 ws (mx_mem c)
    exact w0_num (h w hw) e
theorem readP_N {ws : List Str} (h : ∀ w ∈ ws, w0 w = true) : readP ws = readN ws := by
  have := ones_small h
  unfold readP readN
  split
  · rfl
  · rw [if_neg fun z => by omega]
theorem numAt_small {ws : List Str} (h : ∀ w ∈ ws, w0 w = true) {i lo n : Nat} {hi : Int} (e : numAt ws i lo hi = some n) : n ≤ 40 := by
  cases q : ws[i]? with
  | none =>
    rw [numAt_end q] at e
    exact nomatch e
  | some w => exact w0_num (h w (List.mem_of_getElem? q)) (numAt_some q e).1
theorem readN_small {ws : List Str} (h : ∀ w ∈ ws, w0 w = true) {f : Form4} (e : readN ws = .inr f) : F4ok f ∧ f.2.1 ≤ 41 ∧ f.2.2.1 ≤ 41 := by
  have ok := readP_ok ((readP_N h).trans e)
  refine ⟨ok, ?_⟩
  have ms := ones_small h
  unfold readN at e
  split at e
  · split at e
    · cases e
      decide
    · exact nomatch e
  unfold onesN at e
  split at e
  · cases e
    exact ⟨by show _ + 1 ≤ 41; omega, by show 1 ≤ 41; decide⟩
  split at e
  · exact nomatch e
  unfold fromN at e
  split at e
  · exact nomatch e
  rename_i s hs
  have hs := numAt_small h hs
  split at e
  · exact nomatch e
  split at e
  · exact nomatch e
  rename_i p hp
  have hp := numAt_small h hp
  split at e
  · exact nomatch e
  unfold restsN at e
  dsimp only at e
  split at e
  · exact nomatch e
  split at e
  · cases e
    exact ⟨Nat.le_succ_of_le hs, Nat.le_succ_of_le hp⟩
  · exact nomatch e
/-- a text of arguments that are in order, read -/
theorem read_text {L R : List Nat} {s p : Nat} (aL : Asc L 1 s) (aR : Asc R 0 p) (s1 : 1 ≤ s) (s2 : s ≤ 40) (p1 : 1 ≤ p) (p2 : p ≤ 40) :
    ∃ ws, Txt.split (textT L s p R) " " = ws ∧ (∀ w ∈ ws, w0 w = true) ∧ ws.length ≤ 100 ∧ ∃ f, readN ws = .inr f ∧ ∀ n, 1 ≤ n → hasN f.1 f.2.1 f.2.2.1 f.2.2.2 n = hasN L s p R n := by
  have hw := words_w0 (L := L) (R := R) s2 p2 (fun n hn => by have := aL.2 n hn; omega) (fun n hn => by have := aR.2 n hn; omega)
  have lw := words_len L R s p
  have zL := aL.len
  have zR := aR.len
  by_cases c : wordsT L s p R = []
  · have hLR : L = [] ∧ R = [] := by
      unfold wordsT at c
      split at c
      · rename_i hR
        exact ⟨List.map_eq_nil_iff.mp c, hR⟩
      · have := congrArg List.length c
        rw [List.length_append, List.length_append] at this
        simp at this
    obtain ⟨rfl, rfl⟩ := hLR
    refine ⟨["none"], by rw [show textT [] s p [] = "none" from if_pos rfl]; decide +kernel, fun w hw => by rw [List.mem_singleton.mp hw]; decide +kernel, by decide, ([], 1, 1, []), by decide +kernel, fun n hn => ?_⟩
    unfold hasN
    split <;> split <;> rfl
  · refine ⟨wordsT L s p R, ?_, hw, by omega, ?_⟩
    · unfold textT
      rw [if_neg c, split_w0 c hw]
    · by_cases hR : R = []
      · subst hR
        have eW : wordsT L s p [] = L.map numS := if_pos rfl
        rw [eW] at c ⊢
        refine ⟨_, read_ones aL s2 (fun z => c (by rw [z]; rfl)), fun n hn => ?_⟩
        have m := mx_lt aL s1
        show hasN L (mx L + 1) 1 [] n = _
        unfold hasN
        have no : mx L < n → L.contains n = false := fun h => con_no fun z => by
          have := mx_le aL.1 z
          omega
        by_cases c1 : n < mx L + 1
        · rw [if_pos c1, if_pos (by omega)]
        · rw [if_neg c1]
          by_cases c2 : n < s
          · rw [if_pos c2, no (by omega)]
            rfl
          · rw [if_neg c2]
            rfl
      · exact ⟨_, read_words aL aR s1 s2 p1 p2 hR, fun n _ => rfl⟩
theorem asc_app (a b c : Str) : a ++ b ++ c = a ++ (b ++ c) := TL.ext_tl (by rw [TL.tl_append, TL.tl_append, TL.tl_append, TL.tl_append, List.append_assoc])
theorem emp_app (a : Str) : Str.empty ++ a = a := TL.ext_tl (by rw [TL.tl_append]; rfl)
theorem join_app : ∀ (a : Str) (l : List Str) (b : Str) (m : List Str), Str.join " " ((a :: l) ++ (b :: m)) = Str.join " " (a :: l) ++ " " ++ Str.join " " (b :: m)
  | a, [], b, m => rfl
  | a, c :: l, b, m => by
    have ih := join_app c l b m
    show a ++ " " ++ Str.join " " ((c :: l) ++ (b :: m)) = (a ++ " " ++ Str.join " " (c :: l)) ++ " " ++ Str.join " " (b :: m)
    rw [ih, asc_app, asc_app, asc_app, asc_app, asc_app]
theorem join_ne : ∀ (n : Nat) (L : List Nat), (∀ m ∈ n :: L, m ≤ 40) → Str.join " " ((n :: L).map numS) ≠ ""
  | n, L, h => fun z => by
    have e := congrArg Str.length z
    have hn : 1 ≤ (numS n).length := by
      have q : ((List.range 41).all fun n => decide (1 ≤ (numS n).length)) = true := by decide +kernel
      have := h n (List.mem_cons_self ..)
      exact of_decide_eq_true (List.all_eq_true.mp q n (List.mem_range.mpr (by omega)))
    rw [show ("" : Str).length = 0 by decide +kernel] at e
    cases L with
    | nil =>
      have e : (numS n).length = 0 := e
      omega
    | cons m L =>
      have e : (numS n ++ " " ++ Str.join " " ((m :: L).map numS)).length = 0 := e
      rw [app_len, app_len] at e
      omega
theorem strN_text {L R : List Nat} {s p : Nat} (hL : ∀ n ∈ L, n ≤ 40) (hR : ∀ n ∈ R, n ≤ 40) : strN L s p R = textT L s p R := by
  unfold strN textT
  have jn : joinS [] = "" := by decide +kernel
  have sf : (" from " : Str) = " " ++ "from" ++ " " := by decide +kernel
  have sb : (" by " : Str) = " " ++ "by" ++ " " := by decide +kernel
  have sc : (" : " : Str) = " " ++ ":" ++ " " := by decide +kernel
  have f5 : ("from " : Str) = "from" ++ " " := by decide +kernel
  cases R with
  | nil =>
    rw [if_pos jn, show wordsT L s p [] = L.map numS from if_pos rfl]
    cases L with
    | nil =>
      rw [if_pos jn]
      rfl
    | cons n L =>
      have c : joinS (n :: L) ≠ "" := by
        unfold joinS
        rw [TL.join_eq]
        exact join_ne n L hL
      rw [if_neg c, if_neg (fun z => nomatch z)]
      rfl
  | cons r R =>
    have c : joinS (r :: R) ≠ "" := by
      unfold joinS
      rw [TL.join_eq]
      exact join_ne r R hR
    have eW : wordsT L s p (r :: R) = L.map numS ++ (("from" : Str) :: numS s :: "by" :: numS p :: ":" :: (r :: R).map numS) := by
      unfold wordsT
      rw [if_neg (fun z => nomatch z), List.append_assoc]
      rfl
    have jR : joinS (r :: R) = Str.join " " ((r :: R).map numS) := TL.join_eq ..
    have tail : Str.join " " (("from" : Str) :: numS s :: "by" :: numS p :: ":" :: (r :: R).map numS) = "from" ++ " " ++ (numS s ++ " " ++ ("by" ++ " " ++ (numS p ++ " " ++ (":" ++ " " ++ Str.join " " ((r :: R).map numS))))) := rfl
    rw [if_neg c, eW]
    cases L with
    | nil =>
      rw [if_pos jn, if_neg (fun z => nomatch z), TL.join_eq]
      show _ = Str.join " " (("from" : Str) :: numS s :: "by" :: numS p :: ":" :: (r :: R).map numS)
      rw [tail, emp_app, jR, f5, sb, sc]
      simp only [asc_app]
    | cons n L =>
      have c2 : joinS (n :: L) ≠ "" := by
        unfold joinS
        rw [TL.join_eq]
        exact join_ne n L hL
      rw [if_neg c2, if_neg (fun z => nomatch z), TL.join_eq]
      show _ = Str.join " " ((numS n :: L.map numS) ++ (("from" : Str) :: numS s :: "by" :: numS p :: ":" :: (r :: R).map numS))
      rw [join_app, tail, emp_app, jR, sf, sb, sc, show joinS (n :: L) = Str.join " " (numS n :: L.map numS) from TL.join_eq ..]
      simp only [asc_app]
/-! ### the law -/
def spLaw (K : PySem.W.Frag) : Sp := fun vs H Q _ => ∃ (a : Addr) (ns : List Int), vs = [.ref a] ∧ SqL K H a (ns.map V.int) ∧ ns.length ≤ 63 ∧ ∀ H', Q (.bl true) H'
def oddW : List Str := ["0", "1", "from", "by", ":", "none", "", "07", "x", "30", "-1"]
theorem odd_w0 : ∀ w ∈ oddW, w0 w = true := fun w hw => List.all_eq_true.mp (show oddW.all w0 = true by decide +kernel) w hw
theorem readN_le {ws : List Str} {k : Nat} (h : readN ws = .inl k) : k ≤ 2 * ws.length + 5 := by
  have z := (rdOnes_app 0 ws).1
  unfold readN at h
  split at h
  · split at h
    · exact nomatch h
    · cases h
      omega
  generalize (rdOnes 0 ws).1 = L at h z
  unfold onesN at h
  split at h
  · exact nomatch h
  split at h
  · cases h
    omega
  unfold fromN at h
  split at h
  · cases h
    omega
  split at h
  · cases h
    omega
  split at h
  · cases h
    omega
  split at h
  · cases h
    omega
  unfold restsN at h
  rename_i p hp _
  have r := (rdRests_app p 0 (ws.drop (L.length + 5))).1
  rw [List.length_drop] at r
  dsimp only at h
  split at h
  · cases h
    omega
  split at h
  · exact nomatch h
  · cases h
    omega
theorem cut_map (ws : List Str) (lo hi : Option Int) : ∃ us : List Str, cutV (ws.map V.str) lo hi = us.map V.str ∧ us.length ≤ ws.length ∧ ∀ u ∈ us, u ∈ ws :=
  ⟨(ws.drop (HT.sIx (ws.map V.str).length 0 lo)).take (HT.sIx (ws.map V.str).length (ws.map V.str).length hi - HT.sIx (ws.map V.str).length 0 lo), by
    unfold cutV
    rw [List.map_take, List.map_drop], by
    rw [List.length_take, List.length_drop]
    omega, fun u hu => List.mem_of_mem_drop (List.mem_of_mem_take hu)⟩
theorem cps_app {a b : Str} (ha : cpsOk a) (hb : cpsOk b) : cpsOk (a ++ b) := by
  have e : (a ++ b).cps.toList = a.cps.toList ++ b.cps.toList := TL.tl_append a b
  intro c hc
  rw [e] at hc
  exact (List.mem_append.mp hc).elim (ha c) (hb c)
theorem join_bd {m : Nat} : ∀ {ys : List Str}, (∀ w ∈ ys, w.length ≤ m ∧ cpsOk w) → (Str.join " " ys).length ≤ ys.length * (m + 1) ∧ cpsOk (Str.join " " ys) ∧ (ys.map (·.length)).sum ≤ ys.length * m
  | [], _ => ⟨Nat.zero_le _, (fun c hc => nomatch hc), Nat.zero_le _⟩
  | [a], h => by
    have := h a (List.mem_cons_self ..)
    refine ⟨?_, this.2, ?_⟩
    · show a.length ≤ 1 * (m + 1)
      omega
    · show a.length + 0 ≤ 1 * m
      omega
  | a :: b :: l, h => by
    have h1 := h a (List.mem_cons_self ..)
    obtain ⟨i1, i2, i3⟩ := join_bd (ys := b :: l) fun w hw => h w (List.mem_cons_of_mem _ hw)
    have e : Str.join " " (a :: b :: l) = a ++ " " ++ Str.join " " (b :: l) := rfl
    have e1 : (" " : Str).length = 1 := by decide +kernel
    have s1 : (a :: b :: l).length = (b :: l).length + 1 := rfl
    rw [e]
    refine ⟨?_, cps_app (cps_app h1.2 (cps_ofs _)) i2, ?_⟩
    · rw [app_len, app_len, e1, s1, Nat.succ_mul]
      omega
    · rw [List.map_cons, List.sum_cons, s1, Nat.succ_mul]
      omega
/-- a line of known words, split again -/
theorem line_of {us : List Str} (h : ∀ w ∈ us, w0 w = true) (z : us.length ≤ 300) : ∃ ws, Txt.split (Txt.join " " us) " " = ws ∧ (∀ w ∈ ws, w0 w = true) ∧ ws.length ≤ 300 ∧ (Txt.join " " us).length ≤ 3300 ∧ cpsOk (Txt.join " " us) := by
  have b := join_bd (m := 10) fun w hw => ⟨w0_len (h w hw), w0_cps (h w hw)⟩
  have e := TL.join_eq " " us
  have : us.length * 11 ≤ 300 * 11 := Nat.mul_le_mul_right _ z
  by_cases c : us = []
  · subst c
    exact ⟨[""], by decide +kernel, fun w hw => by rw [List.mem_singleton.mp hw]; decide +kernel, by decide, by decide +kernel, by rw [e]; exact b.2.1⟩
  · exact ⟨us, split_w0 c h, h, z, by rw [e]; omega, by rw [e]; exact b.2.1⟩
theorem text_line {L R : List Nat} {s p : Nat} (aL : Asc L 1 s) (aR : Asc R 0 p) (s2 : s ≤ 40) (p2 : p ≤ 40) : (textT L s p R).length ≤ 3300 ∧ cpsOk (textT L s p R) := by
  have hw := words_w0 (L := L) (R := R) s2 p2 (fun n hn => by have := aL.2 n hn; omega) (fun n hn => by have := aR.2 n hn; omega)
  have lw := words_len L R s p
  have zL := aL.len
  have zR := aR.len
  obtain ⟨_, _, _, _, h1, h2⟩ := line_of hw (by omega)
  unfold textT
  split
  · exact ⟨by decide +kernel, cps_ofs _⟩
  · exact ⟨h1, h2⟩
section
variable {K : PySem.W.Frag} {e1 e2 : Addr}
theorem ok_law (F : DefAt K mg "law" s_law) (T : Txt K mg aGround aNum aInv aIT aRd) (D_law_box : DefOk P w K mg base CX0 1 "_law_box" ["_law_script", "_law_k", "_law_own"] (spBox K)) (D_law_take : DefOk P w K mg base CX0 1 "_law_take" ["_law_box_here", "_law_many"] spTake)
    (D_law_pick : DefOk P w K mg base CX0 2 "_law_pick" ["_law_box_here", "_law_items"] (spPick K)) (D_law_some : DefOk P w K mg base CX0 3 "_law_some" ["_law_box_here", "_law_most"] (spSome K)) (D_law_text : DefOk P w K mg base CX0 1 "_law_text" ["_law_given"] (spText K))
    (D_law_due : DefOk P w K mg base CX0 3 "_law_due" ["_law_line_text"] spDue) (D_law_read : DefOk P w K mg base CX0 7 "_law_read" ["_law_line_text"] (spLRead K aNum)) (M_Numbers : MakeOk P w K mg base (L2.CX P w) 4 "Numbers" aNum ["self", "listed", "since", "period", "rests"] [] (spNumI K aNum aInv))
    (M_Numbers_0 : MakeOk P w K mg base (L2.CX P w) 4 "Numbers" aNum ["self", "listed", "since", "period", "rests"] [.ref e1, .int 1, .int 1, .ref e2] (spNumI K aNum aInv)) (te1 : ∀ H, SqT K H e1 []) (te2 : ∀ H, SqT K H e2 [])
    (M_Numbers_read : CmOk P w K mg base (L2.CX P w) 6 aNum "read" "Numbers.read" s_Numbers_read ["cls", "text"] (spReadN K aNum aIT)) (M_Numbers__eq : MetOk P w K mg base CX0 1 aNum "__eq__" ["self", "other"] (spEqN K aNum)) (M_Numbers__str : MetOk P w K mg base CX0 1 aNum "__str__" ["self"] (spStrN aNum)) :
    DefG P w K mg base CX0 8 "law" ["_law_script"] (spLaw K) := by
  refine F.okG sc_law (fun _ _ _ _ _ _ us hl => match us, hl with | [_], _ => rfl) (fun vs H Q E h => ?_) (fun f cdv A outer s H vs Q E hgd hr h => ?_)
  · obtain ⟨a, ns, rfl, _⟩ := h
    rfl
  · obtain ⟨a, ns, rfl, hS, nl, k⟩ := h
    refine ⟨_, (pss_cons (ps_for PassesOwn.never rfl (pi_range1 (by rfl) T.n_range (pa_cons (pe_callB (c_max2 rfl) (by rfl) T.n_max (by decide +kernel) (pa_cons pe_int (pa_cons (pe_callB (c_min2 rfl) (by rfl) T.n_min (by decide +kernel) (pa_cons pe_int (pa_cons (pe_callB (c_len K) (by rfl) T.n_len (by decide +kernel) (pa_cons (pv 0) pa_nil)) pa_nil))) pa_nil))) pa_nil)) (pg_name (i := 1) sc_law.nd rfl (Or.inl rfl))
  (pss_cons (ps_set (i := 2) sc_law.nd rfl (Or.inl rfl) (pe_callD D_law_box (hr.mono (by decide)) pass0 rfl (pa_cons (pv 0) (pa_cons (pv 1) (pa_cons pe_int pa_nil)))))
  (pss_cons (ps_for PassesOwn.never rfl (pi_range1 (by rfl) T.n_range (pa_cons pe_int pa_nil)) (pg_name (i := 3) sc_law.nd rfl (Or.inl rfl))
  (pss_cons (ps_set (i := 5) sc_law.nd rfl (Or.inl rfl) (pe_callD D_law_some (hr.mono (by decide)) pass0 rfl (pa_cons (pv 2) (pa_cons pe_int pa_nil))))
  (pss_cons (ps_set (i := 6) sc_law.nd rfl (Or.inl rfl) (pe_makeD M_Numbers (hr.mono (by decide)) passF rfl (pa_cons (pe_ix (ix_u K) (pv 5) pe_int (fun _ _ => rfl)) (pa_cons (pe_ix (ix_u K) (pv 5) pe_int (fun _ _ => rfl)) (pa_cons (pe_ix (ix_u K) (pv 5) pe_int (fun _ _ => rfl)) (pa_cons (pe_ix (ix_u K) (pv 5) pe_int (fun _ _ => rfl)) pa_nil))))))
  (pss_cons (ps_set (i := 7) sc_law.nd rfl (Or.inl rfl) (pe_callD D_law_text (hr.mono (by decide)) pass0 rfl (pa_cons (pe_tup (pa_cons (pe_callTy (c_list K) (by rfl) T.n_list (by decide +kernel) (pa_cons (pe_fl K (pv 6)) pa_nil)) (pa_cons (pe_fl K (pv 6)) (pa_cons (pe_fl K (pv 6)) (pa_cons (pe_callTy (c_list K) (by rfl) T.n_list (by decide +kernel) (pa_cons (pe_fl K (pv 6)) pa_nil)) pa_nil))))) pa_nil)))
  (pss_cons (ps_if (PW.pt (pw_or (pt_cmpR (o_ne K hr.units) (pe_callTy (c_strOwn M_Numbers__str hr.units (hr.mono (by decide))) (by rfl) T.n_str (by decide +kernel) (pa_cons (pv 6) pa_nil)) (pv 7) (nomark _)) (pw_or (pt_cmpR (o_neOwn M_Numbers__eq T.ne_Numbers T.ob_Numbers hr.units (hr.mono (by decide))) (pe_cm M_Numbers_read (hr.mono (by decide)) passF (pe_gR rfl T.m_Numbers) (pa_cons (pe_callTy (c_strOwn M_Numbers__str hr.units (hr.mono (by decide))) (by rfl) T.n_str (by decide +kernel) (pa_cons (pv 6) pa_nil)) pa_nil)) (pv 6) (nomark _)) (pw_or1 (pt_cmpR (o_neOwn M_Numbers__eq T.ne_Numbers T.ob_Numbers hr.units (hr.mono (by decide))) (pe_callD D_law_read (hr.mono (by decide)) pass0 rfl (pa_cons (pe_callD D_law_text (hr.mono (by decide)) pass0 rfl (pa_cons (pv 5) pa_nil)) pa_nil)) (pv 6) (nomark _)))))) (pss_one (ps_ret pe_bl))
  pss_nil)
  (pss_cons (ps_set (i := 8) sc_law.nd rfl (Or.inl rfl) (pe_splitK (pe_callD D_law_text (hr.mono (by decide)) pass0 rfl (pa_cons (pv 5) pa_nil)) pe_str))
  (pss_cons (ps_par (i := 11) (j := 12) (by rfl) sc_law.nd rfl rfl (by decide) rfl rfl (pa_cons (pe_callD D_law_take (hr.mono (by decide)) pass0 rfl (pa_cons (pv 2) (pa_cons (pe_op (o_add K) (pe_callB (c_len K) (by rfl) T.n_len (by decide +kernel) (pa_cons (pv 8) pa_nil)) pe_int) pa_nil))) (pa_cons (pe_lst (pa_cons pe_str (pa_cons pe_str (pa_cons pe_str (pa_cons pe_str (pa_cons pe_str (pa_cons pe_str (pa_cons pe_str (pa_cons pe_str (pa_cons pe_str (pa_cons pe_str (pa_cons pe_str pa_nil)))))))))))) pa_nil)) (by rfl))
  (pss_cons (ps_set (i := 8) sc_law.nd rfl (Or.inl rfl) (pe_op (o_add K) (pe_op (o_add K) (pe_slice (slL K) (pv 8) po_none (po_some (pv 11))) (pe_slice (slL K) (pe_lst (pa_cons (pe_callD D_law_pick (hr.mono (by decide)) pass0 rfl (pa_cons (pv 2) (pa_cons (pv 12) pa_nil))) pa_nil)) po_none (po_some (pe_callD D_law_take (hr.mono (by decide)) pass0 rfl (pa_cons (pv 2) (pa_cons pe_int pa_nil)))))) (pe_slice (slL K) (pv 8) (po_some (pe_op (o_add K) (pv 11) (pe_callD D_law_take (hr.mono (by decide)) pass0 rfl (pa_cons (pv 2) (pa_cons pe_int pa_nil))))) po_none)))
  (pss_cut (ps_set (i := 9) sc_law.nd rfl (Or.inl rfl) (pe_joinK K pe_str (pe_slice (slL K) (pv 8) po_none (po_some (pe_op o_sub (pe_callB (c_len K) (by rfl) T.n_len (by decide +kernel) (pa_cons (pv 8) pa_nil)) (pe_callD D_law_take (hr.mono (by decide)) pass0 rfl (pa_cons (pv 2) (pa_cons pe_int pa_nil))))))))
  (pss_cons (ps_set (i := 10) sc_law.nd rfl (Or.inl rfl) (pe_callD D_law_due (hr.mono (by decide)) pass0 rfl (pa_cons (pv 9) pa_nil)))
  (pss_one (ps_if (pt_tr K (pe_callB (c_isi K) (by rfl) T.n_isinstance (by decide +kernel) (pa_cons (pv 10) (pa_cons (pe_bT (T := "tuple") (by rfl) T.n_tuple (by decide +kernel)) pa_nil)))) (pss_one (ps_if (pt_cmpR (o_neOwn M_Numbers__eq T.ne_Numbers T.ob_Numbers hr.units (hr.mono (by decide))) (pe_callD D_law_read (hr.mono (by decide)) pass0 rfl (pa_cons (pv 9) pa_nil)) (pe_makeD M_Numbers (hr.mono (by decide)) passF rfl (pa_cons (pe_ix (ix_u K) (pv 10) pe_int (fun _ _ => rfl)) (pa_cons (pe_ix (ix_u K) (pv 10) pe_int (fun _ _ => rfl)) (pa_cons (pe_ix (ix_u K) (pv 10) pe_int (fun _ _ => rfl)) (pa_cons (pe_ix (ix_u K) (pv 10) pe_int (fun _ _ => rfl)) pa_nil))))) (nomark _)) (pss_one (ps_ret pe_bl))
  pss_nil))
  (pss_one (ps_if (pt_cmpR (o_ne K hr.units) (pe_callB (c_repr K hgd hr.units) (by rfl) T.n_repr (by decide +kernel) (pa_cons (pe_callD D_law_read (hr.mono (by decide)) pass0 rfl (pa_cons (pv 9) pa_nil)) pa_nil)) (pe_callB (c_repr K hgd hr.units) (by rfl) T.n_repr (by decide +kernel) (pa_cons (pv 10) pa_nil)) (nomark _)) (pss_one (ps_ret pe_bl))
  pss_nil))))))))))))))
  (pss_cons (ps_set (i := 4) sc_law.nd rfl (Or.inl rfl) (pe_callD D_law_pick (hr.mono (by decide)) pass0 rfl (pa_cons (pv 2) (pa_cons (pe_lst (pa_cons pe_non (pa_cons pe_int (pa_cons pe_int (pa_cons pe_bl (pa_cons (pe_lst pa_nil) (pa_cons (pe_lst (pa_cons pe_str pa_nil)) (pa_cons (pe_tup (pa_cons pe_str pa_nil)) (pa_cons (pe_un un_neg pe_int) pa_nil))))))))) pa_nil))))
  (pss_one (ps_if (PW.pt (pw_or (pt_cmpR (o_ne K hr.units) (pe_callB (c_repr K hgd hr.units) (by rfl) T.n_repr (by decide +kernel) (pa_cons (pe_callD D_law_read (hr.mono (by decide)) pass0 rfl (pa_cons (pv 4) pa_nil)) pa_nil)) pe_str (nomark _)) (pw_or (pt_cmpR (o_ne K hr.units) (pe_callB (c_repr K hgd hr.units) (by rfl) T.n_repr (by decide +kernel) (pa_cons (pe_callD D_law_read (hr.mono (by decide)) pass0 rfl (pa_cons pe_str pa_nil)) pa_nil)) pe_str (nomark _)) (pw_or1 (pt_cmpR (o_ne K hr.units) (pe_callB (c_repr K hgd hr.units) (by rfl) T.n_repr (by decide +kernel) (pa_cons (pe_callD D_law_read (hr.mono (by decide)) pass0 rfl (pa_cons pe_str pa_nil)) pa_nil)) pe_str (nomark _)))))) (pss_one (ps_ret pe_bl))
  pss_nil))))))
  (pss_cons (ps_if (pt_cmpR (o_ne K hr.units) (pe_callB (c_repr K hgd hr.units) (by rfl) T.n_repr (by decide +kernel) (pa_cons (pe_lst (pa_cons (pe_callD D_law_read (hr.mono (by decide)) pass0 rfl (pa_cons pe_str pa_nil)) (pa_cons (pe_callD D_law_read (hr.mono (by decide)) pass0 rfl (pa_cons pe_str pa_nil)) pa_nil))) pa_nil)) pe_str (nomark _)) (pss_one (ps_ret pe_bl))
  pss_nil)
  (pss_one (ps_ret (pe_and (pe_cmpR (o_cmpAny M_Numbers__eq K (hu0_of hr) (hr.mono (by decide)) pass0) (pe_cmK (ks := ["text"]) M_Numbers_read (hr.mono (by decide)) passF (pe_gR rfl T.m_Numbers) (pk_cons pe_str pk_nil) (fun kV doc pm an cdv ct us ws hu hw => match us, ws, hu, hw with | [_], [_], _, _ => rfl)) (pe_makeD0 M_Numbers_0 (hr.mono (by decide)) passF rfl) (nomark _)) (pe_one (pe_cmpR (o_eq K hr.units) (pe_callB (c_repr K hgd hr.units) (by rfl) T.n_repr (by decide +kernel) (pa_cons (pe_callD D_law_read (hr.mono (by decide)) pass0 rfl (pa_cons pe_str pa_nil)) pa_nil)) pe_str (nomark _)))))))), ?_⟩
    have TN : ∀ {H' : Hp} {x : Str}, x.length ≤ 3300 → cpsOk x → (Txt.split x " ").length ≤ 300 → TextN K H' (.str x) := fun h1 h2 h3 => .inl ⟨_, rfl, by omega, h2, by omega⟩
    have konst : ∀ (x : Str) (k : Nat) {H' : Hp} {R : VK}, telV (.str x) = .inl k → x.length ≤ 3300 → cpsOk x → (Txt.split x " ").length ≤ 300 → (∀ H2, Same H' H2 → R (.int ((k : Nat) : Int)) H2) → spLRead K aNum [.str x] H' R E0 := fun x k H' R h1 h2 h3 h4 q =>
      ⟨.str x, rfl, TN h2 h3 h4, fun k' e H2 s2 => by rw [h1] at e; cases e; exact q H2 s2, fun f e => by rw [h1] at e; exact nomatch e⟩
    have sI : ∀ {k : Nat} {H' : Hp} {R : VK}, k ≤ 1000 → R (.str (PyData.shown (.int ((k : Nat) : Int)))) H' → rRepr K [.int ((k : Nat) : Int)] H' R := fun {k H' R} h q => Sh.repr (sh_int (Nat.lt_of_le_of_lt h (by decide))) (by decide) (by decide) q
    have same : ∀ {L R L' R' : List Nat} {s p s' p' : Nat}, FormN L s p R → FormN L' s' p' R' → (∀ n, 1 ≤ n → hasN L s p R n = hasN L' s' p' R' n) → decide (L = L' ∧ s = s' ∧ p = p' ∧ R = R') = true := fun F F' h => decide_eq_true (F.uniq F' h)
    tm_at "go"
    refine ⟨_, rfl, by split <;> split <;> omega, by split <;> split <;> omega, for_range (lo := 0) (n := _)
      (fun i σ H' => (∃ o1 o2 o3 o4 o5 o6 o7 o8 o9 o10 o11 o12 : Option V, σ = [some (.ref a), o1, o2, o3, o4, o5, o6, o7, o8, o9, o10, o11, o12]) ∧ Same H H') ⟨⟨_, _, _, _, _, _, _, _, _, _, _, _, rfl⟩, Same.refl⟩ ?_ ?_⟩
    · rintro i σ H0 hi ⟨⟨o1, o2, o3, o4, o5, o6, o7, o8, o9, o10, o11, o12, rfl⟩, sm0⟩
      have hi4 : i < 64 := by
        have : (if (if (↑(List.map V.int ns).length : Int) < 3 then (↑(List.map V.int ns).length : Int) else 3) > 1 then
              if (↑(List.map V.int ns).length : Int) < 3 then (↑(List.map V.int ns).length : Int) else 3 else 1) ≤ 3 := by split <;> split <;> omega
        omega
      tm_at "go"
      refine ⟨a, ns, _, 7, rfl, Same.seqL sm0 hS, by omega, by omega, by decide, by decide, by omega, fun b H1 hb0 hx1 => ?_⟩
      have hb : H b = Option.none := Same.free sm0 hb0
      tm_at "go"
      refine ⟨_, rfl, by decide, by decide, for_range (lo := 0) (n := _)
        (fun j σ H' => (∃ o1 o3 o4 o5 o6 o7 o8 o9 o10 o11 o12 : Option V, σ = [some (.ref a), o1, some (.ref b), o3, o4, o5, o6, o7, o8, o9, o10, o11, o12]) ∧ Same H H' ∧ BoxAt H' b)
        ⟨⟨_, _, _, _, _, _, _, _, _, _, _, rfl⟩, Same.bx sm0 hx1 hb, hx1.box⟩ ?_ ?_⟩
      · clear o1 o2 o3 o4 o5 o6 o7 o8 o9 o10 o11 o12
        rintro j σ H2 hj ⟨⟨o1, o3, o4, o5, o6, o7, o8, o9, o10, o11, o12, rfl⟩, sm2, bx2⟩
        clear sm0 hx1
        tm_at "go"
        refine ⟨b, 20, rfl, bx2, by decide, by decide, fun t l1 l2 L R sc pp H4 hx4 ht0 hl10 hl20 ht hl1 hl2 s1 s2 p1 p2 aL aR => ?_⟩
        have sm4 : Same H H4 := Same.bx sm2 hx4 hb
        have bx4 := hx4.box
        clear hx4 ht0 hl10 hl20 sm2 bx2
        have zL := aL.len
        have zR := aR.len
        tm_at "go"
        refine r_num (.inl (SqL.of hl1)) (.inl (SqL.of hl2)) s1 (by omega) p1 (by omega) (fun n hn => aL.2 n hn) (fun n hn => (aR.2 n hn).2) (by omega) (by omega) fun x L' R' s' p' H5 F hs' hd' hp' hh smN hx0 hx => ?_
        have ht := smN _ _ ht
        have hl1 := smN _ _ hl1
        have hl2 := smN _ _ hl2
        have sm5 := sm4.trans smN
        have bx5 := bx4.same smN
        clear sm4 bx4 smN hx0
        have f1 := F.s1
        have f2 := F.p1
        have zL' := F.aL.len
        have zR' := F.aR.len
        have bL : ∀ n ∈ L, n < 10 ^ 38 := fun n hn => Nat.lt_of_lt_of_le (aL.2 n hn).2 (by omega)
        have bR : ∀ n ∈ R, n < 10 ^ 38 := fun n hn => Nat.lt_of_lt_of_le (aR.2 n hn).2 (by omega)
        have bL' : ∀ n ∈ L', n < 10 ^ 38 := fun n hn => Nat.lt_of_lt_of_le (F.aL.2 n hn).2 (by omega)
        have bR' : ∀ n ∈ R', n < 10 ^ 38 := fun n hn => Nat.lt_of_lt_of_le (F.aR.2 n hn).2 (by omega)
        have cL' : ∀ n ∈ L', n ≤ 40 := fun n hn => by have := F.aL.2 n hn; omega
        have cR' : ∀ n ∈ R', n ≤ 40 := fun n hn => by have := F.aR.2 n hn; omega
        have big : ∀ {n : Nat}, n ≤ 40 → n < 10 ^ 38 := fun h => by omega
        have tl := text_line aL aR (by omega) (by omega)
        have tl' := text_line F.aL F.aR (by omega) (by omega)
        obtain ⟨ws, esp, hws, lws, f9, ef, hf⟩ := read_text aL aR s1 (by omega) p1 (by omega)
        obtain ⟨ws', esp', hws', lws', f9', ef', hf'⟩ := read_text F.aL F.aR f1 (by omega) f2 (by omega)
        have sm_f := readN_small hws ef
        have sm_f' := readN_small hws' ef'
        have tel : telV (.str (textT L sc pp R)) = .inr f9 := by
          show readP _ = _
          rw [esp, readP_N hws, ef]
        have tel' : telV (.str (textT L' s' p' R')) = .inr f9' := by
          show readP _ = _
          rw [esp', readP_N hws', ef']
        obtain ⟨dx, a1, a2, hx, ha1, ha2⟩ := hx
        tm_at "go"
        refine r_get hx T.clN T.nL rfl ?_
        tm_at "go"
        refine r_list (.inr (SqT.of ha1)) fun q1 hq1 => ?_
        have s6 := same_new (o := .lst (natV L')) hq1
        have hq1' : upd H5 q1 (.lst (natV L')) q1 = some (.lst (natV L')) := upd_same
        generalize upd H5 q1 (.lst (natV L')) = H6 at s6 hq1' ⊢
        tm_at "go"
        refine r_get (s6 _ _ hx) T.clN T.nS rfl ?_
        tm_at "go"
        refine r_get (s6 _ _ hx) T.clN T.nP rfl ?_
        tm_at "go"
        refine r_get (s6 _ _ hx) T.clN T.nR rfl ?_
        tm_at "go"
        refine r_list (.inr (SqT.of (s6 _ _ ha2))) fun q2 hq2 => ?_
        tm_at "go"
        refine ⟨szl rfl, fun t2 ht2 => ?_⟩
        have hq12 := at_upd (u := .tup [.ref q1, .int ((s' : Nat) : Int), .int ((p' : Nat) : Int), .ref q2]) (ne_of_none (at_upd (ne_of_none hq1' hq2) hq1') ht2) (at_upd (u := .lst (natV R')) (ne_of_none hq1' hq2) hq1')
        have hq21 : upd H6 q2 (.lst (natV R')) q2 = some (.lst (natV R')) := upd_same
        have hq22 := at_upd (u := .tup [.ref q1, .int ((s' : Nat) : Int), .int ((p' : Nat) : Int), .ref q2]) (ne_of_none hq21 ht2) hq21
        refine ⟨t2, q1, q2, L', R', s', p', rfl, upd_same, SqL.of hq12, SqL.of hq22, big (by omega), big (by omega), bL', bR', by omega, by omega, fun H7 sm7 => ?_⟩
        have s7 := (Same.new (Same.new s6 hq2) ht2).trans sm7
        clear hq12 hq21 hq22 ht2 hq2 hq1 hq1' s6 sm7
        tm_at "go"
        have hx7 := s7 _ _ hx
        refine r_strOwn hx7 ⟨x, L', R', s', p', rfl, ⟨dx, a1, a2, hx7, s7 _ _ ha1, s7 _ _ ha2⟩, big (by omega), big (by omega), bL', bR', by omega, by omega, fun H8 s8 => ⟨_, rfl, ?_⟩⟩
        have s8 := s7.trans s8
        clear hx7 s7
        rw [strN_text cL' cR']
        tm_at "go"
        refine r_ne rfl ?_
        rw [neSelf]
        tm_at "go"
        have hx8 := s8 _ _ hx
        refine r_strOwn hx8 ⟨x, L', R', s', p', rfl, ⟨dx, a1, a2, hx8, s8 _ _ ha1, s8 _ _ ha2⟩, big (by omega), big (by omega), bL', bR', by omega, by omega, fun H9 s9 => ⟨_, rfl, ?_⟩⟩
        have s9 := s8.trans s9
        clear hx8 s8
        rw [strN_text cL' cR']
        tm_at "go"
        refine ⟨_, rfl, TN tl'.1 tl'.2 (by rw [esp']; omega), fun k e => ?_, fun f e => ?_⟩
        · rw [tel'] at e
          exact nomatch e
        rw [tel'] at e
        cases e
        refine ⟨by omega, by omega, fun y H10 g => ?_⟩
        obtain ⟨Ly, Ry, sy, py, Fy, _, hhy, sy10, _, ⟨dy, b1, b2, hy, hb1, hb2⟩⟩ := g
        have s10 := s9.trans sy10
        have hx10 := s10 _ _ hx
        clear s9 sy10
        tm_at "go"
        refine ⟨y, dy, _, x, dx, _, rfl, rfl, hy, hx10, .inl ⟨y, x, Ly, Ry, L', R', sy, py, s', p', rfl, ⟨dy, b1, b2, hy, hb1, hb2⟩, ⟨dx, a1, a2, hx10, s10 _ _ ha1, s10 _ _ ha2⟩, fun H11 s11 => ⟨_, rfl, ?_⟩⟩⟩
        rw [same Fy F fun n hn => (hhy n hn).trans (hf' n hn)]
        have s11 := s10.trans s11
        clear hx10 s10 hy hb1 hb2 Fy hhy
        tm_at "go"
        refine ⟨t, l1, l2, L, R, sc, pp, rfl, s11 _ _ ht, SqL.of (s11 _ _ hl1), SqL.of (s11 _ _ hl2), big (by omega), big (by omega), bL, bR, by omega, by omega, fun H12 s12 => ?_⟩
        have s12 := s11.trans s12
        clear s11
        tm_at "go"
        refine ⟨_, rfl, TN tl.1 tl.2 (by rw [esp]; omega), fun k e => ?_, fun f e => ?_⟩
        · rw [tel] at e
          exact nomatch e
        rw [tel] at e
        cases e
        refine ⟨by omega, by omega, fun y H13 g => ?_⟩
        obtain ⟨Ly, Ry, sy, py, Fy, _, hhy, sy13, _, ⟨dy, b1, b2, hy, hb1, hb2⟩⟩ := g
        have s13 := s12.trans sy13
        have hx13 := s13 _ _ hx
        clear s12 sy13
        tm_at "go"
        refine ⟨y, dy, _, x, dx, _, rfl, rfl, hy, hx13, .inl ⟨y, x, Ly, Ry, L', R', sy, py, s', p', rfl, ⟨dy, b1, b2, hy, hb1, hb2⟩, ⟨dx, a1, a2, hx13, s13 _ _ ha1, s13 _ _ ha2⟩, fun H14 s14 => ⟨_, rfl, ?_⟩⟩⟩
        rw [same Fy F fun n hn => (hhy n hn).trans ((hf n hn).trans (hh n hn).symm)]
        have s14 := s13.trans s14
        clear hx13 s13 hy hb1 hb2 Fy hhy
        tm_at "go"
        refine ⟨t, l1, l2, L, R, sc, pp, rfl, s14 _ _ ht, SqL.of (s14 _ _ hl1), SqL.of (s14 _ _ hl2), big (by omega), big (by omega), bL, bR, by omega, by omega, fun H15 s15 => ?_⟩
        have s15 := s14.trans s15
        have bx15 := bx5.same s15
        have sm15 := sm5.trans s15
        clear s14 sm5 bx5 hx ha1 ha2 ht hl1 hl2 s15
        tm_at "go"
        refine ⟨_, " ", rfl, rfl, by decide +kernel, sz (by omega), fun q hq => ?_⟩
        rw [esp]
        have hqA : upd H15 q (.lst (ws.map V.str)) q = some (.lst (ws.map V.str)) := upd_same
        have sA := Same.new (o := .lst (ws.map V.str)) sm15 hq
        have bA := bx15.upd (o := .lst (ws.map V.str)) hq
        have nq := Ne.symm (bx15.fresh hq)
        generalize upd H15 q (.lst (ws.map V.str)) = HA at hqA sA bA ⊢
        clear hq sm15 bx15
        tm_at "go"
        refine r_take bA (by rw [List.length_map]; omega) (by rw [List.length_map]; omega) fun at_ HB a0 a1 hxB => ?_
        have hqB := hxB.keep _ _ nq hqA
        have sB := Same.bx sA hxB hb
        have bB := hxB.box
        clear hxB bA sA hqA
        tm_at "go"
        refine ⟨szl rfl, fun qo hqo => ?_⟩
        have nqo := Ne.symm (bB.fresh hqo)
        have hoC : upd HB qo (.lst (oddW.map V.str)) qo = some (.lst (oddW.map V.str)) := upd_same
        have hqC := at_upd (u := .lst (oddW.map V.str)) (ne_of_none hqB hqo) hqB
        have sC := Same.new (o := .lst (oddW.map V.str)) sB hqo
        have bC := bB.upd (o := .lst (oddW.map V.str)) hqo
        rw [show upd HB qo (.lst [.str "0", .str "1", .str "from", .str "by", .str ":", .str "none", .str "", .str "07", .str "x", .str "30", .str "-1"]) = upd HB qo (.lst (oddW.map V.str)) from rfl]
        generalize upd HB qo (.lst (oddW.map V.str)) = HC at hoC hqC sC bC ⊢
        clear hqo bB sB hqB
        tm_at "go"
        refine r_slL (SqL.of hqC) fun q3 hq3 => ?_
        obtain ⟨u1, c1, l1', m1⟩ := cut_map ws none (some at_)
        rw [c1]
        have n3 := Ne.symm (bC.fresh hq3)
        have h3D : upd HC q3 (.lst (u1.map V.str)) q3 = some (.lst (u1.map V.str)) := upd_same
        have hqD := at_upd (u := .lst (u1.map V.str)) (ne_of_none hqC hq3) hqC
        have hoD := at_upd (u := .lst (u1.map V.str)) (ne_of_none hoC hq3) hoC
        have sD := Same.new (o := .lst (u1.map V.str)) sC hq3
        have bD := bC.upd (o := .lst (u1.map V.str)) hq3
        generalize upd HC q3 (.lst (u1.map V.str)) = HD at h3D hqD hoD sD bD ⊢
        clear hq3 bC sC hqC hoC c1
        tm_at "go"
        refine ⟨b, qo, oddW.map V.str, rfl, bD, .inl (SqL.of hoD), nqo, by decide, by decide, fun v HE hv hxE => ?_⟩
        obtain ⟨u, hu, rfl⟩ := List.mem_map.mp hv
        have gu := odd_w0 u hu
        have hqE := hxE.keep _ _ nq hqD
        have h3E := hxE.keep _ _ n3 h3D
        have sE := Same.bx sD hxE hb
        have bE := hxE.box
        clear hxE hqD h3D hoD sD bD hv hu nqo
        tm_at "go"
        refine ⟨szl rfl, fun q4 hq4 => ?_⟩
        have n4 := Ne.symm (bE.fresh hq4)
        have h4F : upd HE q4 (.lst [V.str u]) q4 = some (.lst [V.str u]) := upd_same
        have hqF := at_upd (u := .lst [V.str u]) (ne_of_none hqE hq4) hqE
        have h3F := at_upd (u := .lst [V.str u]) (ne_of_none h3E hq4) h3E
        have sF := Same.new (o := .lst [V.str u]) sE hq4
        have bF := bE.upd (o := .lst [V.str u]) hq4
        generalize upd HE q4 (.lst [V.str u]) = HF at h4F hqF h3F sF bF ⊢
        clear hq4 hqE h3E sE bE
        tm_at "go"
        refine r_take bF (by decide) (by decide) fun d3 HG _ _ hxG => ?_
        have hqG := hxG.keep _ _ nq hqF
        have h3G := hxG.keep _ _ n3 h3F
        have h4G := hxG.keep _ _ n4 h4F
        have sG := Same.bx sF hxG hb
        have bG := hxG.box
        clear hxG hqF h3F h4F sF bF n3 n4
        tm_at "go"
        refine r_slL (SqL.of h4G) fun q5 hq5 => ?_
        obtain ⟨u2, c2, l2', m2⟩ := cut_map [u] none (some d3)
        rw [show cutV [V.str u] none (some d3) = u2.map V.str from c2]
        have l2' : u2.length ≤ 1 := l2'
        refine r_addL (at_upd (ne_of_none h3G hq5) h3G) upd_same (sz (by rw [List.length_map, List.length_map]; omega)) fun q6 hq6 => ?_
        rw [← List.map_append]
        have n6 : q6 ≠ b := Ne.symm ((bG.upd hq5).fresh hq6)
        have hqH := at_upd (u := .lst ((u1 ++ u2).map V.str)) (ne_of_none (at_upd (u := .lst (u2.map V.str)) (ne_of_none hqG hq5) hqG) hq6) (at_upd (u := .lst (u2.map V.str)) (ne_of_none hqG hq5) hqG)
        have h6H : upd (upd HG q5 (.lst (u2.map V.str))) q6 (.lst ((u1 ++ u2).map V.str)) q6 = some (.lst ((u1 ++ u2).map V.str)) := upd_same
        have sH := Same.new (o := .lst ((u1 ++ u2).map V.str)) (Same.new (o := .lst (u2.map V.str)) sG hq5) hq6
        have bH := (bG.upd (o := .lst (u2.map V.str)) hq5).upd (o := .lst ((u1 ++ u2).map V.str)) hq6
        generalize upd (upd HG q5 (.lst (u2.map V.str))) q6 (.lst ((u1 ++ u2).map V.str)) = HH at hqH h6H sH bH ⊢
        clear hq5 hq6 hqG h3G h4G sG bG c2
        tm_at "go"
        refine r_take bH (by decide) (by decide) fun d2 HI _ _ hxI => ?_
        have hqI := hxI.keep _ _ nq hqH
        have h6I := hxI.keep _ _ n6 h6H
        have sI' := Same.bx sH hxI hb
        have bI := hxI.box
        clear hxI hqH h6H sH bH n6 nq
        tm_at "go"
        refine r_slL (SqL.of hqI) fun q7 hq7 => ?_
        obtain ⟨u3, c3, l3', m3⟩ := cut_map ws (some (at_ + d2)) none
        rw [c3]
        refine r_addL (at_upd (ne_of_none h6I hq7) h6I) upd_same (sz (by rw [List.length_map, List.length_map, List.length_append]; omega)) fun q8 hq8 => ?_
        rw [← List.map_append]
        have n8 : q8 ≠ b := Ne.symm ((bI.upd hq7).fresh hq8)
        have h8J : upd (upd HI q7 (.lst (u3.map V.str))) q8 (.lst ((u1 ++ u2 ++ u3).map V.str)) q8 = some (.lst ((u1 ++ u2 ++ u3).map V.str)) := upd_same
        have sJ := Same.new (o := .lst ((u1 ++ u2 ++ u3).map V.str)) (Same.new (o := .lst (u3.map V.str)) sI' hq7) hq8
        have bJ := (bI.upd (o := .lst (u3.map V.str)) hq7).upd (o := .lst ((u1 ++ u2 ++ u3).map V.str)) hq8
        generalize upd (upd HI q7 (.lst (u3.map V.str))) q8 (.lst ((u1 ++ u2 ++ u3).map V.str)) = HJ at h8J sJ bJ ⊢
        have gall : ∀ w ∈ u1 ++ u2 ++ u3, w0 w = true := fun w hw => by
          rcases List.mem_append.mp hw with hw | hw
          · rcases List.mem_append.mp hw with hw | hw
            · exact hws w (m1 w hw)
            · rw [List.mem_singleton.mp (m2 w hw)]
              exact gu
          · exact hws w (m3 w hw)
        have lall : (u1 ++ u2 ++ u3).length ≤ 300 := by rw [List.length_append, List.length_append]; omega
        generalize u1 ++ u2 ++ u3 = us at h8J gall lall
        clear hq7 hq8 hqI h6I sI' bI c3
        tm_at "go"
        refine r_cut (fun σ' H' => ∃ (us : List Str) (o1 o3 o4 o5 o6 o7 o8 o10 o11 o12 : Option V), (∀ w ∈ us, w0 w = true) ∧ us.length ≤ 300 ∧ σ' = [some (.ref a), o1, some (.ref b), o3, o4, o5, o6, o7, o8, some (.str (Txt.join " " us)), o10, o11, o12] ∧ Same H H' ∧ BoxAt H' b) ?_ ?_
        · tm_at "go"
          refine r_take bJ (by decide) (by decide) fun d4 HK _ _ hxK => ?_
          have h8K := hxK.keep _ _ n8 h8J
          tm_at "go"
          refine r_slL (SqL.of h8K) fun q9 hq9 => ?_
          obtain ⟨u4, c4, l4', m4⟩ := cut_map us none (some (((us.map V.str).length : Int) - d4))
          rw [c4]
          have b4 := join_bd (m := 10) (ys := u4) fun w hw => ⟨w0_len (gall w (m4 w hw)), w0_cps (gall w (m4 w hw))⟩
          have : u4.length * 10 ≤ 300 * 10 := Nat.mul_le_mul_right _ (Nat.le_trans l4' lall)
          refine r_join (.inl (SqL.of upd_same)) (by rw [show (" " : Str).length = 1 by decide +kernel]; omega) ?_
          tm_at "go"
          exact ⟨u4, _, _, _, _, _, _, _, _, _, _, fun w hw => gall w (m4 w hw), Nat.le_trans l4' lall, rfl, Same.new (Same.bx sJ hxK hb) hq9, hxK.box.upd hq9⟩
        clear h8J gall lall sJ bJ n8 ef ef' hf hf' sm_f sm_f' tel tel' esp esp' hws hws' tl tl' hh F
        rintro σ' HZ ⟨us, o1, o3, o4, o5, o6, o7, o8, o10, o11, o12, hus, lus, rfl, sZ, bZ⟩
        obtain ⟨wz, ez, hwz, lwz, ll, lc⟩ := line_of hus lus
        generalize Txt.join " " us = line at ez ll lc ⊢
        have tz : ∀ {r : Nat ⊕ Form4}, readN (Txt.split line " ") = r → telV (.str line) = r := fun e => by
          show readP _ = _
          rw [ez] at e ⊢
          rw [readP_N hwz, e]
        have TL' : ∀ {H' : Hp}, TextN K H' (.str line) := TN ll lc (by rw [ez]; omega)
        tm_at "go"
        refine ⟨line, rfl, by omega, lc, by rw [ez]; omega, fun k e Hd sd => ?_, fun L s p R e t l q Hd sd ht hl hq => ?_⟩
        · have tz := tz e
          rw [ez] at e
          have kl := readN_le e
          tm_at "go"
          refine r_isi (.ty _) (.base (.int _)) (kit_ty (a := "int") (b := "tuple") (r := false) (by decide +kernel)) ?_
          tm_at "go"
          refine ⟨_, rfl, TL', fun k' e' H2 s2 => ?_, fun f e' => ?_⟩
          rotate_left
          · rw [tz] at e'
            exact nomatch e'
          rw [tz] at e'
          cases e'
          tm_at "go"
          refine sI (by omega) ?_
          tm_at "go"
          refine sI (by omega) ?_
          refine r_ne rfl ?_
          rw [neSelf]
          tm_at "go"
          exact ⟨⟨_, _, _, _, _, _, _, _, _, _, _, rfl⟩, (sZ.trans sd).trans s2, (bZ.same sd).same s2⟩
        · have tz := tz e
          rw [ez] at e
          obtain ⟨ok, f1, f2⟩ := readN_small hwz e
          have f1 : s ≤ 41 := f1
          have f2 : p ≤ 41 := f2
          have oL : Asc L 1 s := ok.1
          have oR : Asc R 0 p := ok.2.2.2
          have o1' : 1 ≤ s := ok.2.1
          have o2' : 1 ≤ p := ok.2.2.1
          have yL := oL.len
          have yR := oR.len
          tm_at "go"
          refine r_isi (.ty _) (tyx_tup (SqT.of ht)) (kit_ty (a := "tuple") (b := "tuple") (r := true) (by decide +kernel)) ?_
          tm_at "go"
          refine ⟨_, rfl, TL', fun k' e' => ?_, fun f e' => ?_⟩
          · rw [tz] at e'
            exact nomatch e'
          rw [tz] at e'
          cases e'
          refine ⟨by show s ≤ _; omega, by show p ≤ _; omega, fun y H2 g => ?_⟩
          obtain ⟨Ly, Ry, sy, py, Fy, _, hhy, sy2, _, ⟨dy, b1, b2, hy, hb1, hb2⟩⟩ := g
          have ht := sy2 _ _ ht
          tm_at "go"
          refine r_num (.inl (SqL.of (sy2 _ _ hl))) (.inl (SqL.of (sy2 _ _ hq))) o1' (by omega) o2' (by omega) (fun n hn => oL.2 n hn) (fun n hn => (oR.2 n hn).2) (by omega) (by omega) fun z Lz Rz sz' pz H3 Fz _ _ _ hhz s3 _ hz => ?_
          obtain ⟨dz, g1, g2, hz, hg1, hg2⟩ := hz
          refine ⟨y, dy, _, z, dz, _, rfl, rfl, s3 _ _ hy, hz, .inl ⟨y, z, Ly, Ry, Lz, Rz, sy, py, sz', pz, rfl, ⟨dy, b1, b2, s3 _ _ hy, s3 _ _ hb1, s3 _ _ hb2⟩, ⟨dz, g1, g2, hz, hg1, hg2⟩, fun H4 s4 => ⟨_, rfl, ?_⟩⟩⟩
          rw [same Fy Fz fun n hn => (hhy n hn).trans (hhz n hn).symm]
          tm_at "go"
          exact ⟨⟨_, _, _, _, _, _, _, _, _, _, _, rfl⟩, (((sZ.trans sd).trans sy2).trans s3).trans s4, (((bZ.same sd).same sy2).same s3).same s4⟩
      · clear o1 o2 o3 o4 o5 o6 o7 o8 o9 o10 o11 o12 sm0 hx1
        rintro σ H2 ⟨⟨o1, o3, o4, o5, o6, o7, o8, o9, o10, o11, o12, rfl⟩, sm2, bx2⟩
        tm_at "go"
        refine ⟨szl rfl, fun q1 hq1 => ?_⟩
        tm_at "go"
        refine ⟨szl rfl, fun q2 hq2 => ?_⟩
        tm_at "go"
        refine ⟨szl rfl, fun q3 hq3 => ?_⟩
        tm_at "go"
        refine ⟨szl rfl, fun q4 hq4 => ?_⟩
        have n1 := Ne.symm (bx2.fresh hq1)
        have bx3 := bx2.upd (o := .lst []) hq1
        have n2 := Ne.symm (bx3.fresh hq2)
        have bx4 := bx3.upd (o := .lst [.str "none"]) hq2
        have n3 := Ne.symm (bx4.fresh hq3)
        have bx5 := bx4.upd (o := .tup [.str "1"]) hq3
        have n4 := Ne.symm (bx5.fresh hq4)
        have g1 : upd H2 q1 (.lst []) q1 = some (.lst []) := upd_same
        have g1 := at_upd (u := .lst [.str "none"]) (ne_of_none g1 hq2) g1
        have g2 : upd (upd H2 q1 (.lst [])) q2 (.lst [.str "none"]) q2 = some (.lst [.str "none"]) := upd_same
        have g1 := at_upd (u := .tup [.str "1"]) (ne_of_none g1 hq3) g1
        have g2 := at_upd (u := .tup [.str "1"]) (ne_of_none g2 hq3) g2
        have g3 : upd (upd (upd H2 q1 (.lst [])) q2 (.lst [.str "none"])) q3 (.tup [.str "1"]) q3 = some (.tup [.str "1"]) := upd_same
        have s3 := Same.new (o := .tup [.str "1"]) (Same.new (o := .lst [.str "none"]) (Same.new (o := .lst []) sm2 hq1) hq2) hq3
        generalize upd (upd (upd H2 q1 (.lst [])) q2 (.lst [.str "none"])) q3 (.tup [.str "1"]) = H3 at g1 g2 g3 s3 hq4 bx5 ⊢
        clear bx2 bx3 bx4 hq1 hq2 hq3 sm2
        refine r_pickN (E := E0) bx5 hq4 (Nat.le_of_ble_eq_true rfl) (Nat.le_of_ble_eq_true rfl) fun v H5 hv hx5 => ?_
        have g1 := hx5.keep _ _ n1 g1
        have g2 := hx5.keep _ _ n2 g2
        have g3 := hx5.keep _ _ n3 g3
        have s5 := Same.bx s3 hx5 hb
        have tv : TextN K H5 v ∧ telV v = .inl 0 := by
          simp only [List.mem_cons, List.not_mem_nil, or_false] at hv
          rcases hv with rfl | rfl | rfl | rfl | rfl | rfl | rfl | rfl
          · exact ⟨.inr ⟨.non, rfl⟩, rfl⟩
          · exact ⟨.inr ⟨.int _, rfl⟩, rfl⟩
          · exact ⟨.inr ⟨.int _, rfl⟩, rfl⟩
          · exact ⟨.inr ⟨.bl _, rfl⟩, rfl⟩
          · exact ⟨.inr ⟨.lst (SqL.of g1), rfl⟩, rfl⟩
          · exact ⟨.inr ⟨.lst (SqL.of g2), rfl⟩, rfl⟩
          · exact ⟨.inr ⟨.tup (SqT.of g3), rfl⟩, rfl⟩
          · exact ⟨.inr ⟨.int _, rfl⟩, rfl⟩
        tm_at "go"
        refine ⟨v, rfl, tv.1, fun k' e' H6 s6 => ?_, fun f e' => ?_⟩
        rotate_left
        · rw [tv.2] at e'
          exact nomatch e'
        rw [tv.2] at e'
        cases e'
        tm_at "go"
        refine sI (by decide) ?_
        refine r_ne rfl ?_
        rw [show (PyData.int ((0 : Nat) : Int)).shown = "0" by decide +kernel, neSelf]
        tm_at "go"
        refine konst "" 0 (by decide +kernel) (by decide +kernel) (cps_ofs _) (by decide +kernel) fun H7 s7 => ?_
        tm_at "go"
        refine sI (by decide) ?_
        refine r_ne rfl ?_
        rw [show (PyData.int ((0 : Nat) : Int)).shown = "0" by decide +kernel, neSelf]
        tm_at "go"
        refine konst "from" 1 (by decide +kernel) (by decide +kernel) (cps_ofs _) (by decide +kernel) fun H8 s8 => ?_
        tm_at "go"
        refine sI (by decide) ?_
        refine r_ne rfl ?_
        rw [show (PyData.int ((1 : Nat) : Int)).shown = "1" by decide +kernel, neSelf]
        tm_at "go"
        exact ⟨⟨_, _, _, _, _, _, _, _, _, _, _, _, rfl⟩, ((s5.trans s6).trans s7).trans s8⟩
    · rintro σ H1 ⟨⟨o1, o2, o3, o4, o5, o6, o7, o8, o9, o10, o11, o12, rfl⟩, sm1⟩
      tm_at "go"
      refine konst "7 999999 from" 2 (by decide +kernel) (by decide +kernel) (cps_ofs _) (by decide +kernel) fun H2 s2 => ?_
      tm_at "go"
      refine konst "999998 from 999999 by 3 : 3" 6 (by decide +kernel) (by decide +kernel) (cps_ofs _) (by decide +kernel) fun H3 s3 => ?_
      tm_at "go"
      refine ⟨szl rfl, fun q hq => ?_⟩
      tm_at "go"
      refine Sh.repr (sh_lst (k := 0) (n := 40) (m := 100) (SqL.of upd_same) (.cons (sh_int (i := ((2 : Nat) : Int)) (by decide)) (.cons (sh_int (i := ((6 : Nat) : Int)) (by decide)) .nil)) (Nat.le_of_ble_eq_true rfl)) (by decide) (by decide) ?_
      refine r_ne rfl ?_
      rw [show (PyData.list [.int ((2 : Nat) : Int), .int ((6 : Nat) : Int)]).shown = "[2, 6]" by decide +kernel, neSelf]
      generalize upd H3 q _ = H4
      tm_at "go"
      refine ⟨rfl, .str "none", rfl, TN (by decide +kernel) (cps_ofs _) (by decide +kernel), fun k e => ?_, fun f e => ?_⟩
      · rw [show telV (.str "none") = .inr ([], 1, 1, []) by decide +kernel] at e
        exact nomatch e
      rw [show telV (.str "none") = .inr ([], 1, 1, []) by decide +kernel] at e
      cases e
      refine ⟨by decide, by decide, fun y H5 g => ?_⟩
      obtain ⟨Ly, Ry, sy, py, Fy, _, hhy, sy5, _, ⟨dy, b1, b2, hy, hb1, hb2⟩⟩ := g
      tm_at "go"
      refine r_num (L := []) (R := []) (s := 1) (p := 1) (.inr (te1 _)) (.inr (te2 _)) (by decide) (by decide) (by decide) (by decide) (fun n hn => nomatch hn) (fun n hn => nomatch hn) (by decide) (by decide) fun z Lz Rz sz' pz H6 Fz _ _ _ hhz s6 _ hz => ?_
      obtain ⟨dz, g1, g2, hz, hg1, hg2⟩ := hz
      refine r_cmpA (s6 _ _ hy) (T.tyN _ _ _ _ hz) nf_self (.inl ⟨y, z, Ly, Ry, Lz, Rz, sy, py, sz', pz, rfl, ⟨dy, b1, b2, s6 _ _ hy, s6 _ _ hb1, s6 _ _ hb2⟩, ⟨dz, g1, g2, hz, hg1, hg2⟩, fun H7 s7 => ?_⟩)
      rw [same Fy Fz fun n hn => (hhy n hn).trans (hhz n hn).symm]
      tm_at "go"
      refine konst "3 from 4 by 2 :" 6 (by decide +kernel) (by decide +kernel) (cps_ofs _) (by decide +kernel) fun H8 s8 => ?_
      tm_at "go"
      refine sI (by decide) ?_
      refine r_eq rfl ?_
      rw [show (PyData.int ((6 : Nat) : Int)).shown = "6" by decide +kernel, decide_eq_true rfl]
      exact k _
end
theorem all_mk {h : Heap} (X : K.In h) (G : h.Ns mainGlobals mg)
    {e1 e2 : Addr} {d_e1 d_e2 : Option Addr} {n_e1 n_e2 : Nat} {s_e1 s_e2 : Array (Option Value)}
    (a_GroundError : PySem.W.nsIn K mainGlobals "GroundError" = some (some (.ref aGround)))
    (bs_GroundError : PySem.W.specialIn K (.ref aGround) "__getattribute__" = some (some (.builtin "type.__getattribute__")))
    (br_GroundError : PySem.W.readsIn K aGround (.type "type") = true)
    (bf_GroundError : PySem.W.findCls K (.ref aGround) (.type "type") "__init__" = some (.val (.builtin "ValueError.__init__")))
    (a_InvalidNumbers : PySem.W.nsIn K mainGlobals "InvalidNumbers" = some (some (.ref aInv)))
    {nm_InvalidNumbers q_InvalidNumbers : Str} {N_InvalidNumbers : Addr} {bs_InvalidNumbers : List Value} {sn_InvalidNumbers : List Str} {sub_InvalidNumbers : List Value} {ab_InvalidNumbers : Bool} {col_InvalidNumbers : Option Bool} {dd_InvalidNumbers : Option Addr} {m0_InvalidNumbers m1_InvalidNumbers m2_InvalidNumbers m3_InvalidNumbers m5_InvalidNumbers : Option Value}
    (x_InvalidNumbers : K.lookup aInv = some (excClassObj nm_InvalidNumbers q_InvalidNumbers aInv N_InvalidNumbers bs_InvalidNumbers [.ref aGround, .type "ValueError", .type "Exception", .type "BaseException", .type "object"] true sn_InvalidNumbers sub_InvalidNumbers ab_InvalidNumbers col_InvalidNumbers dd_InvalidNumbers m0_InvalidNumbers m1_InvalidNumbers m2_InvalidNumbers m3_InvalidNumbers m5_InvalidNumbers "ValueError.__new__"))
    (sa_InvalidNumbers : PySem.W.findIn K (.ref aInv) "__setattr__" = some (some (.builtin "object.__setattr__")))
    (ex_InvalidNumbers : PySem.W.subIn K (.ref aInv) (.type "BaseException") = some true)
    (ty_InvalidNumbers : PySem.W.typeIn K (.ref aInv) = some (.type "type"))
    (kc_InvalidNumbers : PySem.W.keepIn K (.ref aInv) = true)
    {f_InvalidNumbers : Addr} {od_InvalidNumbers an_InvalidNumbers : Option Addr} {sl_InvalidNumbers : Array (Option Value)} {oc_InvalidNumbers kV_InvalidNumbers dc_InvalidNumbers pm_InvalidNumbers cd_InvalidNumbers ct_InvalidNumbers : Value}
    (i_InvalidNumbers : PySem.W.findIn K (.ref aInv) "__init__" = some (some (.ref f_InvalidNumbers)))
    (ti_InvalidNumbers : PySem.W.typeIn K (.ref f_InvalidNumbers) = some (.type "function"))
    (l_InvalidNumbers : K.lookup f_InvalidNumbers = some ⟨oc_InvalidNumbers, od_InvalidNumbers, .func (PySem.W.fnOf "__init__" "InvalidNumbers.__init__" (defArgs s_InvalidNumbers__init) (defBody s_InvalidNumbers__init) (defScope s_InvalidNumbers__init) .none kV_InvalidNumbers dc_InvalidNumbers pm_InvalidNumbers an_InvalidNumbers cd_InvalidNumbers ct_InvalidNumbers), sl_InvalidNumbers⟩)
    (c_InvalidNumbers : PySem.W.codeIn K cd_InvalidNumbers "InvalidNumbers.__init__" = true)
    (k_InvalidNumbers : PySem.W.keepIn K (.ref f_InvalidNumbers) = true)
    (a_InvalidText : PySem.W.nsIn K mainGlobals "InvalidText" = some (some (.ref aIT)))
    {nm_InvalidText q_InvalidText : Str} {N_InvalidText : Addr} {bs_InvalidText : List Value} {sn_InvalidText : List Str} {sub_InvalidText : List Value} {ab_InvalidText : Bool} {col_InvalidText : Option Bool} {dd_InvalidText : Option Addr} {m0_InvalidText m1_InvalidText m2_InvalidText m3_InvalidText m5_InvalidText : Option Value}
    (x_InvalidText : K.lookup aIT = some (excClassObj nm_InvalidText q_InvalidText aIT N_InvalidText bs_InvalidText [.ref aGround, .type "ValueError", .type "Exception", .type "BaseException", .type "object"] true sn_InvalidText sub_InvalidText ab_InvalidText col_InvalidText dd_InvalidText m0_InvalidText m1_InvalidText m2_InvalidText m3_InvalidText m5_InvalidText "ValueError.__new__"))
    (sa_InvalidText : PySem.W.findIn K (.ref aIT) "__setattr__" = some (some (.builtin "object.__setattr__")))
    (ex_InvalidText : PySem.W.subIn K (.ref aIT) (.type "BaseException") = some true)
    (ty_InvalidText : PySem.W.typeIn K (.ref aIT) = some (.type "type"))
    (kc_InvalidText : PySem.W.keepIn K (.ref aIT) = true)
    {f_InvalidText : Addr} {od_InvalidText an_InvalidText : Option Addr} {sl_InvalidText : Array (Option Value)} {oc_InvalidText kV_InvalidText dc_InvalidText pm_InvalidText cd_InvalidText ct_InvalidText : Value}
    (i_InvalidText : PySem.W.findIn K (.ref aIT) "__init__" = some (some (.ref f_InvalidText)))
    (ti_InvalidText : PySem.W.typeIn K (.ref f_InvalidText) = some (.type "function"))
    (l_InvalidText : K.lookup f_InvalidText = some ⟨oc_InvalidText, od_InvalidText, .func (PySem.W.fnOf "__init__" "InvalidText.__init__" (defArgs s_InvalidText__init) (defBody s_InvalidText__init) (defScope s_InvalidText__init) .none kV_InvalidText dc_InvalidText pm_InvalidText an_InvalidText cd_InvalidText ct_InvalidText), sl_InvalidText⟩)
    (c_InvalidText : PySem.W.codeIn K cd_InvalidText "InvalidText.__init__" = true)
    (k_InvalidText : PySem.W.keepIn K (.ref f_InvalidText) = true)
    (xg_InvalidText : PySem.W.findIn K (.ref aIT) "__getattribute__" = some (some (.builtin "BaseException.__getattribute__")))
    (xk_InvalidText : PySem.W.findIn K (.ref aIT) "__getattr__" = some none)
    (xd_InvalidText : PySem.W.hasDictIn K aIT = true)
    (xa_InvalidText : PySem.W.findIn K (.ref aIT) "__class__" = some (some (.builtin "object.__class__")))
    (xn_InvalidText : PySem.W.specialIn K (.builtin "object.__class__") "__get__" = some (some (.builtin "getset_descriptor.__get__")))
    (xt_InvalidText : PySem.W.takesIn K (.builtin "object.__class__") = some true)
    (xm_InvalidText : PySem.W.mroIn K aIT (.type "object") = some true)
    (xs_InvalidText : PySem.W.subIn K (.ref aIT) (.ref aIT) = some true)
    (a_Numbers : PySem.W.nsIn K mainGlobals "Numbers" = some (some (.ref aNum)))
    (pg_Numbers : PySem.W.plainGet K aNum Str.empty = true)
    (hd_Numbers : PySem.W.hasDictIn K aNum = true)
    (po_Numbers : PySem.W.plainOver K aNum = true)
    (sa_Numbers : PySem.W.findIn K (.ref aNum) "__setattr__" = some (some (.builtin "object.__setattr__")))
    (mk_Numbers : PySem.W.makesIn K aNum = true)
    (kc_Numbers : PySem.W.keepIn K (.ref aNum) = true)
    {f_Numbers : Addr} {od_Numbers an_Numbers : Option Addr} {sl_Numbers : Array (Option Value)} {oc_Numbers kV_Numbers dc_Numbers pm_Numbers cd_Numbers ct_Numbers : Value}
    (i_Numbers : PySem.W.findIn K (.ref aNum) "__init__" = some (some (.ref f_Numbers)))
    (if_Numbers : PySem.W.isFn K (.ref f_Numbers) = true)
    {T_Numbers : Addr} {oT_Numbers : Value} {dT_Numbers : Option Addr} {iT_Numbers : List Value} {mT_Numbers : Nat} {sT_Numbers : Array (Option Value)}
    (l_Numbers : K.lookup f_Numbers = some ⟨oc_Numbers, od_Numbers, .func (PySem.W.fnOf "__init__" "Numbers.__init__" (defArgs s_Numbers__init) (defBody s_Numbers__init) (defScope s_Numbers__init) (.ref T_Numbers) kV_Numbers dc_Numbers pm_Numbers an_Numbers cd_Numbers ct_Numbers), sl_Numbers⟩)
    (c_Numbers : PySem.W.codeIn K cd_Numbers "Numbers.__init__" = true)
    (k_Numbers : PySem.W.keepIn K (.ref f_Numbers) = true)
    (t_Numbers : K.lookup T_Numbers = some ⟨oT_Numbers, dT_Numbers, .seq iT_Numbers.toArray mT_Numbers, sT_Numbers⟩)
    (v_Numbers : Vals [.ref e1, .int 1, .int 1, .ref e2] iT_Numbers)
    (le1 : K.lookup e1 = some ⟨.type "tuple", d_e1, .seq #[] n_e1, s_e1⟩)
    (le2 : K.lookup e2 = some ⟨.type "tuple", d_e2, .seq #[] n_e2, s_e2⟩)
    (a_NumbersReader : PySem.W.nsIn K mainGlobals "NumbersReader" = some (some (.ref aRd)))
    (pg_NumbersReader : PySem.W.plainGet K aRd Str.empty = true)
    (hd_NumbersReader : PySem.W.hasDictIn K aRd = true)
    (po_NumbersReader : PySem.W.plainOver K aRd = true)
    (sa_NumbersReader : PySem.W.findIn K (.ref aRd) "__setattr__" = some (some (.builtin "object.__setattr__")))
    (mk_NumbersReader : PySem.W.makesIn K aRd = true)
    (kc_NumbersReader : PySem.W.keepIn K (.ref aRd) = true)
    {f_NumbersReader : Addr} {od_NumbersReader an_NumbersReader : Option Addr} {sl_NumbersReader : Array (Option Value)} {oc_NumbersReader kV_NumbersReader dc_NumbersReader pm_NumbersReader cd_NumbersReader ct_NumbersReader : Value}
    (i_NumbersReader : PySem.W.findIn K (.ref aRd) "__init__" = some (some (.ref f_NumbersReader)))
    (if_NumbersReader : PySem.W.isFn K (.ref f_NumbersReader) = true)
    (l_NumbersReader : K.lookup f_NumbersReader = some ⟨oc_NumbersReader, od_NumbersReader, .func (PySem.W.fnOf "__init__" "NumbersReader.__init__" (defArgs s_NumbersReader__init) (defBody s_NumbersReader__init) (defScope s_NumbersReader__init) .none kV_NumbersReader dc_NumbersReader pm_NumbersReader an_NumbersReader cd_NumbersReader ct_NumbersReader), sl_NumbersReader⟩)
    (c_NumbersReader : PySem.W.codeIn K cd_NumbersReader "NumbersReader.__init__" = true)
    (k_NumbersReader : PySem.W.keepIn K (.ref f_NumbersReader) = true)
    {f_Numbers__eq : Addr} {od_Numbers__eq an_Numbers__eq : Option Addr} {sl_Numbers__eq : Array (Option Value)} {oc_Numbers__eq kV_Numbers__eq dc_Numbers__eq pm_Numbers__eq cd_Numbers__eq ct_Numbers__eq : Value}
    (i_Numbers__eq : PySem.W.findIn K (.ref aNum) "__eq__" = some (some (.ref f_Numbers__eq)))
    (if_Numbers__eq : PySem.W.isFn K (.ref f_Numbers__eq) = true)
    (l_Numbers__eq : K.lookup f_Numbers__eq = some ⟨oc_Numbers__eq, od_Numbers__eq, .func (PySem.W.fnOf "__eq__" "Numbers.__eq__" (defArgs s_Numbers__eq) (defBody s_Numbers__eq) (defScope s_Numbers__eq) .none kV_Numbers__eq dc_Numbers__eq pm_Numbers__eq an_Numbers__eq cd_Numbers__eq ct_Numbers__eq), sl_Numbers__eq⟩)
    (c_Numbers__eq : PySem.W.codeIn K cd_Numbers__eq "Numbers.__eq__" = true)
    (k_Numbers__eq : PySem.W.keepIn K (.ref f_Numbers__eq) = true)
    {f_Numbers__str : Addr} {od_Numbers__str an_Numbers__str : Option Addr} {sl_Numbers__str : Array (Option Value)} {oc_Numbers__str kV_Numbers__str dc_Numbers__str pm_Numbers__str cd_Numbers__str ct_Numbers__str : Value}
    (i_Numbers__str : PySem.W.findIn K (.ref aNum) "__str__" = some (some (.ref f_Numbers__str)))
    (if_Numbers__str : PySem.W.isFn K (.ref f_Numbers__str) = true)
    (l_Numbers__str : K.lookup f_Numbers__str = some ⟨oc_Numbers__str, od_Numbers__str, .func (PySem.W.fnOf "__str__" "Numbers.__str__" (defArgs s_Numbers__str) (defBody s_Numbers__str) (defScope s_Numbers__str) .none kV_Numbers__str dc_Numbers__str pm_Numbers__str an_Numbers__str cd_Numbers__str ct_Numbers__str), sl_Numbers__str⟩)
    (c_Numbers__str : PySem.W.codeIn K cd_Numbers__str "Numbers.__str__" = true)
    (k_Numbers__str : PySem.W.keepIn K (.ref f_Numbers__str) = true)
    {f_NumbersReader_next_word : Addr} {od_NumbersReader_next_word an_NumbersReader_next_word : Option Addr} {sl_NumbersReader_next_word : Array (Option Value)} {oc_NumbersReader_next_word kV_NumbersReader_next_word dc_NumbersReader_next_word pm_NumbersReader_next_word cd_NumbersReader_next_word ct_NumbersReader_next_word : Value}
    (i_NumbersReader_next_word : PySem.W.findIn K (.ref aRd) "next_word" = some (some (.ref f_NumbersReader_next_word)))
    (if_NumbersReader_next_word : PySem.W.isFn K (.ref f_NumbersReader_next_word) = true)
    (l_NumbersReader_next_word : K.lookup f_NumbersReader_next_word = some ⟨oc_NumbersReader_next_word, od_NumbersReader_next_word, .func (PySem.W.fnOf "next_word" "NumbersReader.next_word" (defArgs s_NumbersReader_next_word) (defBody s_NumbersReader_next_word) (defScope s_NumbersReader_next_word) .none kV_NumbersReader_next_word dc_NumbersReader_next_word pm_NumbersReader_next_word an_NumbersReader_next_word cd_NumbersReader_next_word ct_NumbersReader_next_word), sl_NumbersReader_next_word⟩)
    (c_NumbersReader_next_word : PySem.W.codeIn K cd_NumbersReader_next_word "NumbersReader.next_word" = true)
    (k_NumbersReader_next_word : PySem.W.keepIn K (.ref f_NumbersReader_next_word) = true)
    {f_NumbersReader_next_number : Addr} {od_NumbersReader_next_number an_NumbersReader_next_number : Option Addr} {sl_NumbersReader_next_number : Array (Option Value)} {oc_NumbersReader_next_number kV_NumbersReader_next_number dc_NumbersReader_next_number pm_NumbersReader_next_number cd_NumbersReader_next_number ct_NumbersReader_next_number : Value}
    (i_NumbersReader_next_number : PySem.W.findIn K (.ref aRd) "next_number" = some (some (.ref f_NumbersReader_next_number)))
    (if_NumbersReader_next_number : PySem.W.isFn K (.ref f_NumbersReader_next_number) = true)
    (l_NumbersReader_next_number : K.lookup f_NumbersReader_next_number = some ⟨oc_NumbersReader_next_number, od_NumbersReader_next_number, .func (PySem.W.fnOf "next_number" "NumbersReader.next_number" (defArgs s_NumbersReader_next_number) (defBody s_NumbersReader_next_number) (defScope s_NumbersReader_next_number) .none kV_NumbersReader_next_number dc_NumbersReader_next_number pm_NumbersReader_next_number an_NumbersReader_next_number cd_NumbersReader_next_number ct_NumbersReader_next_number), sl_NumbersReader_next_number⟩)
    (c_NumbersReader_next_number : PySem.W.codeIn K cd_NumbersReader_next_number "NumbersReader.next_number" = true)
    (k_NumbersReader_next_number : PySem.W.keepIn K (.ref f_NumbersReader_next_number) = true)
    {f_NumbersReader_pass_sign : Addr} {od_NumbersReader_pass_sign an_NumbersReader_pass_sign : Option Addr} {sl_NumbersReader_pass_sign : Array (Option Value)} {oc_NumbersReader_pass_sign kV_NumbersReader_pass_sign dc_NumbersReader_pass_sign pm_NumbersReader_pass_sign cd_NumbersReader_pass_sign ct_NumbersReader_pass_sign : Value}
    (i_NumbersReader_pass_sign : PySem.W.findIn K (.ref aRd) "pass_sign" = some (some (.ref f_NumbersReader_pass_sign)))
    (if_NumbersReader_pass_sign : PySem.W.isFn K (.ref f_NumbersReader_pass_sign) = true)
    (l_NumbersReader_pass_sign : K.lookup f_NumbersReader_pass_sign = some ⟨oc_NumbersReader_pass_sign, od_NumbersReader_pass_sign, .func (PySem.W.fnOf "pass_sign" "NumbersReader.pass_sign" (defArgs s_NumbersReader_pass_sign) (defBody s_NumbersReader_pass_sign) (defScope s_NumbersReader_pass_sign) .none kV_NumbersReader_pass_sign dc_NumbersReader_pass_sign pm_NumbersReader_pass_sign an_NumbersReader_pass_sign cd_NumbersReader_pass_sign ct_NumbersReader_pass_sign), sl_NumbersReader_pass_sign⟩)
    (c_NumbersReader_pass_sign : PySem.W.codeIn K cd_NumbersReader_pass_sign "NumbersReader.pass_sign" = true)
    (k_NumbersReader_pass_sign : PySem.W.keepIn K (.ref f_NumbersReader_pass_sign) = true)
    {f_NumbersReader_has_more : Addr} {od_NumbersReader_has_more an_NumbersReader_has_more : Option Addr} {sl_NumbersReader_has_more : Array (Option Value)} {oc_NumbersReader_has_more kV_NumbersReader_has_more dc_NumbersReader_has_more pm_NumbersReader_has_more cd_NumbersReader_has_more ct_NumbersReader_has_more : Value}
    (i_NumbersReader_has_more : PySem.W.findIn K (.ref aRd) "has_more" = some (some (.ref f_NumbersReader_has_more)))
    (if_NumbersReader_has_more : PySem.W.isFn K (.ref f_NumbersReader_has_more) = true)
    (l_NumbersReader_has_more : K.lookup f_NumbersReader_has_more = some ⟨oc_NumbersReader_has_more, od_NumbersReader_has_more, .func (PySem.W.fnOf "has_more" "NumbersReader.has_more" (defArgs s_NumbersReader_has_more) (defBody s_NumbersReader_has_more) (defScope s_NumbersReader_has_more) .none kV_NumbersReader_has_more dc_NumbersReader_has_more pm_NumbersReader_has_more an_NumbersReader_has_more cd_NumbersReader_has_more ct_NumbersReader_has_more), sl_NumbersReader_has_more⟩)
    (c_NumbersReader_has_more : PySem.W.codeIn K cd_NumbersReader_has_more "NumbersReader.has_more" = true)
    (k_NumbersReader_has_more : PySem.W.keepIn K (.ref f_NumbersReader_has_more) = true)
    {f_NumbersReader_told_form : Addr} {od_NumbersReader_told_form an_NumbersReader_told_form : Option Addr} {sl_NumbersReader_told_form : Array (Option Value)} {oc_NumbersReader_told_form kV_NumbersReader_told_form dc_NumbersReader_told_form pm_NumbersReader_told_form cd_NumbersReader_told_form ct_NumbersReader_told_form : Value}
    (i_NumbersReader_told_form : PySem.W.findIn K (.ref aRd) "told_form" = some (some (.ref f_NumbersReader_told_form)))
    (if_NumbersReader_told_form : PySem.W.isFn K (.ref f_NumbersReader_told_form) = true)
    (l_NumbersReader_told_form : K.lookup f_NumbersReader_told_form = some ⟨oc_NumbersReader_told_form, od_NumbersReader_told_form, .func (PySem.W.fnOf "told_form" "NumbersReader.told_form" (defArgs s_NumbersReader_told_form) (defBody s_NumbersReader_told_form) (defScope s_NumbersReader_told_form) .none kV_NumbersReader_told_form dc_NumbersReader_told_form pm_NumbersReader_told_form an_NumbersReader_told_form cd_NumbersReader_told_form ct_NumbersReader_told_form), sl_NumbersReader_told_form⟩)
    (c_NumbersReader_told_form : PySem.W.codeIn K cd_NumbersReader_told_form "NumbersReader.told_form" = true)
    (k_NumbersReader_told_form : PySem.W.keepIn K (.ref f_NumbersReader_told_form) = true)
    (cg_Numbers : PySem.W.specialIn K (.ref aNum) "__getattribute__" = some (some (.builtin "type.__getattribute__")))
    (cr_Numbers : PySem.W.readsIn K aNum (.type "type") = true)
    {f_Numbers_read : Addr} {od_Numbers_read an_Numbers_read : Option Addr} {sl_Numbers_read : Array (Option Value)} {oc_Numbers_read kV_Numbers_read dc_Numbers_read pm_Numbers_read cd_Numbers_read ct_Numbers_read : Value}
    {p_Numbers_read : Addr} {rest_Numbers_read : List Value}
    (i_Numbers_read : PySem.W.findCls K (.ref aNum) (.type "type") "read" = some (.get (.builtin "classmethod.__get__") (.ref p_Numbers_read) .none (.ref aNum)))
    (pr_Numbers_read : PySem.W.recIn K p_Numbers_read "classmethod" = some (.ref f_Numbers_read :: rest_Numbers_read))
    (l_Numbers_read : K.lookup f_Numbers_read = some ⟨oc_Numbers_read, od_Numbers_read, .func (PySem.W.fnOf "read" "Numbers.read" (defArgs s_Numbers_read) (defBody s_Numbers_read) (defScope s_Numbers_read) .none kV_Numbers_read dc_Numbers_read pm_Numbers_read an_Numbers_read cd_Numbers_read ct_Numbers_read), sl_Numbers_read⟩)
    (c_Numbers_read : PySem.W.codeIn K cd_Numbers_read "Numbers.read" = true)
    (k_Numbers_read : PySem.W.keepIn K (.ref f_Numbers_read) = true)
    (na_aNum_listed : PySem.W.findIn K (.ref aNum) "listed" = some none)
    (na_aNum_since : PySem.W.findIn K (.ref aNum) "since" = some none)
    (na_aNum_period : PySem.W.findIn K (.ref aNum) "period" = some none)
    (na_aNum_rests : PySem.W.findIn K (.ref aNum) "rests" = some none)
    (na_aRd_words : PySem.W.findIn K (.ref aRd) "words" = some none)
    (na_aRd_at : PySem.W.findIn K (.ref aRd) "at" = some none)
    (na_aInv_word : PySem.W.findIn K (.ref aInv) "word" = some none)
    (na_aIT_at : PySem.W.findIn K (.ref aIT) "at" = some none)
    {tk_MOST_DIGITS : Tok}
    (a_MOST_DIGITS : PySem.W.nsIn K mainGlobals "MOST_DIGITS" = some (some (.int 6 tk_MOST_DIGITS)))
    {tk_HUGE : Tok}
    (a_HUGE : PySem.W.nsIn K mainGlobals "HUGE" = some (some (.int 1000000000000000000 tk_HUGE)))
    {tk_MOST_TOLD : Tok}
    (a_MOST_TOLD : PySem.W.nsIn K mainGlobals "MOST_TOLD" = some (some (.int 999999 tk_MOST_TOLD)))
    {tk_DIGITS : Tok}
    (a_DIGITS : PySem.W.nsIn K mainGlobals "DIGITS" = some (some (.str "0123456789" tk_DIGITS)))
    (tyA : PySem.W.typeIn K (.ref aNum) = some (.type "type"))
    (neN : PySem.W.findIn K (.ref aNum) "__ne__" = some (some (.builtin "object.__ne__")))
    (obN : PySem.W.mroIn K aNum (.type "object") = some true)
    (caN : PySem.W.findIn K (.ref aNum) "__class__" = some (some (.builtin "object.__class__")))
    (cgN : PySem.W.specialIn K (.builtin "object.__class__") "__get__" = some (some (.builtin "getset_descriptor.__get__")))
    (ctN : PySem.W.takesIn K (.builtin "object.__class__") = some true)
    (z_str : PySem.W.nsIn K mainGlobals "str" = some none)
    (z_int : PySem.W.nsIn K mainGlobals "int" = some none)
    (z_len : PySem.W.nsIn K mainGlobals "len" = some none)
    (z_abs : PySem.W.nsIn K mainGlobals "abs" = some none)
    (z_repr : PySem.W.nsIn K mainGlobals "repr" = some none)
    (z_range : PySem.W.nsIn K mainGlobals "range" = some none)
    (z_min : PySem.W.nsIn K mainGlobals "min" = some none)
    (z_max : PySem.W.nsIn K mainGlobals "max" = some none)
    (z_bool : PySem.W.nsIn K mainGlobals "bool" = some none)
    (z_isinstance : PySem.W.nsIn K mainGlobals "isinstance" = some none)
    (z_tuple : PySem.W.nsIn K mainGlobals "tuple" = some none)
    (z_list : PySem.W.nsIn K mainGlobals "list" = some none)
    (z_all : PySem.W.nsIn K mainGlobals "all" = some none)
    (z_sorted : PySem.W.nsIn K mainGlobals "sorted" = some none)
    {f_law_box : Addr} {od_law_box an_law_box : Option Addr} {sl_law_box : Array (Option Value)} {oc_law_box kV_law_box dc_law_box pm_law_box cd_law_box ct_law_box : Value}
    (a_law_box : PySem.W.nsIn K mainGlobals "_law_box" = some (some (.ref f_law_box)))
    (l_law_box : K.lookup f_law_box = some ⟨oc_law_box, od_law_box, .func (PySem.W.fnOf "_law_box" "_law_box" (defArgs s_law_box) (defBody s_law_box) (defScope s_law_box) .none kV_law_box dc_law_box pm_law_box an_law_box cd_law_box ct_law_box), sl_law_box⟩)
    (c_law_box : PySem.W.codeIn K cd_law_box "_law_box" = true)
    (k_law_box : PySem.W.keepIn K (.ref f_law_box) = true)
    {f_law_take : Addr} {od_law_take an_law_take : Option Addr} {sl_law_take : Array (Option Value)} {oc_law_take kV_law_take dc_law_take pm_law_take cd_law_take ct_law_take : Value}
    (a_law_take : PySem.W.nsIn K mainGlobals "_law_take" = some (some (.ref f_law_take)))
    (l_law_take : K.lookup f_law_take = some ⟨oc_law_take, od_law_take, .func (PySem.W.fnOf "_law_take" "_law_take" (defArgs s_law_take) (defBody s_law_take) (defScope s_law_take) .none kV_law_take dc_law_take pm_law_take an_law_take cd_law_take ct_law_take), sl_law_take⟩)
    (c_law_take : PySem.W.codeIn K cd_law_take "_law_take" = true)
    (k_law_take : PySem.W.keepIn K (.ref f_law_take) = true)
    {f_law_pick : Addr} {od_law_pick an_law_pick : Option Addr} {sl_law_pick : Array (Option Value)} {oc_law_pick kV_law_pick dc_law_pick pm_law_pick cd_law_pick ct_law_pick : Value}
    (a_law_pick : PySem.W.nsIn K mainGlobals "_law_pick" = some (some (.ref f_law_pick)))
    (l_law_pick : K.lookup f_law_pick = some ⟨oc_law_pick, od_law_pick, .func (PySem.W.fnOf "_law_pick" "_law_pick" (defArgs s_law_pick) (defBody s_law_pick) (defScope s_law_pick) .none kV_law_pick dc_law_pick pm_law_pick an_law_pick cd_law_pick ct_law_pick), sl_law_pick⟩)
    (c_law_pick : PySem.W.codeIn K cd_law_pick "_law_pick" = true)
    (k_law_pick : PySem.W.keepIn K (.ref f_law_pick) = true)
    {f_law_some : Addr} {od_law_some an_law_some : Option Addr} {sl_law_some : Array (Option Value)} {oc_law_some kV_law_some dc_law_some pm_law_some cd_law_some ct_law_some : Value}
    (a_law_some : PySem.W.nsIn K mainGlobals "_law_some" = some (some (.ref f_law_some)))
    (l_law_some : K.lookup f_law_some = some ⟨oc_law_some, od_law_some, .func (PySem.W.fnOf "_law_some" "_law_some" (defArgs s_law_some) (defBody s_law_some) (defScope s_law_some) .none kV_law_some dc_law_some pm_law_some an_law_some cd_law_some ct_law_some), sl_law_some⟩)
    (c_law_some : PySem.W.codeIn K cd_law_some "_law_some" = true)
    (k_law_some : PySem.W.keepIn K (.ref f_law_some) = true)
    {f_law_text : Addr} {od_law_text an_law_text : Option Addr} {sl_law_text : Array (Option Value)} {oc_law_text kV_law_text dc_law_text pm_law_text cd_law_text ct_law_text : Value}
    (a_law_text : PySem.W.nsIn K mainGlobals "_law_text" = some (some (.ref f_law_text)))
    (l_law_text : K.lookup f_law_text = some ⟨oc_law_text, od_law_text, .func (PySem.W.fnOf "_law_text" "_law_text" (defArgs s_law_text) (defBody s_law_text) (defScope s_law_text) .none kV_law_text dc_law_text pm_law_text an_law_text cd_law_text ct_law_text), sl_law_text⟩)
    (c_law_text : PySem.W.codeIn K cd_law_text "_law_text" = true)
    (k_law_text : PySem.W.keepIn K (.ref f_law_text) = true)
    {f_law_number : Addr} {od_law_number an_law_number : Option Addr} {sl_law_number : Array (Option Value)} {oc_law_number kV_law_number dc_law_number pm_law_number cd_law_number ct_law_number : Value}
    (a_law_number : PySem.W.nsIn K mainGlobals "_law_number" = some (some (.ref f_law_number)))
    (l_law_number : K.lookup f_law_number = some ⟨oc_law_number, od_law_number, .func (PySem.W.fnOf "_law_number" "_law_number" (defArgs s_law_number) (defBody s_law_number) (defScope s_law_number) .none kV_law_number dc_law_number pm_law_number an_law_number cd_law_number ct_law_number), sl_law_number⟩)
    (c_law_number : PySem.W.codeIn K cd_law_number "_law_number" = true)
    (k_law_number : PySem.W.keepIn K (.ref f_law_number) = true)
    {f_law_rests_due : Addr} {od_law_rests_due an_law_rests_due : Option Addr} {sl_law_rests_due : Array (Option Value)} {oc_law_rests_due kV_law_rests_due dc_law_rests_due pm_law_rests_due cd_law_rests_due ct_law_rests_due : Value}
    (a_law_rests_due : PySem.W.nsIn K mainGlobals "_law_rests_due" = some (some (.ref f_law_rests_due)))
    (l_law_rests_due : K.lookup f_law_rests_due = some ⟨oc_law_rests_due, od_law_rests_due, .func (PySem.W.fnOf "_law_rests_due" "_law_rests_due" (defArgs s_law_rests_due) (defBody s_law_rests_due) (defScope s_law_rests_due) .none kV_law_rests_due dc_law_rests_due pm_law_rests_due an_law_rests_due cd_law_rests_due ct_law_rests_due), sl_law_rests_due⟩)
    (c_law_rests_due : PySem.W.codeIn K cd_law_rests_due "_law_rests_due" = true)
    (k_law_rests_due : PySem.W.keepIn K (.ref f_law_rests_due) = true)
    {f_law_due : Addr} {od_law_due an_law_due : Option Addr} {sl_law_due : Array (Option Value)} {oc_law_due kV_law_due dc_law_due pm_law_due cd_law_due ct_law_due : Value}
    (a_law_due : PySem.W.nsIn K mainGlobals "_law_due" = some (some (.ref f_law_due)))
    (l_law_due : K.lookup f_law_due = some ⟨oc_law_due, od_law_due, .func (PySem.W.fnOf "_law_due" "_law_due" (defArgs s_law_due) (defBody s_law_due) (defScope s_law_due) .none kV_law_due dc_law_due pm_law_due an_law_due cd_law_due ct_law_due), sl_law_due⟩)
    (c_law_due : PySem.W.codeIn K cd_law_due "_law_due" = true)
    (k_law_due : PySem.W.keepIn K (.ref f_law_due) = true)
    {f_law_read : Addr} {od_law_read an_law_read : Option Addr} {sl_law_read : Array (Option Value)} {oc_law_read kV_law_read dc_law_read pm_law_read cd_law_read ct_law_read : Value}
    (a_law_read : PySem.W.nsIn K mainGlobals "_law_read" = some (some (.ref f_law_read)))
    (l_law_read : K.lookup f_law_read = some ⟨oc_law_read, od_law_read, .func (PySem.W.fnOf "_law_read" "_law_read" (defArgs s_law_read) (defBody s_law_read) (defScope s_law_read) .none kV_law_read dc_law_read pm_law_read an_law_read cd_law_read ct_law_read), sl_law_read⟩)
    (c_law_read : PySem.W.codeIn K cd_law_read "_law_read" = true)
    (k_law_read : PySem.W.keepIn K (.ref f_law_read) = true)
    {f_law : Addr} {od_law an_law : Option Addr} {sl_law : Array (Option Value)} {oc_law kV_law dc_law pm_law cd_law ct_law : Value}
    (a_law : PySem.W.nsIn K mainGlobals "law" = some (some (.ref f_law)))
    (l_law : K.lookup f_law = some ⟨oc_law, od_law, .func (PySem.W.fnOf "law" "law" (defArgs s_law) (defBody s_law) (defScope s_law) .none kV_law dc_law pm_law an_law cd_law ct_law), sl_law⟩)
    (c_law : PySem.W.codeIn K cd_law "law" = true)
    (k_law : PySem.W.keepIn K (.ref f_law) = true)
    {f_is_integer : Addr} {od_is_integer an_is_integer : Option Addr} {sl_is_integer : Array (Option Value)} {oc_is_integer kV_is_integer dc_is_integer pm_is_integer cd_is_integer ct_is_integer : Value}
    (a_is_integer : PySem.W.nsIn K mainGlobals "is_integer" = some (some (.ref f_is_integer)))
    (l_is_integer : K.lookup f_is_integer = some ⟨oc_is_integer, od_is_integer, .func (PySem.W.fnOf "is_integer" "is_integer" (defArgs s_is_integer) (defBody s_is_integer) (defScope s_is_integer) .none kV_is_integer dc_is_integer pm_is_integer an_is_integer cd_is_integer ct_is_integer), sl_is_integer⟩)
    (c_is_integer : PySem.W.codeIn K cd_is_integer "is_integer" = true)
    (k_is_integer : PySem.W.keepIn K (.ref f_is_integer) = true)
    {f_number_of : Addr} {od_number_of an_number_of : Option Addr} {sl_number_of : Array (Option Value)} {oc_number_of kV_number_of dc_number_of pm_number_of cd_number_of ct_number_of : Value}
    (a_number_of : PySem.W.nsIn K mainGlobals "number_of" = some (some (.ref f_number_of)))
    (l_number_of : K.lookup f_number_of = some ⟨oc_number_of, od_number_of, .func (PySem.W.fnOf "number_of" "number_of" (defArgs s_number_of) (defBody s_number_of) (defScope s_number_of) .none kV_number_of dc_number_of pm_number_of an_number_of cd_number_of ct_number_of), sl_number_of⟩)
    (c_number_of : PySem.W.codeIn K cd_number_of "number_of" = true)
    (k_number_of : PySem.W.keepIn K (.ref f_number_of) = true)
    {f_all_from : Addr} {od_all_from an_all_from : Option Addr} {sl_all_from : Array (Option Value)} {oc_all_from kV_all_from dc_all_from pm_all_from cd_all_from ct_all_from : Value}
    (a_all_from : PySem.W.nsIn K mainGlobals "all_from" = some (some (.ref f_all_from)))
    (l_all_from : K.lookup f_all_from = some ⟨oc_all_from, od_all_from, .func (PySem.W.fnOf "all_from" "all_from" (defArgs s_all_from) (defBody s_all_from) (defScope s_all_from) .none kV_all_from dc_all_from pm_all_from an_all_from cd_all_from ct_all_from), sl_all_from⟩)
    (c_all_from : PySem.W.codeIn K cd_all_from "all_from" = true)
    (k_all_from : PySem.W.keepIn K (.ref f_all_from) = true)
    {f_least_period : Addr} {od_least_period an_least_period : Option Addr} {sl_least_period : Array (Option Value)} {oc_least_period kV_least_period dc_least_period pm_least_period cd_least_period ct_least_period : Value}
    (a_least_period : PySem.W.nsIn K mainGlobals "least_period" = some (some (.ref f_least_period)))
    (l_least_period : K.lookup f_least_period = some ⟨oc_least_period, od_least_period, .func (PySem.W.fnOf "least_period" "least_period" (defArgs s_least_period) (defBody s_least_period) (defScope s_least_period) .none kV_least_period dc_least_period pm_least_period an_least_period cd_least_period ct_least_period), sl_least_period⟩)
    (c_least_period : PySem.W.codeIn K cd_least_period "least_period" = true)
    (k_least_period : PySem.W.keepIn K (.ref f_least_period) = true)
    {f_least_form : Addr} {od_least_form an_least_form : Option Addr} {sl_least_form : Array (Option Value)} {oc_least_form kV_least_form dc_least_form pm_least_form cd_least_form ct_least_form : Value}
    (a_least_form : PySem.W.nsIn K mainGlobals "least_form" = some (some (.ref f_least_form)))
    (l_least_form : K.lookup f_least_form = some ⟨oc_least_form, od_least_form, .func (PySem.W.fnOf "least_form" "least_form" (defArgs s_least_form) (defBody s_least_form) (defScope s_least_form) .none kV_least_form dc_least_form pm_least_form an_least_form cd_least_form ct_least_form), sl_least_form⟩)
    (c_least_form : PySem.W.codeIn K cd_least_form "least_form" = true)
    (k_least_form : PySem.W.keepIn K (.ref f_least_form) = true) :
    ∀ base : Heap, K.In base → base.Ns mainGlobals mg → DefG P w K mg base CX0 8 "law" ["_law_script"] (spLaw K) := by
  have m_GroundError : mg "GroundError" = some (.ref aGround) := PySem.W.mg_of X G a_GroundError
  have b_GroundError : BaseInit K aGround := ⟨bs_GroundError, br_GroundError, bf_GroundError⟩
  have m_InvalidNumbers : mg "InvalidNumbers" = some (.ref aInv) := PySem.W.mg_of X G a_InvalidNumbers
  have at_InvalidNumbers : ErrAt K mg "InvalidNumbers" "InvalidNumbers.__init__" s_InvalidNumbers__init aInv := ⟨m_InvalidNumbers, ⟨⟨nm_InvalidNumbers, q_InvalidNumbers, N_InvalidNumbers, bs_InvalidNumbers, _, sn_InvalidNumbers, sub_InvalidNumbers, ab_InvalidNumbers, col_InvalidNumbers, dd_InvalidNumbers, m0_InvalidNumbers, m1_InvalidNumbers, m2_InvalidNumbers, m3_InvalidNumbers, m5_InvalidNumbers, x_InvalidNumbers, rfl⟩, sa_InvalidNumbers, ex_InvalidNumbers, ty_InvalidNumbers, kc_InvalidNumbers⟩, _, _, i_InvalidNumbers, ti_InvalidNumbers, fun_mk (st := s_InvalidNumbers__init) l_InvalidNumbers c_InvalidNumbers k_InvalidNumbers⟩
  have m_InvalidText : mg "InvalidText" = some (.ref aIT) := PySem.W.mg_of X G a_InvalidText
  have at_InvalidText : ErrAt K mg "InvalidText" "InvalidText.__init__" s_InvalidText__init aIT := ⟨m_InvalidText, ⟨⟨nm_InvalidText, q_InvalidText, N_InvalidText, bs_InvalidText, _, sn_InvalidText, sub_InvalidText, ab_InvalidText, col_InvalidText, dd_InvalidText, m0_InvalidText, m1_InvalidText, m2_InvalidText, m3_InvalidText, m5_InvalidText, x_InvalidText, rfl⟩, sa_InvalidText, ex_InvalidText, ty_InvalidText, kc_InvalidText⟩, _, _, i_InvalidText, ti_InvalidText, fun_mk (st := s_InvalidText__init) l_InvalidText c_InvalidText k_InvalidText⟩
  have xc_InvalidText : ExcC K aIT := ⟨xg_InvalidText, xk_InvalidText, ex_InvalidText, xd_InvalidText, xa_InvalidText, xn_InvalidText, xt_InvalidText, xm_InvalidText⟩
  have exm_InvalidText : PySem.W.exmOne K (.ref aIT) (.ref aIT) = some true := PySem.W.exm_ref ex_InvalidText xd_InvalidText ty_InvalidText xs_InvalidText
  have m_Numbers : mg "Numbers" = some (.ref aNum) := PySem.W.mg_of X G a_Numbers
  have cl_Numbers : Cls K aNum := ⟨pg_Numbers, hd_Numbers, po_Numbers, sa_Numbers⟩
  have mk_Numbers : Mk K aNum f_Numbers := ⟨mk_Numbers, i_Numbers, if_Numbers, kc_Numbers⟩
  have fd_Numbers : FunD K "__init__" "Numbers.__init__" (defArgs s_Numbers__init) (defBody s_Numbers__init) (defScope s_Numbers__init) [.ref e1, .int 1, .int 1, .ref e2] [] f_Numbers _ := ⟨⟨_, _, _, _, _, _, _, _, _, _, rfl, l_Numbers, c_Numbers, .inr ⟨List.cons_ne_nil _ _, _, _, _, _, rfl, t_Numbers, rfl, v_Numbers⟩, .inl rfl⟩, k_Numbers⟩
  have m_NumbersReader : mg "NumbersReader" = some (.ref aRd) := PySem.W.mg_of X G a_NumbersReader
  have cl_NumbersReader : Cls K aRd := ⟨pg_NumbersReader, hd_NumbersReader, po_NumbersReader, sa_NumbersReader⟩
  have mk_NumbersReader : Mk K aRd f_NumbersReader := ⟨mk_NumbersReader, i_NumbersReader, if_NumbersReader, kc_NumbersReader⟩
  have fd_NumbersReader : Fun K "__init__" "NumbersReader.__init__" s_NumbersReader__init f_NumbersReader _ := fun_mk (st := s_NumbersReader__init) l_NumbersReader c_NumbersReader k_NumbersReader
  have at_Numbers__eq : MetAt K aNum "__eq__" "Numbers.__eq__" s_Numbers__eq := ⟨cl_Numbers, _, _, ⟨i_Numbers__eq, if_Numbers__eq, k_Numbers__eq⟩, fun_mk (st := s_Numbers__eq) l_Numbers__eq c_Numbers__eq k_Numbers__eq⟩
  have at_Numbers__str : MetAt K aNum "__str__" "Numbers.__str__" s_Numbers__str := ⟨cl_Numbers, _, _, ⟨i_Numbers__str, if_Numbers__str, k_Numbers__str⟩, fun_mk (st := s_Numbers__str) l_Numbers__str c_Numbers__str k_Numbers__str⟩
  have at_NumbersReader_next_word : MetAt K aRd "next_word" "NumbersReader.next_word" s_NumbersReader_next_word := ⟨cl_NumbersReader, _, _, ⟨i_NumbersReader_next_word, if_NumbersReader_next_word, k_NumbersReader_next_word⟩, fun_mk (st := s_NumbersReader_next_word) l_NumbersReader_next_word c_NumbersReader_next_word k_NumbersReader_next_word⟩
  have at_NumbersReader_next_number : MetAt K aRd "next_number" "NumbersReader.next_number" s_NumbersReader_next_number := ⟨cl_NumbersReader, _, _, ⟨i_NumbersReader_next_number, if_NumbersReader_next_number, k_NumbersReader_next_number⟩, fun_mk (st := s_NumbersReader_next_number) l_NumbersReader_next_number c_NumbersReader_next_number k_NumbersReader_next_number⟩
  have at_NumbersReader_pass_sign : MetAt K aRd "pass_sign" "NumbersReader.pass_sign" s_NumbersReader_pass_sign := ⟨cl_NumbersReader, _, _, ⟨i_NumbersReader_pass_sign, if_NumbersReader_pass_sign, k_NumbersReader_pass_sign⟩, fun_mk (st := s_NumbersReader_pass_sign) l_NumbersReader_pass_sign c_NumbersReader_pass_sign k_NumbersReader_pass_sign⟩
  have at_NumbersReader_has_more : MetAt K aRd "has_more" "NumbersReader.has_more" s_NumbersReader_has_more := ⟨cl_NumbersReader, _, _, ⟨i_NumbersReader_has_more, if_NumbersReader_has_more, k_NumbersReader_has_more⟩, fun_mk (st := s_NumbersReader_has_more) l_NumbersReader_has_more c_NumbersReader_has_more k_NumbersReader_has_more⟩
  have at_NumbersReader_told_form : MetAt K aRd "told_form" "NumbersReader.told_form" s_NumbersReader_told_form := ⟨cl_NumbersReader, _, _, ⟨i_NumbersReader_told_form, if_NumbersReader_told_form, k_NumbersReader_told_form⟩, fun_mk (st := s_NumbersReader_told_form) l_NumbersReader_told_form c_NumbersReader_told_form k_NumbersReader_told_form⟩
  have at_Numbers_read : CmAt K aNum "read" "Numbers.read" s_Numbers_read := ⟨.type "type", _, _, _, ⟨cr_Numbers, cg_Numbers⟩, ⟨i_Numbers_read, ⟨_, pr_Numbers_read⟩, fn_in l_Numbers_read⟩, fun_mk (st := s_Numbers_read) l_Numbers_read c_Numbers_read k_Numbers_read⟩
  have m_MOST_DIGITS : ∃ t, mg "MOST_DIGITS" = some (.int 6 t) := ⟨_, PySem.W.mg_of X G a_MOST_DIGITS⟩
  have m_HUGE : ∃ t, mg "HUGE" = some (.int 1000000000000000000 t) := ⟨_, PySem.W.mg_of X G a_HUGE⟩
  have m_MOST_TOLD : ∃ t, mg "MOST_TOLD" = some (.int 999999 t) := ⟨_, PySem.W.mg_of X G a_MOST_TOLD⟩
  have m_DIGITS : ∃ t, mg "DIGITS" = some (.str "0123456789" t) := ⟨_, PySem.W.mg_of X G a_DIGITS⟩
  have n_str : mg "str" = none := PySem.W.mg_none_of X G z_str
  have n_int : mg "int" = none := PySem.W.mg_none_of X G z_int
  have n_len : mg "len" = none := PySem.W.mg_none_of X G z_len
  have n_abs : mg "abs" = none := PySem.W.mg_none_of X G z_abs
  have n_repr : mg "repr" = none := PySem.W.mg_none_of X G z_repr
  have n_range : mg "range" = none := PySem.W.mg_none_of X G z_range
  have n_min : mg "min" = none := PySem.W.mg_none_of X G z_min
  have n_max : mg "max" = none := PySem.W.mg_none_of X G z_max
  have n_bool : mg "bool" = none := PySem.W.mg_none_of X G z_bool
  have n_isinstance : mg "isinstance" = none := PySem.W.mg_none_of X G z_isinstance
  have n_tuple : mg "tuple" = none := PySem.W.mg_none_of X G z_tuple
  have n_list : mg "list" = none := PySem.W.mg_none_of X G z_list
  have n_all : mg "all" = none := PySem.W.mg_none_of X G z_all
  have n_sorted : mg "sorted" = none := PySem.W.mg_none_of X G z_sorted
  have at_law_box : DefAt K mg "_law_box" s_law_box := ⟨_, _, PySem.W.mg_of X G a_law_box, fun_mk (st := s_law_box) l_law_box c_law_box k_law_box⟩
  have at_law_take : DefAt K mg "_law_take" s_law_take := ⟨_, _, PySem.W.mg_of X G a_law_take, fun_mk (st := s_law_take) l_law_take c_law_take k_law_take⟩
  have at_law_pick : DefAt K mg "_law_pick" s_law_pick := ⟨_, _, PySem.W.mg_of X G a_law_pick, fun_mk (st := s_law_pick) l_law_pick c_law_pick k_law_pick⟩
  have at_law_some : DefAt K mg "_law_some" s_law_some := ⟨_, _, PySem.W.mg_of X G a_law_some, fun_mk (st := s_law_some) l_law_some c_law_some k_law_some⟩
  have at_law_text : DefAt K mg "_law_text" s_law_text := ⟨_, _, PySem.W.mg_of X G a_law_text, fun_mk (st := s_law_text) l_law_text c_law_text k_law_text⟩
  have at_law_number : DefAt K mg "_law_number" s_law_number := ⟨_, _, PySem.W.mg_of X G a_law_number, fun_mk (st := s_law_number) l_law_number c_law_number k_law_number⟩
  have at_law_rests_due : DefAt K mg "_law_rests_due" s_law_rests_due := ⟨_, _, PySem.W.mg_of X G a_law_rests_due, fun_mk (st := s_law_rests_due) l_law_rests_due c_law_rests_due k_law_rests_due⟩
  have at_law_due : DefAt K mg "_law_due" s_law_due := ⟨_, _, PySem.W.mg_of X G a_law_due, fun_mk (st := s_law_due) l_law_due c_law_due k_law_due⟩
  have at_law_read : DefAt K mg "_law_read" s_law_read := ⟨_, _, PySem.W.mg_of X G a_law_read, fun_mk (st := s_law_read) l_law_read c_law_read k_law_read⟩
  have at_law : DefAt K mg "law" s_law := ⟨_, _, PySem.W.mg_of X G a_law, fun_mk (st := s_law) l_law c_law k_law⟩
  have at_is_integer : DefAt K mg "is_integer" s_is_integer := ⟨_, _, PySem.W.mg_of X G a_is_integer, fun_mk (st := s_is_integer) l_is_integer c_is_integer k_is_integer⟩
  have at_number_of : DefAt K mg "number_of" s_number_of := ⟨_, _, PySem.W.mg_of X G a_number_of, fun_mk (st := s_number_of) l_number_of c_number_of k_number_of⟩
  have at_all_from : DefAt K mg "all_from" s_all_from := ⟨_, _, PySem.W.mg_of X G a_all_from, fun_mk (st := s_all_from) l_all_from c_all_from k_all_from⟩
  have at_least_period : DefAt K mg "least_period" s_least_period := ⟨_, _, PySem.W.mg_of X G a_least_period, fun_mk (st := s_least_period) l_least_period c_least_period k_least_period⟩
  have at_least_form : DefAt K mg "least_form" s_least_form := ⟨_, _, PySem.W.mg_of X G a_least_form, fun_mk (st := s_least_form) l_least_form c_least_form k_least_form⟩
  have T : Txt K mg aGround aNum aInv aIT aRd := ⟨m_GroundError, b_GroundError, PySem.W.mg_of X G a_InvalidNumbers, m_InvalidText, m_MOST_DIGITS, m_DIGITS, m_HUGE, m_MOST_TOLD, cl_Numbers, na_aNum_listed, na_aNum_since, na_aNum_period, na_aNum_rests, cl_NumbersReader, na_aRd_words, na_aRd_at, na_aInv_word, na_aIT_at,
    ⟨xg_InvalidText, xk_InvalidText, ex_InvalidText, xd_InvalidText⟩, exm_InvalidText, xc_InvalidText, fun H a dx fs e => .base (.ins e cl_Numbers caN cgN ctN obN), m_Numbers, m_NumbersReader, neN, obN, n_str, n_int, n_len, n_abs, n_repr, n_range, n_min, n_max, n_bool, n_isinstance, n_tuple, n_list, n_all, n_sorted⟩
  have te1 : ∀ H, SqT K H e1 [] := fun H => .inr ⟨_, #[], _, le1, rfl, rfl, Nat.zero_le _, .nil⟩
  have te2 : ∀ H, SqT K H e2 [] := fun H => .inr ⟨_, #[], _, le2, rfl, rfl, Nat.zero_le _, .nil⟩
  obtain ⟨ds, vd, bN⟩ := fd_Numbers.binds1 (ps := ["self", "listed", "since", "period", "rests"]) 5 4 (by simp) rfl (fun T kV doc pm an cdv ct us its hu hi => match us, its, hu, hi with | [_, _, _, _, _], [_, _, _, _], _, _ => ⟨_, rfl, rfl⟩)
  obtain ⟨ds0, vd0, bN0⟩ := fd_Numbers.binds1 (ps := ["self", "listed", "since", "period", "rests"]) 1 0 (by simp) rfl (fun T kV doc pm an cdv ct us its hu hi => match us, its, hu, hi with | [_], [_, _, _, _], _, _ => ⟨_, rfl, rfl⟩)
  intro base hb1 hb2
  have D_take := ok_take (P := P) (w := w) (base := base) at_law_take T
  have D_pick := ok_pick (P := P) (w := w) (base := base) at_law_pick T D_take
  have D_box := ok_box (P := P) (w := w) (base := base) at_law_box T
  have D_int := ok_is_integer (P := P) (w := w) (base := base) at_is_integer T
  have D_all := ok_all_from (P := P) (w := w) (base := base) at_all_from T D_int
  have D_lp := ok_least_period (P := P) (w := w) (base := base) at_least_period T
  have D_lf := ok_least_form (P := P) (w := w) (base := base) at_least_form T D_lp
  have R_inv := ok_InvalidNumbers (P := P) (w := w) (base := base) at_InvalidNumbers T
  have F_num := ok_NumI (P := P) (w := w) (base := base) fd_Numbers T D_int D_all D_lf R_inv
  have M_num : MakeOk P w K mg base (L2.CX P w) 4 "Numbers" aNum ["self", "listed", "since", "period", "rests"] [] (spNumI K aNum aInv) := ⟨m_Numbers, _, _, _, mk_Numbers, F_num, bN, vd⟩
  have M_num0 : MakeOk P w K mg base (L2.CX P w) 4 "Numbers" aNum ["self", "listed", "since", "period", "rests"] [.ref e1, .int 1, .int 1, .ref e2] (spNumI K aNum aInv) := ⟨m_Numbers, _, _, _, mk_Numbers, F_num, bN0, vd0⟩
  have R_it := ok_InvalidText (P := P) (w := w) (base := base) at_InvalidText T
  have F_rd := ok_RInit (P := P) (w := w) (base := base) fd_NumbersReader T
  have M_rd : MakeOk P w K mg base CX0 1 "NumbersReader" aRd ["self", "words"] [] (spRInit aRd) := ⟨m_NumbersReader, _, _, _, mk_NumbersReader, F_rd, fd_NumbersReader.binds (fun _ _ _ _ _ _ us hl => match us, hl with | [_, _], _ => rfl), .nil⟩
  have D_no := ok_number_of (P := P) (w := w) (base := base) at_number_of T
  have M_nw := ok_next_word (P := P) (w := w) (base := base) at_NumbersReader_next_word T R_it
  have M_nn := ok_next_number (P := P) (w := w) (base := base) at_NumbersReader_next_number T R_it M_nw D_no
  have M_ps := ok_pass_sign (P := P) (w := w) (base := base) at_NumbersReader_pass_sign T R_it M_nw
  have M_hm := ok_has_more (P := P) (w := w) (base := base) at_NumbersReader_has_more T
  have M_tf := ok_told_form (P := P) (w := w) (base := base) at_NumbersReader_told_form T R_it M_nn M_ps M_hm
  have M_read := ok_readN (P := P) (w := w) (base := base) at_Numbers_read T R_it M_rd M_tf M_num
  have M_eq := ok_eqN (P := P) (w := w) (base := base) at_Numbers__eq T
  have M_str := ok_strN (P := P) (w := w) (base := base) at_Numbers__str T
  have D_some := ok_law_some (P := P) (w := w) (base := base) at_law_some T D_take D_pick
  have D_num := ok_law_number (P := P) (w := w) (base := base) at_law_number T
  have D_rdue := ok_rests_due (P := P) (w := w) (base := base) at_law_rests_due T D_num
  have D_due := ok_law_due (P := P) (w := w) (base := base) at_law_due T D_num D_rdue
  have D_read := ok_law_read (P := P) (w := w) (base := base) at_law_read T M_read
  have D_text := ok_law_text (P := P) (w := w) (base := base) at_law_text T
  exact ok_law at_law T D_box D_take D_pick D_some D_text D_due D_read M_num M_num0 te1 te2 M_read M_eq M_str
end
end Hg
end L2

open PySem PySem.W PyProof.Rows in
set_option maxRecDepth 100000 in
set_option maxHeartbeats 0 in
theorem PySem.Challenge.cw_heldground_k07_texts_of_sets_holds : PySem.Challenge.rw_heldground_k07_texts_of_sets.Holds := by
  w_on; o_law; k_head; (case hw => w_witness2)
  k_fill
  refine L2.Hg.walk_ofG (l := PySem.Challenge.rw_heldground_k07_texts_of_sets) (n := 63) (k := 8) (x := "_law_script") (sp := L2.Hg.spLaw) rfl (by decide) rfl ⟨rfl, by decide, by decide⟩ (fun w h Y => PySem.W.kIn_of Y) ?F (fun K H a ns hl hS => ⟨a, ns, rfl, hS, hl, fun _ => rfl⟩)
  case F =>
    intro w mg h KX G
    refine' L2.Hg.all_mk KX G ?a_GroundError ?bs_GroundError ?br_GroundError ?bf_GroundError ?a_InvalidNumbers ?x_InvalidNumbers ?sa_InvalidNumbers ?ex_InvalidNumbers ?ty_InvalidNumbers ?kc_InvalidNumbers ?i_InvalidNumbers ?ti_InvalidNumbers ?l_InvalidNumbers ?c_InvalidNumbers ?k_InvalidNumbers ?a_InvalidText ?x_InvalidText ?sa_InvalidText ?ex_InvalidText ?ty_InvalidText ?kc_InvalidText ?i_InvalidText ?ti_InvalidText ?l_InvalidText ?c_InvalidText ?k_InvalidText ?xg_InvalidText ?xk_InvalidText ?xd_InvalidText ?xa_InvalidText ?xn_InvalidText ?xt_InvalidText ?xm_InvalidText ?xs_InvalidText ?a_Numbers ?pg_Numbers ?hd_Numbers ?po_Numbers ?sa_Numbers ?mk_Numbers ?kc_Numbers ?i_Numbers ?if_Numbers ?l_Numbers ?c_Numbers ?k_Numbers ?t_Numbers ?v_Numbers ?le1 ?le2 ?a_NumbersReader ?pg_NumbersReader ?hd_NumbersReader ?po_NumbersReader ?sa_NumbersReader ?mk_NumbersReader ?kc_NumbersReader ?i_NumbersReader ?if_NumbersReader ?l_NumbersReader ?c_NumbersReader ?k_NumbersReader ?i_Numbers__eq ?if_Numbers__eq ?l_Numbers__eq ?c_Numbers__eq ?k_Numbers__eq ?i_Numbers__str ?if_Numbers__str ?l_Numbers__str ?c_Numbers__str ?k_Numbers__str ?i_NumbersReader_next_word ?if_NumbersReader_next_word ?l_NumbersReader_next_word ?c_NumbersReader_next_word ?k_NumbersReader_next_word ?i_NumbersReader_next_number ?if_NumbersReader_next_number ?l_NumbersReader_next_number ?c_NumbersReader_next_number ?k_NumbersReader_next_number ?i_NumbersReader_pass_sign ?if_NumbersReader_pass_sign ?l_NumbersReader_pass_sign ?c_NumbersReader_pass_sign ?k_NumbersReader_pass_sign ?i_NumbersReader_has_more ?if_NumbersReader_has_more ?l_NumbersReader_has_more ?c_NumbersReader_has_more ?k_NumbersReader_has_more ?i_NumbersReader_told_form ?if_NumbersReader_told_form ?l_NumbersReader_told_form ?c_NumbersReader_told_form ?k_NumbersReader_told_form ?cg_Numbers ?cr_Numbers ?i_Numbers_read ?pr_Numbers_read ?l_Numbers_read ?c_Numbers_read ?k_Numbers_read ?na_aNum_listed ?na_aNum_since ?na_aNum_period ?na_aNum_rests ?na_aRd_words ?na_aRd_at ?na_aInv_word ?na_aIT_at ?a_MOST_DIGITS ?a_HUGE ?a_MOST_TOLD ?a_DIGITS ?tyA ?neN ?obN ?caN ?cgN ?ctN ?z_str ?z_int ?z_len ?z_abs ?z_repr ?z_range ?z_min ?z_max ?z_bool ?z_isinstance ?z_tuple ?z_list ?z_all ?z_sorted ?a_law_box ?l_law_box ?c_law_box ?k_law_box ?a_law_take ?l_law_take ?c_law_take ?k_law_take ?a_law_pick ?l_law_pick ?c_law_pick ?k_law_pick ?a_law_some ?l_law_some ?c_law_some ?k_law_some ?a_law_text ?l_law_text ?c_law_text ?k_law_text ?a_law_number ?l_law_number ?c_law_number ?k_law_number ?a_law_rests_due ?l_law_rests_due ?c_law_rests_due ?k_law_rests_due ?a_law_due ?l_law_due ?c_law_due ?k_law_due ?a_law_read ?l_law_read ?c_law_read ?k_law_read ?a_law ?l_law ?c_law ?k_law ?a_is_integer ?l_is_integer ?c_is_integer ?k_is_integer ?a_number_of ?l_number_of ?c_number_of ?k_number_of ?a_all_from ?l_all_from ?c_all_from ?k_all_from ?a_least_period ?l_least_period ?c_least_period ?k_least_period ?a_least_form ?l_least_form ?c_least_form ?k_least_form
    (case a_GroundError => k_is)
    (case bs_GroundError => k_is)
    (case br_GroundError => k_is)
    (case bf_GroundError => k_is)
    (case a_InvalidNumbers => k_is)
    (case x_InvalidNumbers => k_is)
    (case sa_InvalidNumbers => k_is)
    (case ex_InvalidNumbers => k_is)
    (case ty_InvalidNumbers => k_is)
    (case kc_InvalidNumbers => k_is)
    (case i_InvalidNumbers => k_is)
    (case ti_InvalidNumbers => k_is)
    (case l_InvalidNumbers => k_is)
    (case c_InvalidNumbers => k_is)
    (case k_InvalidNumbers => k_is)
    (case a_InvalidText => k_is)
    (case x_InvalidText => k_is)
    (case sa_InvalidText => k_is)
    (case ex_InvalidText => k_is)
    (case ty_InvalidText => k_is)
    (case kc_InvalidText => k_is)
    (case i_InvalidText => k_is)
    (case ti_InvalidText => k_is)
    (case l_InvalidText => k_is)
    (case c_InvalidText => k_is)
    (case k_InvalidText => k_is)
    (case xg_InvalidText => k_is)
    (case xk_InvalidText => k_is)
    (case xd_InvalidText => k_is)
    (case xa_InvalidText => k_is)
    (case xn_InvalidText => k_is)
    (case xt_InvalidText => k_is)
    (case xm_InvalidText => k_is)
    (case xs_InvalidText => k_is)
    (case a_Numbers => k_is)
    (case pg_Numbers => k_is)
    (case hd_Numbers => k_is)
    (case po_Numbers => k_is)
    (case sa_Numbers => k_is)
    (case mk_Numbers => k_is)
    (case kc_Numbers => k_is)
    (case i_Numbers => k_is)
    (case if_Numbers => k_is)
    (case l_Numbers => k_is)
    (case c_Numbers => k_is)
    (case k_Numbers => k_is)
    (case t_Numbers => k_is)
    (case v_Numbers => repeat (first | exact .nil | refine .cons (by first | rfl | exact ⟨_, rfl⟩) ?_))
    (case le1 => k_is)
    (case le2 => k_is)
    (case a_NumbersReader => k_is)
    (case pg_NumbersReader => k_is)
    (case hd_NumbersReader => k_is)
    (case po_NumbersReader => k_is)
    (case sa_NumbersReader => k_is)
    (case mk_NumbersReader => k_is)
    (case kc_NumbersReader => k_is)
    (case i_NumbersReader => k_is)
    (case if_NumbersReader => k_is)
    (case l_NumbersReader => k_is)
    (case c_NumbersReader => k_is)
    (case k_NumbersReader => k_is)
    (case i_Numbers__eq => k_is)
    (case if_Numbers__eq => k_is)
    (case l_Numbers__eq => k_is)
    (case c_Numbers__eq => k_is)
    (case k_Numbers__eq => k_is)
    (case i_Numbers__str => k_is)
    (case if_Numbers__str => k_is)
    (case l_Numbers__str => k_is)
    (case c_Numbers__str => k_is)
    (case k_Numbers__str => k_is)
    (case i_NumbersReader_next_word => k_is)
    (case if_NumbersReader_next_word => k_is)
    (case l_NumbersReader_next_word => k_is)
    (case c_NumbersReader_next_word => k_is)
    (case k_NumbersReader_next_word => k_is)
    (case i_NumbersReader_next_number => k_is)
    (case if_NumbersReader_next_number => k_is)
    (case l_NumbersReader_next_number => k_is)
    (case c_NumbersReader_next_number => k_is)
    (case k_NumbersReader_next_number => k_is)
    (case i_NumbersReader_pass_sign => k_is)
    (case if_NumbersReader_pass_sign => k_is)
    (case l_NumbersReader_pass_sign => k_is)
    (case c_NumbersReader_pass_sign => k_is)
    (case k_NumbersReader_pass_sign => k_is)
    (case i_NumbersReader_has_more => k_is)
    (case if_NumbersReader_has_more => k_is)
    (case l_NumbersReader_has_more => k_is)
    (case c_NumbersReader_has_more => k_is)
    (case k_NumbersReader_has_more => k_is)
    (case i_NumbersReader_told_form => k_is)
    (case if_NumbersReader_told_form => k_is)
    (case l_NumbersReader_told_form => k_is)
    (case c_NumbersReader_told_form => k_is)
    (case k_NumbersReader_told_form => k_is)
    (case cg_Numbers => k_is)
    (case cr_Numbers => k_is)
    (case i_Numbers_read => k_is)
    (case pr_Numbers_read => k_is)
    (case l_Numbers_read => k_is)
    (case c_Numbers_read => k_is)
    (case k_Numbers_read => k_is)
    (case na_aNum_listed => k_is)
    (case na_aNum_since => k_is)
    (case na_aNum_period => k_is)
    (case na_aNum_rests => k_is)
    (case na_aRd_words => k_is)
    (case na_aRd_at => k_is)
    (case na_aInv_word => k_is)
    (case na_aIT_at => k_is)
    (case a_MOST_DIGITS => k_is)
    (case a_HUGE => k_is)
    (case a_MOST_TOLD => k_is)
    (case a_DIGITS => k_is)
    (case tyA => k_is)
    (case neN => k_is)
    (case obN => k_is)
    (case caN => k_is)
    (case cgN => k_is)
    (case ctN => k_is)
    (case z_str => k_is)
    (case z_int => k_is)
    (case z_len => k_is)
    (case z_abs => k_is)
    (case z_repr => k_is)
    (case z_range => k_is)
    (case z_min => k_is)
    (case z_max => k_is)
    (case z_bool => k_is)
    (case z_isinstance => k_is)
    (case z_tuple => k_is)
    (case z_list => k_is)
    (case z_all => k_is)
    (case z_sorted => k_is)
    (case a_law_box => k_is)
    (case l_law_box => k_is)
    (case c_law_box => k_is)
    (case k_law_box => k_is)
    (case a_law_take => k_is)
    (case l_law_take => k_is)
    (case c_law_take => k_is)
    (case k_law_take => k_is)
    (case a_law_pick => k_is)
    (case l_law_pick => k_is)
    (case c_law_pick => k_is)
    (case k_law_pick => k_is)
    (case a_law_some => k_is)
    (case l_law_some => k_is)
    (case c_law_some => k_is)
    (case k_law_some => k_is)
    (case a_law_text => k_is)
    (case l_law_text => k_is)
    (case c_law_text => k_is)
    (case k_law_text => k_is)
    (case a_law_number => k_is)
    (case l_law_number => k_is)
    (case c_law_number => k_is)
    (case k_law_number => k_is)
    (case a_law_rests_due => k_is)
    (case l_law_rests_due => k_is)
    (case c_law_rests_due => k_is)
    (case k_law_rests_due => k_is)
    (case a_law_due => k_is)
    (case l_law_due => k_is)
    (case c_law_due => k_is)
    (case k_law_due => k_is)
    (case a_law_read => k_is)
    (case l_law_read => k_is)
    (case c_law_read => k_is)
    (case k_law_read => k_is)
    (case a_law => k_is)
    (case l_law => k_is)
    (case c_law => k_is)
    (case k_law => k_is)
    (case a_is_integer => k_is)
    (case l_is_integer => k_is)
    (case c_is_integer => k_is)
    (case k_is_integer => k_is)
    (case a_number_of => k_is)
    (case l_number_of => k_is)
    (case c_number_of => k_is)
    (case k_number_of => k_is)
    (case a_all_from => k_is)
    (case l_all_from => k_is)
    (case c_all_from => k_is)
    (case k_all_from => k_is)
    (case a_least_period => k_is)
    (case l_least_period => k_is)
    (case c_least_period => k_is)
    (case k_least_period => k_is)
    (case a_least_form => k_is)
    (case l_least_form => k_is)
    (case c_least_form => k_is)
    (case k_least_form => k_is)
