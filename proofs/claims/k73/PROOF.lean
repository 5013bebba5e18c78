import PyProof.Rows.All
import Wide.All
import OpenK.AllK
import Wide.FinOn
import HandS.ForMost
import HandS.ForExc
import HandS.ExcInit
import HandS.IsInst
import HandS.ExcIs
import PyProof.Rows.NestShow
import HandS.Wide
import HandS.Steps
import HandS.Defaults
import PyProof.ReprLen
import PyProof.FitsInt
import HandS.Property
import HandS.TupMul
import HandS.Star
import HandS.CallSlots
import HandS.Style
import HandS.Walk
import HandS.ExcField
import HandS.DictComp
import HandS.SortInts
import HandS.Records
import PyProof.FactsAll.object_2
import HandS.Text
import HandS.FStr
import HandS.RaiseMore
import KE.KMinKey
import HandS.SortKw
import HandS.Conv
import HandS.ClsMeth
import HandS.CallLocal
import HandS.More
import KE.IntTextLaws
import PySem.Challenge.RW_heldground_k73_words_and_their_texts
section
set_option Elab.async false
set_option linter.all false
set_option maxRecDepth 100000
set_option maxHeartbeats 4000000
/-! Own errors of the package: the base's `__init__` called by the class's name, an error without arguments, an error with one field. -/
namespace L2
namespace Hg
open PySem PySem.Spec PyProof.Rows

/-- the base class at G has ValueError's own `__init__` -/
structure BaseInit (K : PySem.W.Frag) (G : Addr) : Prop where
  sp : PySem.W.specialIn K (.ref G) "__getattribute__" = some (some (.builtin "type.__getattribute__"))
  rd : PySem.W.readsIn K G (.type "type") = true
  fc : PySem.W.findCls K (.ref G) (.type "type") "__init__" = some (.val (.builtin "ValueError.__init__"))

section
variable {X : Cx} {e : Expr} {es : List Expr} {ta : TA} {p p1 p2 pos : Pos} {G C fI : Addr} {g x : Str}
theorem pe_ginit {pl : Sem Bool} (hg : Gl X g) (hm : X.mg g = some (.ref G)) (B : BaseInit X.K G) (ha : PA X (e :: es) ta)
    (hdb : (g == ("__debug__" : Str)) = false := by decide)
    (hc : eval (.Call (.Attribute (.Name g p1) "__init__" p2) (e :: es) [] pos) X.env = (do
      let ov ← eval (.Name g p1) X.env
      standAt p2.atName
      let (f, first) ← holding [ov] (getMethod ov "__init__" pl)
      callWith pos f first (backTo pos (starEach (e :: es) X.env)) (backToKw pos (keywordEach [] X.env))) := by rfl)
    (he : starEach (e :: es) X.env = (false, eval e X.env) :: starEach es X.env := by rfl)
    (hpl : (backTo pos (starEach es X.env)).any (·.1) = false := by rfl) :
    PE X (.Call (.Attribute (.Name g p1) "__init__" p2) (e :: es) [] pos) (tVeI X.K ta) := by
  refine ⟨fun pins s σ H Q I h => ?_⟩
  refine PySem.W.methodCall_KW (ld_glob I hg hm ?_ hdb) hc
  refine PySem.W.method_cls I.kIn B.sp (PySem.W.cls_value I.kIn B.rd B.fc (by decide +kernel) ?_)
  show wpAny _ _ (callWith pos (Value.builtin "ValueError.__init__") [] (backTo pos (starEach (e :: es) X.env)) []) _ _ _
  refine PyProof.Rows.callWith_method1 (thn (ha.run pos pins _ σ H _ (I.tok _) h) fun us s1 hq => ?_) he hpl
  obtain ⟨vs, H1, I1, r1, a, C, ws, ev, hl, T, ea, q⟩ := hq
  subst ev
  cases r1 with
  | @cons _ u0 _ ur ra rr =>
    obtain rfl : u0 = Value.ref a := ra
    have hz : ur.length ≤ sizeLine := by
      rw [← Paired.length rr, sizeLine_eq]; omega
    exact oinit_ok T I1 ea hz fun s' J => ⟨.non, H1, J, rfl, q⟩

/-- C(), the class's own `__init__` stores nothing -/
def tMkN (C : Addr) (sp : Sp) : St → Hp → XK → Prop := fun σ H Q => ∀ a, H a = none →
  sp [.ref a] (upd H a (exo a C none)) (fun v H2 => v = .non ∧ H2 a = some (exo a C none) ∧ Q (.ref C) none (del H2 a)) (fun _ _ _ => False)

theorem upd_del {H : Hp} {a : Addr} {o : HO} (h : H a = none) : del (upd H a o) a = H := by
  funext b
  unfold del
  by_cases hb : b = a
  · subst hb; rw [if_pos rfl, h]
  · rw [if_neg hb, upd_ne hb]

theorem mk_endN {pins : List (Addr × Obj)} {σ : St} {H1 H2 : Hp} {Q : XK} {hp hp2 h2 : Heap} {g1 g2 : Array GenState} {d1 d2 : Drawn} {t1 t2 : Nat} {os1 os2 : OsState} {a : Addr}
    (T : Raises X (.ref C)) (I1 : Inv X pins σ H1 ⟨hp, g1, d1, t1, os1⟩) (ha : hp.objs.size ≤ a)
    (k : ∀ b o, hp.get? b = some o → hp2.get? b = some o)
    (un : Un (frs X.stack) [] (upd H1 a (exo a C none)) H2 hp2 h2) (hok : HOk X.prog X.w H2 h2) (ho : os2 = os1) (hb : AllBare g2)
    (ea : H2 a = some (exo a C none)) (q : Q (.ref C) none (del H2 a)) : MkP X pins σ Q (.ref a) ⟨h2, g2, d2, t2, os2⟩ := by
  obtain ⟨t0, hoe⟩ := exo_at hok ea
  have hn : H1 a = none := I1.hok.fresh ha
  obtain ⟨Gh, gA, gB⟩ := restrict h2 fun b => decide (b ≠ a)
  have gk : ∀ b, b ≠ a → Gh.get? b = h2.get? b := fun b hb => gA b (decide_eq_true hb)
  have ge : Gh.get? a = none := gB a (by simp)
  have nha : ∀ {b : Addr} {o : Obj}, hp.get? b = some o → b ≠ a := fun {b o} z =>
    Nat.ne_of_lt (Nat.lt_of_lt_of_le (Heap.lt_size z) ha)
  have up : ∀ {b : Addr}, b ≠ a → H1 b = none → upd H1 a (exo a C none) b = none := fun {b} hb n => by
    rw [upd_ne hb]; exact n
  have U : Un (frs X.stack) [] H1 (del H2 a) hp Gh :=
    { keep := fun b o z n hf hx => by
        rw [gk b (nha z)]
        exact un.keep b o (k b o z) (up (nha z) n) hf hx
      slot := fun b o z n hf hx => by
        rw [gk b (nha z)]
        exact un.slot b o (k b o z) (up (nha z) n) hf hx
      free := fun b o z n hx => by
        rw [del_ne (nha z)]
        exact un.free b o (k b o z) (up (nha z) n) hx
      there := fun b o z hx => by
        rw [gk b (nha z)]
        exact un.there b o (k b o z) hx
      tups := fun b xs z => by
        rw [del_ne (ne_of_none z hn)]
        exact un.tups b xs ((upd_ne (ne_of_none z hn)).trans z)
      frzs := fun b o v z => by
        rw [del_ne (ne_of_none z hn)]
        exact un.frzs b o v ((upd_ne (ne_of_none z hn)).trans z)
      tbls := fun b ps z => by
        rw [del_ne (ne_of_none z hn)]
        exact un.tbls b ps ((upd_ne (ne_of_none z hn)).trans z) }
  have hok3 : HOk X.prog X.w (del H2 a) Gh := fun b o z => by
    have hba : b ≠ a := fun w => by rw [w, del_same] at z; cases z
    rw [del_ne hba] at z
    have noa : ∀ {c : Addr}, H2 c = some (.own b) → c ≠ a := fun {c} hc => at_ne ea hc exo_own
    refine (hok b o z).stay (fun c v hc y => ?_) (fun c hc => ?_) (fun c xs hc => ?_)
    · have hca : c ≠ a := by
        rcases hc with hc | hc
        · rw [hc]; exact hba
        · exact noa hc
      rw [gk c hca]; exact y
    · rw [del_ne (noa hc)]; exact hc
    · rw [del_ne (at_ne ea hc exo_tup)]; exact hc
  have J : Inv X pins σ (del H2 a) ⟨Gh, g2, d2, t2, os2⟩ := I1.call' (ch := []) ho U hok3 hb fun b z => absurd z (by simp)
  refine ⟨a, _, _, ⟨Gh, g2, d2, t2, os2⟩, _, .ref C, none, rfl, J, fun b o z => ?_, ge, hoe, ⟨rfl, rfl⟩, rfl, rfl, del_same, rfl, hb, T, q⟩
  by_cases hba : b = a
  · rw [hba] at z
    have z' : Gh.get? a = some o := z
    rw [ge] at z'; cases z'
  · exact (gk b hba).symm.trans z

theorem pmk_oexN {CX : CXT} {k : Nat} {fd : FuncData} {ps : List Str} {sp : Sp} (T : OexC X.K C)
    (iC : PySem.W.findIn X.K (.ref C) "__init__" = some (some (.ref fI))) (tI : PySem.W.typeIn X.K (.ref fI) = some (.type "function"))
    (F1 : FnOk X.prog X.w X.K X.mg X.base CX k fI fd ps sp) (hr : Room (k + 1) X.A) (hb : Binds X.K fd ps [])
    (hx : Passes CX X (fun _ _ _ => False)) (hg : Gl X x) (hm : X.mg x = some (.ref C))
    (hdb : (x == ("__debug__" : Str)) = false := by decide) : PMk X (.Call (.Name x p) [] [] pos) (tMkN C sp) := by
  intro pins s σ H Q I h
  obtain ⟨nm, q, N, bs, bm, sn, sub, ab, col, dd, k0, k1, k2, k3, k5, hC, hbm⟩ := T.cls
  refine wpAny_Call_Name_kw (ld_glob I hg hm ?_ hdb)
  refine PySem.W.callWith_K0 I.kIn T.kC ?_
  show wpAny _ _ (call (.ref C) []) _ _ _
  obtain ⟨hp, gs, dr, tk, os⟩ := s
  have hsz : hp.objs.size ≤ hp.objs.size + 1 := Nat.le_succ _
  have hn : H (hp.objs.size + 1) = none := I.hok.fresh hsz
  have hq := h (hp.objs.size + 1) hn
  have kk : ∀ b o, hp.get? b = some o → ((hp.push (PySem.W.kdv_tup [])).push (PySem.HandSPX.excO C hp.objs.size)).get? b = some o :=
    fun b o z => Heap.get?_push_of_some _ (Heap.get?_push_of_some _ z)
  have hget : ((hp.push (PySem.W.kdv_tup [])).push (PySem.HandSPX.excO C hp.objs.size)).get? (hp.objs.size + 1) = some (PySem.HandSPX.excO C hp.objs.size) := by heap_get
  have I2 : Inv X pins σ (upd H (hp.objs.size + 1) (exo (hp.objs.size + 1) C none)) ⟨(hp.push (PySem.W.kdv_tup [])).push (PySem.HandSPX.excO C hp.objs.size), gs, dr, tk, os⟩ :=
    I.laid (t' := tk) (a := hp.objs.size + 1) (o := exo (hp.objs.size + 1) C none) (h' := (hp.push (PySem.W.kdv_tup [])).push (PySem.HandSPX.excO C hp.objs.size)) kk hsz (exo_ok hget)
  have r2 : Vals [V.ref (hp.objs.size + 1)] [Value.ref (hp.objs.size + 1)] := .cons rfl .nil
  have hl : ([Value.ref (hp.objs.size + 1)] ++ []).length = ps.length := by
    have z := r2.length
    rw [F1.len _ _ _ _ hq] at z
    exact z.symm
  refine wpAny_call (PySem.HandSPX.call_own F.excBase_ValueError (fun Y => PySem.HandSPX.refsVE_contains Y bm hbm) (I.kIn _ _ hC) (PySem.W.looks_findIn I.kIn iC) (fun self => PySem.W.bind_fn I.kIn self tI) (Nat.zero_le _)
    (codeAny_mono (F1.run _ X.stack _ _ ⟨[Value.ref (hp.objs.size + 1)], []⟩ [Value.ref (hp.objs.size + 1)] _ _ (fun _ _ _ => False) (hr.make C [] []) (I2.env0.make C [] []) (hb _ [Value.ref (hp.objs.size + 1)] I2.kIn hl) r2 hq) fun r s' hq' => ?_))
  cases r with
  | error er => exact hx pins σ _ _ er s' I2 hq'
  | ok fl =>
    cases fl with
    | ret u =>
      obtain ⟨v, H2, os2, bare2, un2, hok2, rv, ev, ea, q2⟩ := hq'
      subst ev
      obtain ⟨h2, g2, d2, t2, os'⟩ := s'
      exact ⟨rv, mk_endN (raises_own T.exC T.tyC) I hsz kk un2 hok2 os2 bare2 ea q2⟩
    | next => exact False.elim hq'
    | brk => exact False.elim hq'
    | cont => exact False.elim hq'
end

/-! ### promises of the errors' `__init__` -/
/-- no field -/
def spInitN (K : PySem.W.Frag) (C : Addr) : Sp := fun vs H Q _ => ∃ a, vs = [.ref a] ∧ OexC K C ∧ H a = some (exo a C none) ∧ Q .non H
/-- one field f -/
def spInitF (K : PySem.W.Frag) (C : Addr) (f : Str) : Sp := fun vs H Q _ => ∃ a x, vs = [.ref a, x] ∧ OexC K C ∧ PySem.W.findIn K (.ref C) f = some none ∧ H a = some (exo a C none) ∧
  ∀ dx, H dx = none → dx ≠ a → Q .non (upd (upd H dx (exd dx [(f, x)])) a (exo a C (some dx)))
theorem upd_three {H : Hp} {a d : Addr} {o1 o2 o3 o4 : HO} (h : H a = none) (hd : d ≠ a) : upd (del (upd (upd (upd H a o1) d o2) a o3) a) d o4 = upd H d o4 := by
  funext b
  by_cases hb : b = d
  · subst hb; rw [upd_same, upd_same]
  · rw [upd_ne hb, upd_ne hb]
    by_cases hba : b = a
    · subst hba; rw [del_same, h]
    · rw [del_ne hba, upd_ne hba, upd_ne hb, upd_ne hba]
section
variable {K : PySem.W.Frag} {C : Addr} {f : Str} {σ : St} {H : Hp} {Q : XK}
/-- C() read -/
theorem r_mkN (T : OexC K C) (k : Q (.ref C) none H) : tMkN C (spInitN K C) σ H Q := by
  intro a ha
  refine ⟨a, rfl, T, upd_same, rfl, upd_same, ?_⟩
  rw [upd_del ha]
  exact k
/-- C(x) read -/
theorem r_mkF {x : V} {ta : TA} (T : OexC K C) (hf : PySem.W.findIn K (.ref C) f = some none)
    (h : ta σ H fun vs H1 => ∃ x, vs = [x] ∧ ∀ d, H1 d = none → Q (.ref C) (some d) (upd H1 d (.xd [(f, x)])))
    (mono : ∀ {P P' : List V → Hp → Prop}, (∀ vs H, P vs H → P' vs H) → ta σ H P → ta σ H P') : tMkO C (spInitF K C f) [] ta σ H Q := by
  refine mono (fun vs H1 hq => ?_) h
  obtain ⟨x, rfl, q⟩ := hq
  refine ⟨(by show 1 ≤ 1000; decide), fun a ha => ?_⟩
  refine ⟨a, x, rfl, T, hf, upd_same, fun dx hdx ne => ⟨rfl, dx, [(f, x)], upd_same, ?_, ?_, ?_⟩⟩
  · rw [upd_ne ne, upd_same]
  · rw [upd_ne ne] at hdx; exact hdx
  · rw [upd_three ha ne]
    rw [upd_ne ne] at hdx
    exact q dx hdx
end
end Hg
end L2
end

section
set_option Elab.async false
set_option linter.all false
set_option maxRecDepth 100000
set_option maxHeartbeats 4000000
/-! Promises that hold where no repr is under way (guards empty), and repr of data. -/
namespace L2
namespace Hg
open PySem PySem.Spec PyProof.Rows

/-- a def's promise, asked where no guard is set -/
structure FnG (P : Program) (w : World) (K : PySem.W.Frag) (mg : Str → Option Value) (base : Heap) (CX : CXT) (k : Nat) (f : Addr) (fd : FuncData) (ps : List Str) (sp : Sp) : Prop where
  len : ∀ vs H Q E, sp vs H Q E → vs.length = ps.length
  run : ∀ (A : Around) (outer : List Env) (s : Shared) (H : Hp) (args : Args) (us : List Value) (vs : List V) (Q : VK) (E : XK),
    A.guards = some [] → Room k A → Env0 P w K mg base A outer s H → BindsTo s fd args (ps.zip us) → Vals vs us → sp vs H Q E →
    codeAny (model P w) A (.call (.ref f) args) (CR CX outer P w H s Q E) s

section
variable {P : Program} {w : World} {K : PySem.W.Frag} {mg : Str → Option Value} {base : Heap} {CX : CXT} {j k : Nat} {f : Addr} {fd : FuncData} {ps : List Str} {sp : Sp}
theorem _root_.L2.FnOk.g (F : FnOk P w K mg base CX k f fd ps sp) : FnG P w K mg base CX k f fd ps sp :=
  ⟨F.len, fun A outer s H args us vs Q E _ => F.run A outer s H args us vs Q E⟩

theorem fn_ofG {name qual : Str} {params : Arguments} {body : List Stmt} {scope : Scope} {dV kV doc pm cdv ct oc : Value} {an od : Option Addr}
    {osl : Array (Option Value)} {N : List Str} (lk : K.lookup f = some ⟨oc, od, .func (PySem.W.fnOf name qual params body scope dV kV doc pm an cdv ct), osl⟩)
    (hcd : PySem.W.codeIn K cdv qual = true) (S : FnScope N ps scope)
    (len : ∀ vs H Q E, sp vs H Q E → vs.length = ps.length)
    (hbody : ∀ (A : Around) (outer : List Env) (s : Shared) (H : Hp) (vs : List V) (Q : VK) (E : XK), A.guards = some [] →
      Room k (A.deeper (envOfC qual scope s.heap.objs.size f cdv)) → sp vs H Q E →
      ∃ t, PSs (cxOf CX P w K mg base N qual scope f cdv A outer s H E) body t ∧ t { nx := fun _ H' => Q .non H', rt := Q } (start N vs) H) :
    FnG P w K mg base CX (k + 1) f (PySem.W.fnOf name qual params body scope dV kV doc pm an cdv ct) ps sp := by
  constructor
  · exact len
  intro A outer s H args us vs Q E hgd hr e0 hb r hsp
  have hl := len _ _ _ _ hsp
  have old : ∀ b o, base.get? b = some o → s.heap.get? b = some o := fun b o z => (e0.bs b o z).1
  have KX : K.In s.heap := e0.mod.kin.keeps old
  have lim : s.heap.NoLimit := e0.mod.nolimit.keeps old
  have hkind : ∀ y ∈ ps.zip us, scope.names.lookup y.1 = some .local ∨
      (scope.names.lookup y.1 = some .cell ∧ ((cellsFrom (s.heap.objs.size + 1) scope.names []).lookup y.1).isSome = true) := by
    rintro ⟨n, v⟩ hy
    rcases S.par n (List.of_mem_zip hy).1 with q | q
    · exact Or.inl q
    · exact Or.inr ⟨q, PySem.W.cellsFrom_some _ _ _ (.inl q)⟩
  refine codeAny_call_function hr.depth (KX _ _ lk) rfl S.co S.gen rfl (PySem.W.codeRec_of KX hcd) (hb _ _ _ _ ?_)
  refine wpAny_newFunctionEnv_cells S.kind hkind fun env he s1 x => ?_
  subst he
  refine ⟨lim.keeps x.toInCall.keep, codeAny_func ?_⟩
  obtain ⟨t, ht, hq⟩ := hbody A outer s H vs Q E hgd (hr.deeper _) hsp
  have I : Inv (cxOf CX P w K mg base N qual scope f cdv A outer s H E) [] (start N vs) H s1 := inv_start S hr.hd e0 hl r x
  have fin : ∀ {s' : Shared} {σ' : St} {H' : Hp} {v : V} {u : Value}, Inv (cxOf CX P w K mg base N qual scope f cdv A outer s H E) [] σ' H' s' →
      RelV v u → Q v H' → CE outer P w H s Q u s' := fun J rv q => ⟨_, _, J.os, J.bare, J.base, J.hok, rv, q⟩
  refine wpAny_mono (ht.run [] s1 (start N vs) H _ I hq) (fun fl s' hs => ?_) fun e s' hs => hs
  cases fl with
  | ret u =>
    obtain ⟨v, σ', H', J, rv, q⟩ := hs
    exact fin J rv q
  | next =>
    obtain ⟨σ', H', J, q⟩ := hs
    exact fin (v := V.non) (u := Value.none) J rfl q
  | brk =>
    obtain ⟨_, _, _, q⟩ := hs
    cases q
  | cont =>
    obtain ⟨_, _, _, q⟩ := hs
    cases q

/-- a def of the text, by its body; no error leaves it -/
theorem okG {x qual : Str} {st : Stmt} {N : List Str} (F : Fun K x qual st f fd) (S : FnScope N ps (defScope st)) (len : ∀ vs H Q E, sp vs H Q E → vs.length = ps.length)
    (hbody : ∀ (cdv : Value) (A : Around) (outer : List Env) (s : Shared) (H : Hp) (vs : List V) (Q : VK) (E : XK), A.guards = some [] →
      Room k (A.deeper (envOfC qual (defScope st) s.heap.objs.size f cdv)) → sp vs H Q E →
      ∃ t, PSs (cxOf CX0 P w K mg base N qual (defScope st) f cdv A outer s H E).nox (defBody st) t ∧ t { nx := fun _ H' => Q .non H', rt := Q } (start N vs) H) :
    FnG P w K mg base CX0 (k + 1) f fd ps sp := by
  obtain ⟨oc, od, kV, doc, pm, an, cdv, ct, osl, rfl, lk, hcd⟩ := F.ex
  refine fn_ofG lk hcd S len fun A outer s H vs Q E hg hr hsp => ?_
  obtain ⟨t, h, q⟩ := hbody cdv A outer s H vs Q E hg hr hsp
  exact ⟨t, h.nox, q⟩
end

section
variable {X : Cx} {CX : CXT} {k : Nat} {f C : Addr} {fd : FuncData} {ps : List Str} {sp : Sp} {dvs : List V} {ds : List Value} {E : XK} {x m : Str} {p pos apos : Pos} {e o : Expr} {es : List Expr} {ta : TE} {t : TA}
theorem run_fnG {pins : List (Addr × Obj)} {σ : St} {H : Hp} {s : Shared} {Q : VK} {us : List Value} {vs : List V} (F : FnG X.prog X.w X.K X.mg X.base CX k f fd ps sp)
    (hg : X.A.guards = some []) (hr : Room k X.A) (hb : Binds X.K fd ps ds) (hd : Vals dvs ds) (hx : Passes CX X E)
    (I : Inv X pins σ H s) (r : Vals vs us) (h : sp (vs ++ dvs) H Q E) : wpAny (model X.prog X.w) X.A (call (.ref f) us) (EP X pins σ Q) X.xe s := by
  have r2 : Vals (vs ++ dvs) (us ++ ds) := r.append hd
  have hl : (us ++ ds).length = ps.length := by
    rw [← r2.length]
    exact F.len _ _ _ _ h
  have main := F.run X.A X.stack s H ⟨us, []⟩ (us ++ ds) (vs ++ dvs) Q E hg hr I.env0 (hb s us I.kIn hl) r2 h
  refine wpAny_call (codeAny_mono main fun r s' hq => ?_)
  cases r with
  | error er => exact hx pins σ H s er s' I hq
  | ok fl =>
    cases fl with
    | ret u => exact I.after hq
    | next => exact False.elim hq
    | brk => exact False.elim hq
    | cont => exact False.elim hq
theorem pe_callG (F : FnG X.prog X.w X.K X.mg X.base CX k f fd ps sp) (hgd : X.A.guards = some []) (hr : Room k X.A) (hg : Gl X x) (hm : X.mg x = some (.ref f)) (hk : PySem.W.keepIn X.K (.ref f) = true)
    (hb : Binds X.K fd ps ds) (hd : Vals dvs ds) (hx : Passes CX X E) (ha : PA X (e :: es) t) (hdb : (x == ("__debug__" : Str)) = false := by decide)
    (he : starEach (e :: es) X.env = (false, eval e X.env) :: starEach es X.env := by rfl) (hpl : (backTo pos (starEach es X.env)).any (·.1) = false := by rfl) :
    PE X (.Call (.Name x p) (e :: es) [] pos) (tCall sp dvs E t) := by
  refine ⟨fun pins s σ H Q I h => wpAny_Call_Name_kw (ld_glob I hg hm ?_ hdb)⟩
  exact PySem.W.callWith_K (h₀ := X.base) I.ok.mod.kin hk (thn (ha.run pos pins s σ H _ I h) fun us s1 ⟨vs, H1, I1, r, q⟩ => ⟨I1.kIn, run_fnG F hgd hr hb hd hx I1 r q⟩) he hpl
theorem pe_callG0 (F : FnG X.prog X.w X.K X.mg X.base CX k f fd ps sp) (hgd : X.A.guards = some []) (hr : Room k X.A) (hg : Gl X x) (hm : X.mg x = some (.ref f)) (hk : PySem.W.keepIn X.K (.ref f) = true)
    (hb : Binds X.K fd ps ds) (hd : Vals dvs ds) (hx : Passes CX X E) (hdb : (x == ("__debug__" : Str)) = false := by decide) : PE X (.Call (.Name x p) [] [] pos) (tCall sp dvs E tNil) := by
  refine ⟨fun pins s σ H Q I h => wpAny_Call_Name_kw (ld_glob I hg hm ?_ hdb)⟩
  exact PySem.W.callWith_K0 I.kIn hk (run_fnG (us := []) F hgd hr hb hd hx I .nil h)

/-- repr of data -/
def rRepr (K : PySem.W.Frag) : List V → Hp → VK → Prop := fun vs H Q => ∃ x d, vs = [x] ∧ Dp K H x d ∧ d.showable = true ∧ d.hasDict = false ∧ d.depth ≤ 60 ∧ d.shown.length ≤ sizeLine ∧ Q (.str d.shown) H
theorem call_repr (hgd : X.A.guards = some []) (hr : X.A.units + 64 < cLine) : CallR X (.builtin "repr") (rRepr X.K) := by
  intro pins s σ H vs us Q I r h
  obtain ⟨x, d, rfl, hd, hs, hn, hz, hl, q⟩ := h
  obtain ⟨u, rfl, rx⟩ := vals1 r
  obtain ⟨as, rd⟩ := Dp.reads I d x u hd rx
  cases d with
  | none => cases rd; exact PySem.P.repr_of_none ⟨.str _, H, I.tok _, ⟨_, rfl⟩, q⟩
  | bool b => cases rd; exact PySem.P.repr_of_bool ⟨.str _, H, I.tok _, ⟨_, rfl⟩, q⟩
  | int i => cases rd; exact PySem.P.repr_of_int (by simpa [PyData.showable] using hs) ⟨.str _, H, I.tok _, ⟨_, rfl⟩, q⟩
  | str y => cases rd; exact PySem.P.repr_of_str ⟨.str _, H, I.tok _, ⟨_, rfl⟩, q⟩ hl
  | list xs =>
    have hh := hd
    cases hh
    cases (show u = Value.ref _ from rx)
    exact repr_of_reads' rd hs (PyData.noDict_hsm hn) hgd (by omega) (fun _ _ z => z) (fun h' u tk hk => ⟨.str _, H, I.kept (t' := tk) hk, ⟨u, rfl⟩, q⟩) hl
  | tuple xs =>
    have hh := hd
    cases hh
    cases (show u = Value.ref _ from rx)
    exact repr_of_reads' rd hs (PyData.noDict_hsm hn) hgd (by omega) (fun _ _ z => z) (fun h' u tk hk => ⟨.str _, H, I.kept (t' := tk) hk, ⟨u, rfl⟩, q⟩) hl
  | dict _ => cases hn
end
end Hg
end L2
end

section
set_option Elab.async false
set_option linter.all false
set_option maxRecDepth 100000
set_option maxHeartbeats 4000000
/-! One rule an operator, for all the kinds that the package uses; readings in steps. -/
namespace L2
namespace Hg
open PySem PySem.Spec PyProof.Rows

/-! ### operators by values -/
def uAddI : R2 := rI0 fun i j => .int (i + j)
def uAddS : R2 := fun x y H Q => ∃ i j, x = .str i ∧ y = .str j ∧ i.length + j.length ≤ sizeLine ∧ Q (.str (i ++ j)) H
def uAdd (K : PySem.W.Frag) : R2 := fun x y H Q => uAddI x y H Q ∨ uAddS x y H Q ∨ rCat x y H Q ∨ rCatT K x y H Q
def uSub : R2 := rI0 fun i j => .int (i - j)
def uMul : R2 := fun x y H Q => rI CMul (fun i j => .int (i * j)) x y H Q ∨ rI CMulW (fun i j => .int (i * j)) x y H Q ∨ rRep x y H Q
def uDiv : R2 := fun x y H Q => rI CDiv (fun i j => .int (i / j)) x y H Q ∨ rI CDivW (fun i j => .int (i / j)) x y H Q
def uMod : R2 := rI (fun _ j => 0 < j) fun i j => .int (i % j)
def uPow : R2 := rI CPow fun i j => .int (i ^ j.toNat)
def uLt : R2 := rI0 fun i j => .bl (decide (i < j))
def uLe : R2 := rI0 fun i j => .bl (decide (i ≤ j))
def uGt : R2 := rI0 fun i j => .bl (decide (j < i))
def uGe : R2 := rI0 fun i j => .bl (decide (j ≤ i))
def uEq (K : PySem.W.Frag) : R2 := fun x y H Q => rEq x y H Q ∨ rEqD K x y H Q
def uNe (K : PySem.W.Frag) : R2 := fun x y H Q => rNe x y H Q ∨ rNeD K x y H Q
def uIn (K : PySem.W.Frag) : R2 := fun x y H Q => rIn K false x y H Q ∨ rInS x y H Q
def uNotIn (K : PySem.W.Frag) : R2 := fun x y H Q => rIn K true x y H Q ∨ rNotInS x y H Q
section
variable {X : Cx}
theorem o_add (K : PySem.W.Frag) (hK : X.K = K := by rfl) : OpR X (binaryOp .Add) (uAdd K) := hK ▸ OpR.or op_add (OpR.or op_add_str (OpR.or op_cat op_catT))
theorem o_sub : OpR X (binaryOp .Sub) uSub := op_sub
theorem o_mul : OpR X (binaryOp .Mult) uMul := OpR.or op_mul (OpR.or op_mulW op_rep)
theorem o_div : OpR X (binaryOp .FloorDiv) uDiv := OpR.or op_fdiv op_fdivW
theorem o_mod : OpR X (binaryOp .Mod) uMod := op_mod
theorem o_pow : OpR X (binaryOp .Pow) uPow := op_pow
theorem o_lt : OpR X (compareOp .Lt) uLt := op_lt
theorem o_le : OpR X (compareOp .LtE) uLe := op_le
theorem o_gt : OpR X (compareOp .Gt) uGt := op_gt
theorem o_ge : OpR X (compareOp .GtE) uGe := op_ge
theorem o_eq (K : PySem.W.Frag) (hu : X.A.units + 64 < cLine) (hK : X.K = K := by rfl) : OpR X (compareOp .Eq) (uEq K) := hK ▸ OpR.or op_eq (op_eqD hu)
theorem o_ne (K : PySem.W.Frag) (hu : X.A.units + 64 < cLine) (hK : X.K = K := by rfl) : OpR X (compareOp .NotEq) (uNe K) := hK ▸ OpR.or op_ne (op_neD hu)
theorem o_in (K : PySem.W.Frag) (hK : X.K = K := by rfl) : OpR X (compareOp .In) (uIn K) := hK ▸ OpR.or op_in_seq op_inS
theorem o_notIn (K : PySem.W.Frag) (hK : X.K = K := by rfl) : OpR X (compareOp .NotIn) (uNotIn K) := hK ▸ OpR.or op_notIn_seq op_notInS
theorem o_is : OpR X (compareOp .Is) rIsN := op_isN1
theorem o_isNot : OpR X (compareOp .IsNot) rNotN := op_notN1
theorem ix_u (K : PySem.W.Frag) (hK : X.K = K := by rfl) : IxR X (rIx K) := hK ▸ ix_seq
end

/-! ### calls of built-ins by values -/
def uLen (K : PySem.W.Frag) : List V → Hp → VK → Prop := fun xs H Q => (∃ x n, xs = [x] ∧ LenV K x H n ∧ Q (.int n) H) ∨ ∃ a kvs, xs = [V.ref a] ∧ H a = some (.dK kvs) ∧ Q (.int kvs.length) H
def uAbs : List V → Hp → VK → Prop := fun xs H Q => ∃ i, xs = [.int i] ∧ Q (.int (if i < 0 then -i else i)) H
def uMin2 : List V → Hp → VK → Prop := fun xs H Q => ∃ i j, xs = [.int i, .int j] ∧ Q (.int (if j < i then j else i)) H
def uMax2 : List V → Hp → VK → Prop := fun xs H Q => ∃ i j, xs = [.int i, .int j] ∧ Q (.int (if j > i then j else i)) H
def uInt : List V → Hp → VK → Prop := fun xs H Q => ((∃ i, xs = [.int i] ∧ Q (.int i) H) ∨ ∃ k, xs = [.bl k] ∧ Q (.int (if k then 1 else 0)) H) ∨ ∃ a n, xs = [.str a] ∧ PySem.intText? a = some n ∧ a.length ≤ 640 ∧ Q (.int n) H
def uList (K : PySem.W.Frag) : List V → Hp → VK → Prop := fun xs H Q => ∃ p ys, xs = [.ref p] ∧ (SqL K H p ys ∨ SqT K H p ys) ∧ ∀ l, H l = none → Q (.ref l) (upd H l (.lst ys))
def uTuple (K : PySem.W.Frag) : List V → Hp → VK → Prop := fun xs H Q => ∃ p ys, xs = [.ref p] ∧ ((SqL K H p ys ∧ ∀ l, H l = none → Q (.ref l) (upd H l (.tup ys))) ∨ (SqT K H p ys ∧ Q (.ref p) H))
section
variable {X : Cx}
theorem c_len (K : PySem.W.Frag) (hK : X.K = K := by rfl) : CallR X (.builtin "len") (uLen K) := hK ▸ CallR.or call_len call_lenD
theorem c_abs : CallR X (.builtin "abs") uAbs := call_abs
theorem c_min2 (hc : X.calm = true) : CallR X (.builtin "min") uMin2 := call_min2 hc
theorem c_max2 (hc : X.calm = true) : CallR X (.builtin "max") uMax2 := call_max2 hc
theorem c_int : CallR X (.type "int") uInt := CallR.or call_int1 call_int_str
theorem c_list (K : PySem.W.Frag) (hK : X.K = K := by rfl) : CallR X (.type "list") (uList K) := hK ▸ call_list_of
theorem c_tuple (K : PySem.W.Frag) (hK : X.K = K := by rfl) : CallR X (.type "tuple") (uTuple K) := hK ▸ call_tuple_of
theorem c_isi (K : PySem.W.Frag) (hK : X.K = K := by rfl) : CallR X (.builtin "isinstance") (rIsi K) := hK ▸ call_isi
theorem c_isiT (K : PySem.W.Frag) (hK : X.K = K := by rfl) : CallR X (.builtin "isinstance") (rIsiT K) := hK ▸ call_isiT
theorem c_repr (K : PySem.W.Frag) (hgd : X.A.guards = some []) (hr : X.A.units + 64 < cLine) (hK : X.K = K := by rfl) : CallR X (.builtin "repr") (rRepr K) := hK ▸ call_repr hgd hr
theorem c_sum (K : PySem.W.Frag) (hc : X.calm = true) (hK : X.K = K := by rfl) : CallR X (.builtin "sum") (rSum K) := hK ▸ cr_sum hc
theorem c_all (K : PySem.W.Frag) (hc : X.calm = true) (hK : X.K = K := by rfl) : CallR X (.builtin "all") (rAll K) := hK ▸ cr_all hc
theorem c_any (K : PySem.W.Frag) (hc : X.calm = true) (hK : X.K = K := by rfl) : CallR X (.builtin "any") (rAny K) := hK ▸ cr_any hc
end

/-! ### names of the module -/
section
variable {X : Cx} {x : Str} {pos : Pos}
theorem pe_gI {i : Int} (hg : Gl X x) (hm : ∃ t, X.mg x = some (.int i t)) (hd : (x == ("__debug__" : Str)) = false := by decide) : PE X (.Name x pos) (tC (.int i)) :=
  let ⟨_, h⟩ := hm
  pe_glob hg h ⟨_, rfl⟩ hd
theorem pe_gS {z : Str} (hg : Gl X x) (hm : ∃ t, X.mg x = some (.str z t)) (hd : (x == ("__debug__" : Str)) = false := by decide) : PE X (.Name x pos) (tC (.str z)) :=
  let ⟨_, h⟩ := hm
  pe_glob hg h ⟨_, rfl⟩ hd
theorem pe_gR {a : Addr} (hg : Gl X x) (hm : X.mg x = some (.ref a)) (hd : (x == ("__debug__" : Str)) = false := by decide) : PE X (.Name x pos) (tC (.ref a)) :=
  pe_glob hg hm rfl hd
theorem pe_bT {T : String} (hg : Gl X x) (hm : X.mg x = none) (hv : bootBuiltins x = some (.type T)) (hn : x ≠ "__name__" := by decide) (hd : (x == ("__debug__" : Str)) = false := by decide) : PE X (.Name x pos) (tC (.ty T)) :=
  pe_bltn hg hm hv rfl hn hd
end

/-! ### the written part by its name -/
section
variable {X : Cx} {a : Expr} {ta : TE} {K : PySem.W.Frag}
def tTr (K : PySem.W.Frag) (ta : TE) : TT := fun σ H Q => ta σ H fun x H' => ∃ k, TruV K x H' k ∧ Q k H'
theorem pt_tr (K : PySem.W.Frag) (ha : PE X a ta) (he : ∀ whole, isTrue a X.env whole = (do let v ← whole; standAt a.pos; holding [v] (truthy v)) := by intro _; rfl) (hK : X.K = K := by rfl) :
    PT X a (tTr K ta) := hK ▸ pt_truth ha he
theorem pe_fl {e : Expr} {f : Str} {pos : Pos} (K : PySem.W.Frag) (ha : PE X e ta) (hb : attributeBase e f X.env (eval e X.env) = eval e X.env := by rfl) (hK : X.K = K := by rfl) : PE X (.Attribute e f pos) (tFld K ta f) := hK ▸ pe_fld ha hb
theorem ps_fl {o value : Expr} {f : Str} {pos' pos : Pos} {tv : TE} (K : PySem.W.Frag) (ho : PE X o ta) (hv : PE X value tv) (hs : swapsWith value (some (.Attribute o f pos')) pos.line X.env = pure false := by rfl) (hK : X.K = K := by rfl) :
    PS X (.Assign [.Attribute o f pos'] value pos) (sFld K ta tv f) := hK ▸ ps_fld ho hv hs
end

section
variable {X : Cx} {tg e : Expr} {t : TE}
theorem pi_l (K : PySem.W.Frag) (ha : PE X e t) (hK : X.K = K := by rfl) : PI X tg e (iList K t) := hK ▸ pi_list ha
theorem pg_l {es : List Expr} {k n : Nat} {t : TGs} {pos : Pos} (K : PySem.W.Frag) (hc : X.calm = true) (h : PGs X es t) (hn : (assignEach es X.env).length = n := by rfl) (hst : (assignEach es X.env).findIdx? (·.1) = none := by rfl) (hK : X.K = K := by rfl) :
    PG X (.Tuple es k pos) (gLst K n t) := hK ▸ pg_lst hc h hn hst
theorem pg_t {es : List Expr} {k n : Nat} {t : TGs} {pos : Pos} (K : PySem.W.Frag) (hc : X.calm = true) (h : PGs X es t) (hn : (assignEach es X.env).length = n := by rfl) (hst : (assignEach es X.env).findIdx? (·.1) = none := by rfl) (hK : X.K = K := by rfl) :
    PG X (.Tuple es k pos) (gTup K n t) := hK ▸ pg_tup hc h hn hst
theorem pi_t (K : PySem.W.Frag) (ha : PE X e t) (hK : X.K = K := by rfl) : PI X tg e (iTup K t) := hK ▸ pi_tup ha
end
/-! ### errors that pass -/
section
variable {X : Cx}
theorem passF {P : Program} {w : World} : Passes (L2.CX P w) X E0 := by
  intro pins σ H s e s' I c
  obtain ⟨a, B, H', cls, d, _, _, _, _, _, _, _, h⟩ := c
  exact h.elim
theorem passT {E : XK} (tk : Takes X (fun cls d _ H => E cls d H)) : Passes (L2.CX X.prog X.w) X E := passes_call tk fun _ _ _ _ z => z
variable {CX : CXT} {k : Nat} {f C : Addr} {fd : FuncData} {ps : List Str} {sp : Sp} {dvs : List V} {ds : List Value} {E : St → XK} {x m : Str} {p pos apos : Pos} {e o : Expr} {es : List Expr} {ta : TE} {t : TA}
/-- C(..) where what is raised is wished at the slots -/
def tMakeS (C : Addr) (sp : Sp) (dvs : List V) (E : St → XK) (t : TA) : TE := fun σ H Q => t σ H fun vs H1 => ∀ x dx, H1 x = none → H1 dx = none → dx ≠ x →
  sp (.ref x :: (vs ++ dvs)) (upd (upd H1 dx (.own x)) x (.ins C dx [])) (fun v H2 => v = .non ∧ Q (.ref x) H2) (E σ)
theorem run_makeS {pins : List (Addr × Obj)} {σ : St} {H : Hp} {s : Shared} {Q : VK} {us : List Value} {vs : List V} (M : Mk X.K C f) (F : FnOk X.prog X.w X.K X.mg X.base CX k f fd ps sp) (hr : Room (k + 1) X.A)
    (hb : Binds X.K fd ps ds) (hd : Vals dvs ds) (hx : PassesAt CX X σ (E σ)) (I : Inv X pins σ H s) (r : Vals vs us)
    (h : ∀ x dx, H x = none → H dx = none → dx ≠ x → sp (.ref x :: (vs ++ dvs)) (upd (upd H dx (.own x)) x (.ins C dx [])) (fun v H2 => v = .non ∧ Q (.ref x) H2) (E σ)) :
    wpAny (model X.prog X.w) X.A (call (.ref C) us) (EP X pins σ Q) X.xe s := by
  have hq := h (s.heap.objs.size + 1) s.heap.objs.size (I.hok.fresh (Nat.le_succ _)) (I.hok.fresh (Nat.le_refl _)) (Nat.ne_of_lt (Nat.lt_succ_self _))
  have I2 := Inv.made (C := C) I
  have r2 : Vals (V.ref (s.heap.objs.size + 1) :: (vs ++ dvs)) (Value.ref (s.heap.objs.size + 1) :: (us ++ ds)) := .cons rfl (r.append hd)
  have hl : (Value.ref (s.heap.objs.size + 1) :: us ++ ds).length = ps.length := by
    have z := r2.length
    rw [F.len _ _ _ _ hq] at z
    exact z.symm
  have main := F.run _ X.stack _ _ ⟨Value.ref (s.heap.objs.size + 1) :: us, []⟩ (Value.ref (s.heap.objs.size + 1) :: (us ++ ds)) _ _ (E σ) (hr.make C us [])
    (I2.env0.make C us []) (hb _ (Value.ref (s.heap.objs.size + 1) :: us) I2.kIn hl) r2 hq
  refine wpAny_call (make_map (f := f) I.kIn M.makes M.init (beq_iff_eq.mp M.fn) (codeAny_mono main fun r s' hq' => ?_))
  cases r with
  | error er => exact hx pins _ _ er s' I2 hq'
  | ok fl =>
    cases fl with
    | ret u =>
      obtain ⟨v, H', I3, rv, ev, q3⟩ := I2.after hq'
      subst ev
      exact ⟨rv, ⟨V.ref (s.heap.objs.size + 1), H', I3, rfl, q3⟩⟩
    | next => exact False.elim hq'
    | brk => exact False.elim hq'
    | cont => exact False.elim hq'
theorem pe_makeS (M : Mk X.K C f) (F : FnOk X.prog X.w X.K X.mg X.base CX k f fd ps sp) (hr : Room (k + 1) X.A) (hg : Gl X x) (hm : X.mg x = some (.ref C)) (hb : Binds X.K fd ps ds) (hd : Vals dvs ds) (hx : ∀ σ, PassesAt CX X σ (E σ))
    (ha : PA X (e :: es) t) (hdb : (x == ("__debug__" : Str)) = false := by decide) (he : starEach (e :: es) X.env = (false, eval e X.env) :: starEach es X.env := by rfl) (hpl : (backTo pos (starEach es X.env)).any (·.1) = false := by rfl) :
    PE X (.Call (.Name x p) (e :: es) [] pos) (tMakeS C sp dvs E t) := by
  refine ⟨fun pins s σ H Q I h => wpAny_Call_Name_kw (ld_glob I hg hm ?_ hdb)⟩
  exact PySem.W.callWith_K (h₀ := X.base) I.ok.mod.kin M.kp (thn (ha.run pos pins s σ H _ I h) fun us s1 ⟨vs, H1, I1, r, q⟩ => ⟨I1.kIn, run_makeS M F hr hb hd (hx σ) I1 r q⟩) he hpl
end
end Hg
end L2
end

section
set_option Elab.async false
set_option linter.all false
set_option maxRecDepth 100000
set_option maxHeartbeats 4000000
/-! Readings, one step each (each is a reading's own definition, turned into a rule to be applied backwards). -/
namespace L2
namespace Hg
open PySem PySem.Spec PyProof.Rows
section
variable {K : PySem.W.Frag} {σ : St} {H : Hp} {Q : VK} {QB : Bool → Hp → Prop} {QL : List V → Hp → Prop} {QS : St → Hp → Prop} {D : Ends} {v x y : V} {i j : Nat} {ta tb tc te : TE} {t u : TT} {tl tr : TA} {ts t1 t2 : TS}
theorem sz {n : Nat} (h : n ≤ 100000) : n ≤ sizeLine := Nat.le_trans h (by decide)
theorem szl {n : Nat} (h : Nat.ble n 100000 = true) : n ≤ sizeLine := sz (Nat.le_of_ble_eq_true h)
theorem szlt {n : Nat} (h : Nat.ble n 100000 = true) : n < sizeLine := Nat.lt_of_le_of_lt (Nat.le_of_ble_eq_true h) (by decide : 100000 < sizeLine)
theorem at_upd {p q : Addr} {o u : HO} (n : q ≠ p) (h : H q = some o) : upd H p u q = some o := (upd_ne n).trans h
theorem free_upd {p q : Addr} {o : HO} (h : upd H p o q = none) : H q = none ∧ q ≠ p := by
  by_cases e : q = p
  · subst e; rw [upd_same] at h; cases h
  · exact ⟨(upd_ne e).symm.trans h, e⟩
/-! ### expressions -/
theorem r_var (h : σ[i]? = some (some v)) (k : Q v H) : tVar i σ H Q := ⟨v, h, k⟩
theorem r_c (k : Q v H) : tC v σ H Q := k
theorem r_op {r : R2} (k : ta σ H fun x H1 => tb σ H1 fun y H2 => r x y H2 Q) : tOp r ta tb σ H Q := k
theorem r_un {r : V → Hp → VK → Prop} (k : ta σ H fun x H1 => r x H1 Q) : tUn r ta σ H Q := k
theorem r_neg {a : Int} (k : Q (.int (-a)) H) : (rU fun i => .int (-i)) (.int a) H Q := ⟨a, rfl, k⟩
theorem r_cb {r : List V → Hp → VK → Prop} (k : tl σ H fun vs H1 => r vs H1 Q) : tCB r tl σ H Q := k
theorem r_nil (k : QL [] H) : tNil σ H QL := k
theorem r_cons (k : ta σ H fun x H1 => tr σ H1 fun xs H2 => QL (x :: xs) H2) : tCons ta tr σ H QL := k
theorem r_call {sp : Sp} {dvs : List V} {E : XK} (k : tl σ H fun vs H1 => sp (vs ++ dvs) H1 Q E) : tCall sp dvs E tl σ H Q := k
theorem r_callS {sp : Sp} {E : St → XK} (k : tl σ H fun vs H1 => sp vs H1 Q (E σ)) : tCallS sp E tl σ H Q := k
theorem r_tup (k : tl σ H fun xs H1 => xs.length ≤ sizeLine ∧ ∀ p, H1 p = none → Q (.ref p) (upd H1 p (.tup xs))) : tTup tl σ H Q := k
theorem r_lst (k : tl σ H fun xs H1 => xs.length ≤ sizeLine ∧ ∀ p, H1 p = none → Q (.ref p) (upd H1 p (.lst xs))) : tLst tl σ H Q := k
theorem r_if (k : t σ H fun c H1 => if c = true then ta σ H1 Q else tb σ H1 Q) : tIf t ta tb σ H Q := k
theorem r_test (k : te σ H fun x H' => ∃ c, x = .bl c ∧ QB c H') : tTest te σ H QB := k
theorem r_B (k : te σ H fun x H' => ∃ c, x = .bl c ∧ QB c H') : tB te σ H QB := k
theorem r_bl {b : Bool} {R : Bool → Prop} (k : R b) : ∃ c, V.bl b = .bl c ∧ R c := ⟨b, rfl, k⟩
theorem r_tru {b : Bool} {R : Bool → Prop} (k : R b) : ∃ c, TruV K (.bl b) H c ∧ R c := ⟨b, rfl, k⟩
theorem r_trK (k : te σ H fun x H' => ∃ c, TruV K x H' c ∧ QB c H') : tTr K te σ H QB := k
theorem r_and (k : t σ H fun c H1 => if c = true then u σ H1 QB else QB false H1) : tAnd t u σ H QB := k
theorem r_or (k : t σ H fun c H1 => if c = true then QB true H1 else u σ H1 QB) : tOr t u σ H QB := k
theorem r_not (k : t σ H fun c H1 => QB (!c) H1) : tNot t σ H QB := k
theorem r_andV (k : ta σ H fun x H1 => ∃ c, x = .bl c ∧ if c = true then tb σ H1 Q else Q (.bl false) H1) : tAndV ta tb σ H Q := k
theorem r_orV (k : ta σ H fun x H1 => ∃ c, x = .bl c ∧ if c = true then Q (.bl true) H1 else tb σ H1 Q) : tOrV ta tb σ H Q := k
theorem r_notV (k : ta σ H fun x H1 => ∃ c, x = .bl c ∧ Q (.bl (!c)) H1) : tNotV ta σ H Q := k
theorem r_chain {r r' : R2} (k : ta σ H fun x H1 => tb σ H1 fun y H2 => r x y H2 fun z H3 => ∃ c, z = .bl c ∧ (if c = true then tc σ H3 fun w H4 => r' y w H4 Q else Q (.bl false) H3)) : tChain r r' ta tb tc σ H Q := k
theorem r_ite {c : Bool} {A B : Prop} (h1 : c = true → A) (h2 : c = false → B) : if c = true then A else B := by
  cases c with
  | true => exact h1 rfl
  | false => exact h2 rfl
theorem r_T {A B : Prop} (h : A) : if true = true then A else B := h
theorem r_F {A B : Prop} (h : B) : if false = true then A else B := h
theorem r_nT {A B : Prop} (h : A) : if (!false) = true then A else B := h
theorem r_nF {A B : Prop} (h : B) : if (!true) = true then A else B := h
theorem r_Td {c : Prop} [Decidable c] {A B : Prop} (hc : c) (h : A) : if decide c = true then A else B := by rw [decide_eq_true hc]; exact h
theorem r_Fd {c : Prop} [Decidable c] {A B : Prop} (hc : ¬ c) (h : B) : if decide c = true then A else B := by rw [decide_eq_false hc]; exact h
theorem r_id {c : Prop} [Decidable c] {A B : Prop} (h1 : c → A) (h2 : ¬ c → B) : if decide c = true then A else B := by
  by_cases h : c
  · exact r_Td h (h1 h)
  · exact r_Fd h (h2 h)
/-! ### operators by values -/
theorem r_I0 {g : Int → Int → V} {a b : Int} (k : Q (g a b) H) : rI0 g (.int a) (.int b) H Q := ⟨a, b, rfl, rfl, k⟩
theorem r_I {C : Int → Int → Prop} {g : Int → Int → V} {a b : Int} (c : C a b) (k : Q (g a b) H) : rI C g (.int a) (.int b) H Q := ⟨a, b, rfl, rfl, c, k⟩
theorem r_addI {a b : Int} (k : Q (.int (a + b)) H) : uAdd K (.int a) (.int b) H Q := .inl ⟨a, b, rfl, rfl, k⟩
theorem r_addS {a b : Str} (z : a.length + b.length ≤ sizeLine) (k : Q (.str (a ++ b)) H) : uAdd K (.str a) (.str b) H Q := .inr (.inl ⟨a, b, rfl, rfl, z, k⟩)
theorem r_addL {a b : Addr} {xs ys : List V} (ha : H a = some (.lst xs)) (hb : H b = some (.lst ys)) (z : xs.length + ys.length ≤ sizeLine) (k : ∀ p, H p = none → Q (.ref p) (upd H p (.lst (xs ++ ys)))) : uAdd K (.ref a) (.ref b) H Q :=
  .inr (.inr (.inl ⟨a, b, xs, ys, rfl, rfl, ha, hb, z, k⟩))
theorem r_addT {a b : Addr} {xs ys : List V} (ha : SqT K H a xs) (hb : SqT K H b ys) (ne : xs ≠ []) (z : xs.length + ys.length ≤ sizeLine) (k0 : ys = [] → Q (.ref a) H) (k : ys ≠ [] → ∀ p, H p = none → Q (.ref p) (upd H p (.tup (xs ++ ys)))) : uAdd K (.ref a) (.ref b) H Q :=
  .inr (.inr (.inr ⟨a, b, xs, ys, rfl, rfl, ha, hb, ne, z, k0, k⟩))
theorem r_sub {a b : Int} (k : Q (.int (a - b)) H) : uSub (.int a) (.int b) H Q := ⟨a, b, rfl, rfl, k⟩
theorem r_mul {a b : Int} (c : CMul a b) (k : Q (.int (a * b)) H) : uMul (.int a) (.int b) H Q := .inl ⟨a, b, rfl, rfl, c, k⟩
theorem r_mulW {a b : Int} (c : CMulW a b) (k : Q (.int (a * b)) H) : uMul (.int a) (.int b) H Q := .inr (.inl ⟨a, b, rfl, rfl, c, k⟩)
theorem r_rep {a : Addr} {n : Int} {xs : List V} (ha : H a = some (.lst xs)) (h0 : -(2 ^ 63) ≤ n) (h1 : n < 2 ^ 63) (z : xs.length * n.toNat ≤ sizeLine) (k : ∀ p, H p = none → Q (.ref p) (upd H p (.lst (List.replicate n.toNat xs).flatten))) : uMul (.ref a) (.int n) H Q :=
  .inr (.inr ⟨a, n, xs, rfl, rfl, ha, h0, h1, z, k⟩)
theorem cmulL {a b : Int} (h : -(2 ^ 64) < a ∧ a < 2 ^ 64) : CMul a b := .inl h
theorem cmulR {a b : Int} (h : -(2 ^ 64) < b ∧ b < 2 ^ 64) : CMul a b := .inr h
theorem r_div {a b : Int} (h0 : 0 < b) (h1 : b < 1073741824) (k : Q (.int (a / b)) H) : uDiv (.int a) (.int b) H Q := .inl ⟨a, b, rfl, rfl, ⟨h0, h1⟩, k⟩
theorem r_divW {a b : Int} (c : CDivW a b) (k : Q (.int (a / b)) H) : uDiv (.int a) (.int b) H Q := .inr ⟨a, b, rfl, rfl, c, k⟩
theorem r_mod {a b : Int} (h0 : 0 < b) (k : Q (.int (a % b)) H) : uMod (.int a) (.int b) H Q := ⟨a, b, rfl, rfl, h0, k⟩
theorem r_pow {a b : Int} (c : CPow a b) (k : Q (.int (a ^ b.toNat)) H) : uPow (.int a) (.int b) H Q := ⟨a, b, rfl, rfl, c, k⟩
theorem r_lt {a b : Int} (k : Q (.bl (decide (a < b))) H) : uLt (.int a) (.int b) H Q := ⟨a, b, rfl, rfl, k⟩
theorem r_le {a b : Int} (k : Q (.bl (decide (a ≤ b))) H) : uLe (.int a) (.int b) H Q := ⟨a, b, rfl, rfl, k⟩
theorem r_gt {a b : Int} (k : Q (.bl (decide (b < a))) H) : uGt (.int a) (.int b) H Q := ⟨a, b, rfl, rfl, k⟩
theorem r_ge {a b : Int} (k : Q (.bl (decide (b ≤ a))) H) : uGe (.int a) (.int b) H Q := ⟨a, b, rfl, rfl, k⟩
theorem r_eq (s : scal x y = true) (k : Q (.bl (decide (x = y))) H) : uEq K x y H Q := .inl ⟨s, k⟩
theorem r_eqD {d e : PyData} (hd : Dp K H x d) (he : Dp K H y e) (sd : SeqAt.shaped d = true) (se : SeqAt.shaped e = true) (k : Q (.bl (PyData.eqv d e)) H) : uEq K x y H Q := .inr ⟨d, e, hd, he, sd, se, k⟩
theorem r_ne (s : scal x y = true) (k : Q (.bl (!decide (x = y))) H) : uNe K x y H Q := .inl ⟨s, k⟩
theorem r_neD {d e : PyData} (hd : Dp K H x d) (he : Dp K H y e) (sd : SeqAt.shaped d = true) (se : SeqAt.shaped e = true) (k : Q (.bl (!PyData.eqv d e)) H) : uNe K x y H Q := .inr ⟨d, e, hd, he, sd, se, k⟩
theorem r_isN (k : Q (.bl (decide (x = .non))) H) : rIsN x .non H Q := ⟨rfl, k⟩
theorem r_notN (k : Q (.bl (!decide (x = .non))) H) : rNotN x .non H Q := ⟨rfl, k⟩
theorem r_inQ {p : Addr} {xs : List V} (h : SqL K H p xs ∨ SqT K H p xs) (fx : flatV x = true) (fs : xs.all flatV = true) (k : Q (.bl (inV x xs)) H) : uIn K x (.ref p) H Q := .inl ⟨p, xs, rfl, h, fx, fs, k⟩
theorem r_inS {c : Nat} {z : Str} (k : Q (.bl (decide (c ∈ z.cps.toList))) H) : uIn K (.str ⟨#[c]⟩) (.str z) H Q := .inr ⟨c, z, rfl, rfl, k⟩
theorem r_ninQ {p : Addr} {xs : List V} (h : SqL K H p xs ∨ SqT K H p xs) (fx : flatV x = true) (fs : xs.all flatV = true) (k : Q (.bl (!inV x xs)) H) : uNotIn K x (.ref p) H Q := .inl ⟨p, xs, rfl, h, fx, fs, k⟩
/-- xs[i] of a list that stands in H (ixL), of any list or tuple that may be read -/
theorem r_ixL {p : Addr} {n : Int} {xs : List V} (h : SqL K H p xs) (ha : atI xs n = some v) (k : Q v H) : rIx K (.ref p) (.int n) H Q := .inl ⟨p, xs, n, v, rfl, rfl, h, ha, k⟩
theorem r_ixT {p : Addr} {n : Int} {xs : List V} (h : SqT K H p xs) (ha : atI xs n = some v) (k : Q v H) : rIx K (.ref p) (.int n) H Q := .inr (.inl ⟨p, xs, n, v, rfl, rfl, h, ha, k⟩)
theorem r_ixS {z : Str} {n : Int} {c : Nat} (h : z.length ≤ sizeLine) (ha : atI z.cps.toList n = some c) (k : Q (.str ⟨#[c]⟩) H) : rIx K (.str z) (.int n) H Q := .inr (.inr ⟨z, n, c, rfl, rfl, h, ha, k⟩)
/-! ### built-ins by values -/
theorem r_lenL {p : Addr} {xs : List V} (h : SqL K H p xs) (k : Q (.int (xs.length : Nat)) H) : uLen K [.ref p] H Q := .inl ⟨_, _, rfl, .inl ⟨xs, h, rfl⟩, k⟩
theorem r_lenT {p : Addr} {xs : List V} (h : SqT K H p xs) (k : Q (.int (xs.length : Nat)) H) : uLen K [.ref p] H Q := .inl ⟨_, _, rfl, .inr ⟨xs, h, rfl⟩, k⟩
theorem r_lenS {z : Str} (h : z.length ≤ sizeLine) (k : Q (.int (z.length : Nat)) H) : uLen K [.str z] H Q := .inl ⟨_, _, rfl, ⟨h, rfl⟩, k⟩
theorem r_lenD {p : Addr} {kvs : List (Key × V)} (h : H p = some (.dK kvs)) (k : Q (.int (kvs.length : Nat)) H) : uLen K [.ref p] H Q := .inr ⟨p, kvs, rfl, h, k⟩
theorem r_abs {a : Int} (k : Q (.int (if a < 0 then -a else a)) H) : uAbs [.int a] H Q := ⟨a, rfl, k⟩
theorem r_min2 {a b : Int} (k : Q (.int (if b < a then b else a)) H) : uMin2 [.int a, .int b] H Q := ⟨a, b, rfl, k⟩
theorem r_max2 {a b : Int} (k : Q (.int (if b > a then b else a)) H) : uMax2 [.int a, .int b] H Q := ⟨a, b, rfl, k⟩
theorem r_intI {a : Int} (k : Q (.int a) H) : uInt [.int a] H Q := .inl (.inl ⟨a, rfl, k⟩)
theorem r_intB {b : Bool} (k : Q (.int (if b then 1 else 0)) H) : uInt [.bl b] H Q := .inl (.inr ⟨b, rfl, k⟩)
theorem r_list {p : Addr} {xs : List V} (h : SqL K H p xs ∨ SqT K H p xs) (k : ∀ l, H l = none → Q (.ref l) (upd H l (.lst xs))) : uList K [.ref p] H Q := ⟨p, xs, rfl, h, k⟩
theorem r_tupL {p : Addr} {xs : List V} (h : SqL K H p xs) (k : ∀ l, H l = none → Q (.ref l) (upd H l (.tup xs))) : uTuple K [.ref p] H Q := ⟨p, xs, rfl, .inl ⟨h, k⟩⟩
theorem r_tupT {p : Addr} {xs : List V} (h : SqT K H p xs) (k : Q (.ref p) H) : uTuple K [.ref p] H Q := ⟨p, xs, rfl, .inr ⟨h, k⟩⟩
theorem r_isi {c : V} {t u : Value} {b : Bool} (hc : ClsV c u) (ht : TyX K H x t) (hk : PySem.W.kitOne K t u = some b) (k : Q (.bl b) H) : rIsi K [x, c] H Q := ⟨x, c, t, u, b, rfl, hc, ht, hk, k⟩
theorem r_repr {d : PyData} (hd : Dp K H x d) (hs : d.showable = true) (hn : d.hasDict = false) (hz : d.depth ≤ 60) (hl : d.shown.length ≤ sizeLine) (k : Q (.str d.shown) H) : rRepr K [x] H Q := ⟨x, d, rfl, hd, hs, hn, hz, hl, k⟩
/-! ### statements -/
theorem r_seq (k : t1 { D with nx := t2 D } σ H) : tSeq t1 t2 D σ H := k
theorem r_next (k : D.nx σ H) : tNext D σ H := k
theorem r_asg {g : TG} (k : te σ H fun x H1 => g x σ H1 D.nx) : tAsg te g D σ H := k
theorem r_gName (k : QS (σ.set i (some v)) H) : gName i v σ H QS := k
theorem r_gSub {to ti : TE} {s : TSet} (k : to σ H fun o H1 => ti σ H1 fun i H2 => s o i v H2 fun H3 => QS σ H3) : gSub to ti s v σ H QS := k
theorem r_setL {p : Addr} {n : Int} {xs : List V} {m : Nat} {QH : Hp → Prop} (h : H p = some (.lst xs)) (hi : ixN xs.length n = some m) (k : QH (upd H p (.lst (xs.set m v)))) : rSetL (.ref p) (.int n) v H QH := ⟨p, xs, n, m, rfl, rfl, h, hi, k⟩
theorem r_ret (k : te σ H D.rt) : tRet te D σ H := k
theorem r_ifS (k : t σ H fun b H1 => if b = true then t1 D σ H1 else t2 D σ H1) : tIfS t t1 t2 D σ H := k
theorem r_drop (k : te σ H fun _ H1 => D.nx σ H1) : tDrop te D σ H := k
theorem r_for {wi : TI} {g : TG} (k : wi σ H fun J H1 => ∃ W : Nat → Nat → St → Hp → Prop, (∃ m, W 0 m σ H1) ∧ ∀ i m σ H, W i m σ H →
  (J.stop i H ∧ D.nx σ H) ∨ (J.go i H ∧ ∃ N : St → Hp → Prop, (∀ σ' H', N σ' H' → ∃ m', m' < m ∧ W (i + 1) m' σ' H') ∧ ∀ x H', J.yld i H x H' → g x σ H' fun σ2 H2 => ts { D with nx := N, ct := N, bk := D.nx } σ2 H2)) : tFor wi g ts D σ H := k
/-- for k in range(n) -/
theorem r_forR {tl : TA} {n : Int} {g : TG} (Pv : Nat → St → Hp → Prop) (h : tl σ H fun vs H1 => vs = [.int n] ∧ -(2 ^ 62) ≤ n ∧ n < 2 ^ 62 ∧ Pv 0 σ H1)
    (mono : ∀ {P P' : List V → Hp → Prop}, (∀ vs H, P vs H → P' vs H) → tl σ H P → tl σ H P')
    (hs : ∀ i σ H, i < n.toNat → Pv i σ H → g (.int (i : Nat)) σ H fun σ2 H2 => ts { D with nx := Pv (i + 1), ct := Pv (i + 1), bk := D.nx } σ2 H2)
    (hd : ∀ σ H, Pv n.toNat σ H → D.nx σ H) : tFor (iRng1 tl) g ts D σ H := by
  refine mono (fun vs H1 q => ?_) h
  obtain ⟨rfl, h1, h2, q⟩ := q
  refine ⟨n, rfl, h1, h2, for_range (lo := 0) (n := n.toNat) Pv q (fun i σ H hi p => ?_) hd⟩
  rw [Int.zero_add]
  exact hs i σ H hi p
end
end Hg
end L2
end

section
set_option Elab.async false
set_option linter.all false
set_option maxRecDepth 100000
set_option maxHeartbeats 4000000
/-! A def of the text as one hypothesis: where it stands (DefAt), what it keeps (DefOk, DefG); classes and errors likewise; boxes of draws. -/
namespace L2
namespace Hg
open PySem PySem.Spec PyProof.Rows

structure DefAt (K : PySem.W.Frag) (mg : Str → Option Value) (x : Str) (st : Stmt) : Prop where
  ex : ∃ f fd, mg x = some (.ref f) ∧ Fun K x x st f fd
def DefOk (P : Program) (w : World) (K : PySem.W.Frag) (mg : Str → Option Value) (base : Heap) (CX : CXT) (k : Nat) (x : Str) (ps : List Str) (sp : Sp) : Prop :=
  ∃ f fd, mg x = some (.ref f) ∧ PySem.W.keepIn K (.ref f) = true ∧ FnOk P w K mg base CX k f fd ps sp ∧ Binds K fd ps []
def DefG (P : Program) (w : World) (K : PySem.W.Frag) (mg : Str → Option Value) (base : Heap) (CX : CXT) (k : Nat) (x : Str) (ps : List Str) (sp : Sp) : Prop :=
  ∃ f fd, mg x = some (.ref f) ∧ PySem.W.keepIn K (.ref f) = true ∧ FnG P w K mg base CX k f fd ps sp ∧ Binds K fd ps []
abbrev BindsBy (st : Stmt) (x : Str) (ps : List Str) : Prop := ∀ (kV doc pm : Value) (an : Option Addr) (cdv ct : Value) (us : List Value), us.length = ps.length →
  bindArgs (PySem.W.fnOf x x (defArgs st) (defBody st) (defScope st) .none kV doc pm an cdv ct) ⟨us, []⟩ = pure (ps.zip us)
section
variable {P : Program} {w : World} {K : PySem.W.Frag} {mg : Str → Option Value} {base : Heap} {k : Nat} {x : Str} {st : Stmt} {N ps : List Str} {sp : Sp}
theorem DefAt.ok (F : DefAt K mg x st) (S : FnScope N ps (defScope st)) (hb : BindsBy st x ps) (len : ∀ vs H Q E, sp vs H Q E → vs.length = ps.length)
    (hbody : ∀ (f : Addr) (cdv : Value) (A : Around) (outer : List Env) (s : Shared) (H : Hp) (vs : List V) (Q : VK) (E : XK), Room k (A.deeper (envOfC x (defScope st) s.heap.objs.size f cdv)) → sp vs H Q E →
      ∃ t, PSs (cxOf CX0 P w K mg base N x (defScope st) f cdv A outer s H E).nox (defBody st) t ∧ t { nx := fun _ H' => Q .non H', rt := Q } (start N vs) H) : DefOk P w K mg base CX0 (k + 1) x ps sp := by
  obtain ⟨f, fd, hm, F⟩ := F.ex
  exact ⟨f, fd, hm, F.kp, F.ok S len fun cdv A outer s H vs Q E hr h => hbody f cdv A outer s H vs Q E hr h, F.binds hb⟩
theorem DefAt.okX (F : DefAt K mg x st) (S : FnScope N ps (defScope st)) (hb : BindsBy st x ps) (len : ∀ vs H Q E, sp vs H Q E → vs.length = ps.length)
    (hbody : ∀ (f : Addr) (cdv : Value) (A : Around) (outer : List Env) (s : Shared) (H : Hp) (vs : List V) (Q : VK) (E : XK), Room k (A.deeper (envOfC x (defScope st) s.heap.objs.size f cdv)) → sp vs H Q E →
      ∃ t, PSs (cxOf (L2.CX P w) P w K mg base N x (defScope st) f cdv A outer s H E) (defBody st) t ∧ t { nx := fun _ H' => Q .non H', rt := Q } (start N vs) H) : DefOk P w K mg base (L2.CX P w) (k + 1) x ps sp := by
  obtain ⟨f, fd, hm, F⟩ := F.ex
  exact ⟨f, fd, hm, F.kp, F.okX S len fun cdv A outer s H vs Q E hr h => hbody f cdv A outer s H vs Q E hr h, F.binds hb⟩
theorem DefAt.okG (F : DefAt K mg x st) (S : FnScope N ps (defScope st)) (hb : BindsBy st x ps) (len : ∀ vs H Q E, sp vs H Q E → vs.length = ps.length)
    (hbody : ∀ (f : Addr) (cdv : Value) (A : Around) (outer : List Env) (s : Shared) (H : Hp) (vs : List V) (Q : VK) (E : XK), A.guards = some [] → Room k (A.deeper (envOfC x (defScope st) s.heap.objs.size f cdv)) → sp vs H Q E →
      ∃ t, PSs (cxOf CX0 P w K mg base N x (defScope st) f cdv A outer s H E).nox (defBody st) t ∧ t { nx := fun _ H' => Q .non H', rt := Q } (start N vs) H) : DefG P w K mg base CX0 (k + 1) x ps sp := by
  obtain ⟨f, fd, hm, F⟩ := F.ex
  exact ⟨f, fd, hm, F.kp, Hg.okG F S len fun cdv A outer s H vs Q E hg hr h => hbody f cdv A outer s H vs Q E hg hr h, F.binds hb⟩
end
section
variable {X : Cx} {CX : CXT} {k : Nat} {ps : List Str} {sp : Sp} {E : XK} {x : Str} {p pos : Pos} {e : Expr} {es : List Expr} {t : TA}
theorem pe_callD (F : DefOk X.prog X.w X.K X.mg X.base CX k x ps sp) (hr : Room k X.A) (hx : Passes CX X E) (hg : Gl X x) (ha : PA X (e :: es) t) (hdb : (x == ("__debug__" : Str)) = false := by decide)
    (he : starEach (e :: es) X.env = (false, eval e X.env) :: starEach es X.env := by rfl) (hpl : (backTo pos (starEach es X.env)).any (·.1) = false := by rfl) : PE X (.Call (.Name x p) (e :: es) [] pos) (tCall sp [] E t) :=
  let ⟨_, _, hm, hk, G, hb⟩ := F
  pe_call G hr hg hm hk hb .nil hx ha hdb he hpl
theorem pe_callD0 (F : DefOk X.prog X.w X.K X.mg X.base CX k x ps sp) (hr : Room k X.A) (hx : Passes CX X E) (hg : Gl X x) (hdb : (x == ("__debug__" : Str)) = false := by decide) : PE X (.Call (.Name x p) [] [] pos) (tCall sp [] E tNil) :=
  let ⟨_, _, hm, hk, G, hb⟩ := F
  pe_call0 G hr hg hm hk hb .nil hx hdb
theorem pe_callDG (F : DefG X.prog X.w X.K X.mg X.base CX k x ps sp) (hgd : X.A.guards = some []) (hr : Room k X.A) (hx : Passes CX X E) (hg : Gl X x) (ha : PA X (e :: es) t) (hdb : (x == ("__debug__" : Str)) = false := by decide)
    (he : starEach (e :: es) X.env = (false, eval e X.env) :: starEach es X.env := by rfl) (hpl : (backTo pos (starEach es X.env)).any (·.1) = false := by rfl) : PE X (.Call (.Name x p) (e :: es) [] pos) (tCall sp [] E t) :=
  let ⟨_, _, hm, hk, G, hb⟩ := F
  pe_callG G hgd hr hg hm hk hb .nil hx ha hdb he hpl
theorem pe_callDG0 (F : DefG X.prog X.w X.K X.mg X.base CX k x ps sp) (hgd : X.A.guards = some []) (hr : Room k X.A) (hx : Passes CX X E) (hg : Gl X x) (hdb : (x == ("__debug__" : Str)) = false := by decide) : PE X (.Call (.Name x p) [] [] pos) (tCall sp [] E tNil) :=
  let ⟨_, _, hm, hk, G, hb⟩ := F
  pe_callG0 G hgd hr hg hm hk hb .nil hx hdb
end

/-! ### errors -/
/-- the error class x at C: its own `__init__` st, over the base G named g -/
structure ErrAt (K : PySem.W.Frag) (mg : Str → Option Value) (x q : Str) (st : Stmt) (C : Addr) : Prop where
  hm : mg x = some (.ref C)
  cl : OexC K C
  it : ∃ f fd, PySem.W.findIn K (.ref C) "__init__" = some (some (.ref f)) ∧ PySem.W.typeIn K (.ref f) = some (.type "function") ∧ Fun K "__init__" q st f fd
structure BaseAt (K : PySem.W.Frag) (mg : Str → Option Value) (g : Str) (G : Addr) : Prop where
  hm : mg g = some (.ref G)
  bi : BaseInit K G
/-- what making such an error keeps -/
def ErrOk (P : Program) (w : World) (K : PySem.W.Frag) (mg : Str → Option Value) (base : Heap) (k : Nat) (x : Str) (C : Addr) (ps : List Str) (sp : Sp) : Prop :=
  mg x = some (.ref C) ∧ OexC K C ∧ ∃ f fd, PySem.W.findIn K (.ref C) "__init__" = some (some (.ref f)) ∧ PySem.W.typeIn K (.ref f) = some (.type "function") ∧ FnOk P w K mg base CX0 k f fd ps sp ∧ Binds K fd ps []
abbrev BindsAs (st : Stmt) (x q : Str) (ps : List Str) : Prop := ∀ (kV doc pm : Value) (an : Option Addr) (cdv ct : Value) (us : List Value), us.length = ps.length →
  bindArgs (PySem.W.fnOf x q (defArgs st) (defBody st) (defScope st) .none kV doc pm an cdv ct) ⟨us, []⟩ = pure (ps.zip us)
section
variable {P : Program} {w : World} {K : PySem.W.Frag} {mg : Str → Option Value} {base : Heap} {k : Nat} {x q : Str} {st : Stmt} {C : Addr} {N ps : List Str} {sp : Sp}
theorem ErrAt.ok (F : ErrAt K mg x q st C) (S : FnScope N ps (defScope st)) (hb : BindsAs st "__init__" q ps) (len : ∀ vs H Q E, sp vs H Q E → vs.length = ps.length)
    (hbody : ∀ (f : Addr) (cdv : Value) (A : Around) (outer : List Env) (s : Shared) (H : Hp) (vs : List V) (Q : VK) (E : XK), Room k (A.deeper (envOfC q (defScope st) s.heap.objs.size f cdv)) → sp vs H Q E →
      ∃ t, PSs (cxOf CX0 P w K mg base N q (defScope st) f cdv A outer s H E).nox (defBody st) t ∧ t { nx := fun _ H' => Q .non H', rt := Q } (start N vs) H) : ErrOk P w K mg base (k + 1) x C ps sp := by
  obtain ⟨f, fd, hi, ht, F1⟩ := F.it
  exact ⟨F.hm, F.cl, f, fd, hi, ht, F1.ok S len fun cdv A outer s H vs Q E hr h => hbody f cdv A outer s H vs Q E hr h, F1.binds hb⟩
end
section
variable {X : Cx} {k : Nat} {ps : List Str} {sp : Sp} {x : Str} {p pos : Pos} {C : Addr} {e : Expr} {es : List Expr} {ta : TA}
theorem pmkN (F : ErrOk X.prog X.w X.K X.mg X.base k x C ps sp) (hr : Room (k + 1) X.A) (hg : Gl X x) (hdb : (x == ("__debug__" : Str)) = false := by decide) : PMk X (.Call (.Name x p) [] [] pos) (tMkN C sp) :=
  let ⟨hm, T, _, _, iC, tI, F1, hb⟩ := F
  pmk_oexN T iC tI F1 hr hb (fun _ _ _ _ _ _ _ c => c.elim) hg hm hdb
theorem pmkF (F : ErrOk X.prog X.w X.K X.mg X.base k x C ps sp) (hr : Room (k + 1) X.A) (hg : Gl X x) (ha : PA X (e :: es) ta) (hdb : (x == ("__debug__" : Str)) = false := by decide)
    (he : starEach (e :: es) X.env = (false, eval e X.env) :: starEach es X.env := by rfl) (hpl : (backTo pos (starEach es X.env)).any (·.1) = false := by rfl) : PMk X (.Call (.Name x p) (e :: es) [] pos) (tMkO C sp [] ta) :=
  let ⟨hm, T, _, _, iC, tI, F1, hb⟩ := F
  pmk_oex T iC tI F1 hr hb .nil (fun _ _ _ _ _ _ _ c => c.elim) hg hm ha hdb he hpl
end

/-! ### classes -/
/-- the class x at C -/
structure ClsAt (K : PySem.W.Frag) (mg : Str → Option Value) (x : Str) (C : Addr) : Prop where
  hm : mg x = some (.ref C)
  cl : Cls K C
  mks : PySem.W.makesIn K C = true
  kp : PySem.W.keepIn K (.ref C) = true
/-- making an instance of x -/
def MakeOk (P : Program) (w : World) (K : PySem.W.Frag) (mg : Str → Option Value) (base : Heap) (CX : CXT) (k : Nat) (x : Str) (C : Addr) (ps : List Str) (dvs : List V) (sp : Sp) : Prop :=
  mg x = some (.ref C) ∧ ∃ f fd ds, Mk K C f ∧ FnOk P w K mg base CX k f fd ps sp ∧ Binds K fd ps ds ∧ Vals dvs ds
section
variable {X : Cx} {CX : CXT} {k : Nat} {ps : List Str} {dvs : List V} {sp : Sp} {E : XK} {ES : St → XK} {x : Str} {p pos : Pos} {C : Addr} {e : Expr} {es : List Expr} {t : TA}
theorem pe_makeD (F : MakeOk X.prog X.w X.K X.mg X.base CX k x C ps dvs sp) (hr : Room (k + 1) X.A) (hx : Passes CX X E) (hg : Gl X x) (ha : PA X (e :: es) t) (hdb : (x == ("__debug__" : Str)) = false := by decide)
    (he : starEach (e :: es) X.env = (false, eval e X.env) :: starEach es X.env := by rfl) (hpl : (backTo pos (starEach es X.env)).any (·.1) = false := by rfl) : PE X (.Call (.Name x p) (e :: es) [] pos) (tMake C sp dvs E t) :=
  let ⟨hm, _, _, _, M, G, hb, hd⟩ := F
  pe_make M G hr hg hm hb hd hx ha hdb he hpl
theorem pe_makeD0 (F : MakeOk X.prog X.w X.K X.mg X.base CX k x C ps dvs sp) (hr : Room (k + 1) X.A) (hx : Passes CX X E) (hg : Gl X x) (hdb : (x == ("__debug__" : Str)) = false := by decide) : PE X (.Call (.Name x p) [] [] pos) (tMake C sp dvs E tNil) :=
  let ⟨hm, _, _, _, M, G, hb, hd⟩ := F
  pe_make0 M G hr hg hm hb hd hx hdb
theorem pe_makeDS (F : MakeOk X.prog X.w X.K X.mg X.base CX k x C ps dvs sp) (hr : Room (k + 1) X.A) (hx : ∀ σ, PassesAt CX X σ (ES σ)) (hg : Gl X x) (ha : PA X (e :: es) t) (hdb : (x == ("__debug__" : Str)) = false := by decide)
    (he : starEach (e :: es) X.env = (false, eval e X.env) :: starEach es X.env := by rfl) (hpl : (backTo pos (starEach es X.env)).any (·.1) = false := by rfl) : PE X (.Call (.Name x p) (e :: es) [] pos) (tMakeS C sp dvs ES t) :=
  let ⟨hm, _, _, _, M, G, hb, hd⟩ := F
  pe_makeS M G hr hg hm hb hd hx ha hdb he hpl
end

/-! ### boxes of draws -/
/-- at b a list of three ints -/
def BoxAt (H : Hp) (b : Addr) : Prop := ∃ x y z : Int, H b = some (.lst [.int x, .int y, .int z])
/-- what was tracked stays, but for b, which is a box -/
structure Bx (b : Addr) (H H' : Hp) : Prop where
  keep : ∀ x o, x ≠ b → H x = some o → H' x = some o
  box : BoxAt H' b
theorem Bx.refl {b : Addr} {H : Hp} (h : BoxAt H b) : Bx b H H := ⟨fun _ _ _ z => z, h⟩
theorem Bx.trans {b : Addr} {H H1 H2 : Hp} (h : Bx b H H1) (g : Bx b H1 H2) : Bx b H H2 := ⟨fun x o n z => g.keep x o n (h.keep x o n z), g.box⟩
theorem Bx.upd {b p : Addr} {H H1 : Hp} {o : HO} (h : Bx b H H1) (hp : H1 p = none) : Bx b H (upd H1 p o) := by
  refine ⟨fun x u n z => ?_, ?_⟩
  · have q := h.keep x u n z
    rw [upd_ne (ne_of_none q hp)]; exact q
  · obtain ⟨x, y, z, q⟩ := h.box
    exact ⟨x, y, z, by rw [upd_ne (ne_of_none q hp)]; exact q⟩
theorem Bx.updD {b p : Addr} {H H1 : Hp} {o : HO} (h : Bx b H H1) (hp : H p = none) (n : p ≠ b) : Bx b H (L2.upd H1 p o) := by
  refine ⟨fun x u ne z => at_upd (ne_of_none z hp) (h.keep x u ne z), ?_⟩
  obtain ⟨x, y, z, q⟩ := h.box
  exact ⟨x, y, z, at_upd (Ne.symm n) q⟩
theorem Bx.set {b : Addr} {H H1 : Hp} (h : Bx b H H1) (x y z : Int) : Bx b H (L2.upd H1 b (.lst [.int x, .int y, .int z])) := ⟨fun a o n q => (upd_ne n).trans (h.keep a o n q), x, y, z, upd_same⟩
theorem BoxAt.upd {b p : Addr} {H : Hp} {o : HO} (h : BoxAt H b) (hp : H p = none) : BoxAt (upd H p o) b := ((Bx.refl h).upd hp).box
theorem BoxAt.ne {b p : Addr} {H : Hp} {o : HO} (h : BoxAt H b) (hp : H p = some o) (d : ∀ x y z : Int, o ≠ .lst [.int x, .int y, .int z]) : p ≠ b := by
  intro e
  subst e
  obtain ⟨x, y, z, q⟩ := h
  rw [hp] at q
  exact d x y z (Option.some.inj q)
theorem BoxAt.some {b : Addr} {H : Hp} (h : BoxAt H b) : ∃ o, H b = some o := let ⟨_, _, _, q⟩ := h; ⟨_, q⟩
theorem Bx.seqL {K : PySem.W.Frag} {b l : Addr} {H H' : Hp} {xs : List V} (h : Bx b H H') (n : l ≠ b) (q : SqL K H l xs) : SqL K H' l xs := by
  rcases q with (q | ⟨o, q⟩) | q
  · exact .inl (.inl (h.keep _ _ n q))
  · exact .inl (.inr ⟨o, h.keep _ _ n q⟩)
  · exact .inr q
theorem Bx.seqT {K : PySem.W.Frag} {b l : Addr} {H H' : Hp} {xs : List V} (h : Bx b H H') (n : l ≠ b) (q : SqT K H l xs) : SqT K H' l xs := by
  rcases q with (q | ⟨o, q⟩) | q
  · exact .inl (.inl (h.keep _ _ n q))
  · exact .inl (.inr ⟨o, h.keep _ _ n q⟩)
  · exact .inr q
theorem Bx.free {b p : Addr} {H H' : Hp} (h : Bx b H H') (hp : H' p = none) : H p = none := by
  cases e : H p with
  | none => rfl
  | some o =>
    by_cases n : p = b
    · subst n
      obtain ⟨x, y, z, q⟩ := h.box
      rw [hp] at q; cases q
    · rw [h.keep p o n e] at hp; cases hp
theorem Bx.seqF {K : PySem.W.Frag} {b l : Addr} {H H' : Hp} {xs : List V} (h : Bx b H H') (n : H b = none) (q : SqL K H l xs) : SqL K H' l xs := by
  rcases q with (q | ⟨o, q⟩) | q
  · exact .inl (.inl (h.keep _ _ (ne_of_none q n) q))
  · exact .inl (.inr ⟨o, h.keep _ _ (ne_of_none q n) q⟩)
  · exact .inr q
/-- a draw -/
def spTake : Sp := fun vs H Q _ => ∃ (b : Addr) (m : Int), vs = [.ref b, .int m] ∧ BoxAt H b ∧ 1 ≤ m ∧ m < 100000000000000000000 ∧
  ∀ (d : Int) (H' : Hp), 0 ≤ d → d < m → Bx b H H' → Q (.int d) H'
/-- a pick -/
def spPick (K : PySem.W.Frag) : Sp := fun vs H Q _ => ∃ (b l : Addr) (xs : List V), vs = [.ref b, .ref l] ∧ BoxAt H b ∧ (SqL K H l xs ∨ SqT K H l xs) ∧ l ≠ b ∧ 1 ≤ xs.length ∧ xs.length < 1000000 ∧
  ∀ (v : V) (H' : Hp), v ∈ xs → Bx b H H' → Q v H'
/-- a new box -/
def spBox (K : PySem.W.Frag) : Sp := fun vs H Q _ => ∃ (a : Addr) (ns : List Int) (k c : Int), vs = [.ref a, .int k, .int c] ∧ SqL K H a (ns.map V.int) ∧ 0 ≤ k ∧ k < 1000000 ∧ 0 ≤ c ∧ c < 1000000 ∧ ns.length ≤ 1000 ∧
  ∀ (b : Addr) (H' : Hp), H b = none → Bx b H H' → Q (.ref b) H'
end Hg
end L2
end

section
set_option Elab.async false
set_option linter.all false
set_option maxRecDepth 100000
set_option maxHeartbeats 400000
/-! Any values: None, bools, ints, texts, lists, tuples; their kinds, their data; what stays. -/
namespace L2
namespace Hg
open PySem PySem.Spec PyProof.Rows

/-- any value of a kind that isinstance can tell -/
inductive Kd (K : PySem.W.Frag) (H : Hp) : V → Prop
  | non : Kd K H .non
  | bl (b : Bool) : Kd K H (.bl b)
  | int (i : Int) : Kd K H (.int i)
  | str (x : Str) : Kd K H (.str x)
  | lst {a : Addr} {xs : List V} : SqL K H a xs → Kd K H (.ref a)
  | tup {a : Addr} {xs : List V} : SqT K H a xs → Kd K H (.ref a)
def isI : V → Bool | .int _ => true | _ => false
def isIB : V → Bool | .int _ => true | .bl _ => true | _ => false
def isB : V → Bool | .bl _ => true | _ => false
def isS : V → Bool | .str _ => true | _ => false
theorem tyx_list {K : PySem.W.Frag} {H : Hp} {a : Addr} {xs : List V} (h : SqL K H a xs) : TyX K H (.ref a) (.type "list") := by
  rcases h with (h | ⟨o, h⟩) | ⟨o, its, n, h, c, _⟩
  · exact .base (.lst h)
  · exact .base (.frz h)
  · exact .kList h c
theorem tyx_tup {K : PySem.W.Frag} {H : Hp} {a : Addr} {xs : List V} (h : SqT K H a xs) : TyX K H (.ref a) (.type "tuple") := by
  rcases h with (h | ⟨o, h⟩) | ⟨o, its, n, h, c, _⟩
  · exact .base (.tup h)
  · exact .fTuple h
  · exact .kTuple h c
section
variable {K : PySem.W.Frag} {H H' : Hp} {v : V}
theorem Kd.isi_int (h : Kd K H v) : ∃ t, TyX K H v t ∧ PySem.W.kitOne K t (.type "int") = some (isIB v) := by
  cases h with
  | non => exact ⟨_, .base .non, kit_ty (a := "NoneType") (by decide +kernel)⟩
  | bl b => exact ⟨_, .base (.bl b), kit_ty (a := "bool") (b := "int") (r := true) (by decide +kernel)⟩
  | int i => exact ⟨_, .base (.int i), kit_ty (a := "int") (b := "int") (r := true) (by decide +kernel)⟩
  | str x => exact ⟨_, .base (.str x), kit_ty (a := "str") (b := "int") (r := false) (by decide +kernel)⟩
  | lst h => exact ⟨_, tyx_list h, kit_ty (a := "list") (b := "int") (r := false) (by decide +kernel)⟩
  | tup h => exact ⟨_, tyx_tup h, kit_ty (a := "tuple") (b := "int") (r := false) (by decide +kernel)⟩
theorem Kd.isi_bool (h : Kd K H v) : ∃ t, TyX K H v t ∧ PySem.W.kitOne K t (.type "bool") = some (isB v) := by
  cases h with
  | non => exact ⟨_, .base .non, kit_ty (a := "NoneType") (by decide +kernel)⟩
  | bl b => exact ⟨_, .base (.bl b), kit_ty (a := "bool") (b := "bool") (r := true) (by decide +kernel)⟩
  | int i => exact ⟨_, .base (.int i), kit_ty (a := "int") (b := "bool") (r := false) (by decide +kernel)⟩
  | str x => exact ⟨_, .base (.str x), kit_ty (a := "str") (b := "bool") (r := false) (by decide +kernel)⟩
  | lst h => exact ⟨_, tyx_list h, kit_ty (a := "list") (b := "bool") (r := false) (by decide +kernel)⟩
  | tup h => exact ⟨_, tyx_tup h, kit_ty (a := "tuple") (b := "bool") (r := false) (by decide +kernel)⟩
theorem Kd.isi_str (h : Kd K H v) : ∃ t, TyX K H v t ∧ PySem.W.kitOne K t (.type "str") = some (isS v) := by
  cases h with
  | non => exact ⟨_, .base .non, kit_ty (a := "NoneType") (by decide +kernel)⟩
  | bl b => exact ⟨_, .base (.bl b), kit_ty (a := "bool") (b := "str") (r := false) (by decide +kernel)⟩
  | int i => exact ⟨_, .base (.int i), kit_ty (a := "int") (b := "str") (r := false) (by decide +kernel)⟩
  | str x => exact ⟨_, .base (.str x), kit_ty (a := "str") (b := "str") (r := true) (by decide +kernel)⟩
  | lst h => exact ⟨_, tyx_list h, kit_ty (a := "list") (b := "str") (r := false) (by decide +kernel)⟩
  | tup h => exact ⟨_, tyx_tup h, kit_ty (a := "tuple") (b := "str") (r := false) (by decide +kernel)⟩
theorem sameT {a : Addr} {xs : List V} (e : Same H H') (h : SqT K H a xs) : SqT K H' a xs := by
  rcases h with (h | ⟨o, h⟩) | h
  · exact .inl (.inl (e _ _ h))
  · exact .inl (.inr ⟨o, e _ _ h⟩)
  · exact .inr h
theorem Kd.mono (e : Same H H') (h : Kd K H v) : Kd K H' v := by
  cases h with
  | non => exact .non
  | bl b => exact .bl b
  | int i => exact .int i
  | str x => exact .str x
  | lst h => exact .lst (e.seq h)
  | tup h => exact .tup (sameT e h)
mutual
theorem Dp.mono (e : Same H H') : ∀ (d : PyData) (v : V), Dp K H v d → Dp K H' v d
  | .none, _, h => by cases h; exact .non
  | .bool b, _, h => by cases h; exact .bl b
  | .int i, _, h => by cases h; exact .int i
  | .str x, _, h => by cases h; exact .str x
  | .list ds, _, h => by
    cases h with
    | lst hs ha => exact .lst (e.seq hs) (DpAll.mono e ds _ ha)
  | .tuple ds, _, h => by
    cases h with
    | tup hs ha => exact .tup (sameT e hs) (DpAll.mono e ds _ ha)
  | .dict _, _, h => by cases h
theorem DpAll.mono (e : Same H H') : ∀ (ds : List PyData) (vs : List V), DpAll K H vs ds → DpAll K H' vs ds
  | [], _, h => by cases h; exact .nil
  | d :: ds, _, h => by
    cases h with
    | cons h1 h2 => exact .cons (Dp.mono e d _ h1) (DpAll.mono e ds _ h2)
end
theorem Dp.kd {d : PyData} (h : Dp K H v d) : Kd K H v := by
  cases h with
  | non => exact .non
  | bl b => exact .bl b
  | int i => exact .int i
  | str x => exact .str x
  | lst h _ => exact .lst h
  | tup h _ => exact .tup h
end
/-! ### the promises of `signs` -/
def fromV (v : V) (a b : Int) : Bool := match v with | .int i => decide (a ≤ i) && decide (i ≤ b) | _ => false
def numV (v : V) : Bool := match v with | .int i => decide (0 ≤ i) | _ => false
def spIsInt (K : PySem.W.Frag) : Sp := fun vs H Q _ => ∃ v, vs = [v] ∧ Kd K H v ∧ Q (.bl (isI v)) H
def spFrom (K : PySem.W.Frag) : Sp := fun vs H Q _ => ∃ v a b, vs = [v, .int a, .int b] ∧ Kd K H v ∧ Q (.bl (fromV v a b)) H
def spIsNum (K : PySem.W.Frag) : Sp := fun vs H Q _ => ∃ v, vs = [v] ∧ Kd K H v ∧ Q (.bl (numV v)) H
theorem isI_of (v : V) : (isIB v && !isB v) = isI v := by cases v <;> rfl
theorem isI_int {v : V} (h : isI v = true) : ∃ i, v = .int i := by
  cases v <;> first | exact ⟨_, rfl⟩ | cases h
/-! ### what stays of a heap but for a box -/
theorem same_del (H : Hp) (b : Addr) : Same (del H b) H := fun a o h => by
  unfold del at h
  split at h
  · cases h
  · exact h
theorem Bx.same {b : Addr} {H H' : Hp} (h : Bx b H H') : Same (del H b) (del H' b) := fun a o q => by
  unfold del at q ⊢
  split at q
  · cases q
  · rename_i n
    rw [if_neg n]
    exact h.keep a o n q
theorem same_new {H : Hp} {p : Addr} {o : HO} (h : H p = none) : Same H (upd H p o) := fun a u q => at_upd (ne_of_none q h) q
theorem bx_of_same {b : Addr} {H H' : Hp} (hb : BoxAt H b) (h : Same H H') : Bx b H H' :=
  ⟨fun a o _ q => h a o q, let ⟨x, y, z, q⟩ := hb; ⟨x, y, z, h _ _ q⟩⟩
theorem del_at {H : Hp} {a b : Addr} {o : HO} (n : a ≠ b) (h : H a = some o) : del H b a = some o := (del_ne n).trans h
/-! ### data that may be shown -/
/-- v is data of depth at most k, whose text has at most n signs -/
structure Sh (K : PySem.W.Frag) (H : Hp) (v : V) (d : PyData) (k n : Nat) : Prop where
  dp : Dp K H v d
  sw : d.showable = true
  nd : d.hasDict = false
  cl : d.canLay0 = true
  dpt : d.depth ≤ k
  len : d.shown.length ≤ n
section
variable {K : PySem.W.Frag} {H H' : Hp} {v : V} {d : PyData} {k k' n n' : Nat}
theorem Sh.mono (e : Same H H') (h : Sh K H v d k n) : Sh K H' v d k n := ⟨Dp.mono e _ _ h.dp, h.sw, h.nd, h.cl, h.dpt, h.len⟩
theorem Sh.up (h : Sh K H v d k n) (hk : k ≤ k') (hn : n ≤ n') : Sh K H v d k' n' := ⟨h.dp, h.sw, h.nd, h.cl, Nat.le_trans h.dpt hk, Nat.le_trans h.len hn⟩
theorem Sh.shaped (h : Sh K H v d k n) (hk : k ≤ 64) : SeqAt.shaped d = true := by
  unfold SeqAt.shaped
  rw [h.cl, decide_eq_true (Nat.le_trans h.dpt hk)] <;> rfl
theorem Sh.repr {Q : VK} (h : Sh K H v d k n) (hk : k ≤ 60) (hn : n ≤ 100000) (q : Q (.str d.shown) H) : rRepr K [v] H Q :=
  r_repr h.dp h.sw h.nd (Nat.le_trans h.dpt hk) (sz (Nat.le_trans h.len hn)) q
theorem sh_non : Sh K H .non .none 0 10 := ⟨.non, rfl, rfl, rfl, Nat.le_refl _, by decide +kernel⟩
theorem sh_bl (b : Bool) : Sh K H (.bl b) (.bool b) 0 10 := ⟨.bl b, rfl, rfl, rfl, Nat.le_refl _, by cases b <;> decide +kernel⟩
theorem sh_int {i : Int} (h : i.natAbs < 10 ^ 38) : Sh K H (.int i) (.int i) 0 40 := by
  refine ⟨.int i, ?_, rfl, rfl, Nat.le_refl _, ?_⟩
  · show decide (i.natAbs.log2 < 1920) = true
    refine decide_eq_true ?_
    by_cases h0 : i.natAbs = 0
    · rw [h0]; decide
    · refine (Nat.log2_lt h0).mpr (Nat.lt_trans h (by decide +kernel))
  · show (Str.ofString (toString i)).length ≤ 40
    have e := int_text_length_le10 (k := 38) (by decide) h
    refine Nat.le_trans ?_ (Nat.le_trans e (by decide))
    exact Nat.le_of_eq (PySem.ofString_length _)
theorem sh_str {x : Str} (ok : PyData.canLay0 (.str x) = true) (h : (reprText x).length ≤ n) : Sh K H (.str x) (.str x) 0 n := ⟨.str x, rfl, rfl, ok, Nat.le_refl _, h⟩
theorem sh_all {vs : List V} {ds : List PyData} (h : Paired (fun v d => Sh K H v d k n) vs ds) : DpAll K H vs ds ∧ PyData.showableAll ds = true ∧ PyData.hasDictAll ds = false ∧ PyData.canLayAll0 ds = true ∧ PyData.depthAll ds ≤ k ∧
    ((PyData.shownAll ds).map (·.length)).sum ≤ vs.length * n ∧ ds.length = vs.length ∧ (PyData.shownAll ds).length = vs.length := by
  induction h with
  | nil => exact ⟨.nil, rfl, rfl, rfl, Nat.zero_le _, Nat.zero_le _, rfl, rfl⟩
  | cons h _ ih =>
    obtain ⟨i1, i2, i3, i4, i5, i6, i7, i8⟩ := ih
    refine ⟨.cons h.dp i1, ?_, ?_, ?_, ?_, ?_, ?_, ?_⟩
    · simp only [PyData.showableAll, h.sw, i2, Bool.and_self]
    · simp only [PyData.hasDictAll, h.nd, i3, Bool.or_self]
    · simp only [PyData.canLayAll0, h.cl, i4, Bool.and_self]
    · simp only [PyData.depthAll]; exact Nat.max_le.mpr ⟨h.dpt, i5⟩
    · simp only [PyData.shownAll, List.map_cons, List.sum_cons, List.length_cons]
      have := h.len
      rw [Nat.succ_mul]
      omega
    · simp only [List.length_cons, i7]
    · simp only [PyData.shownAll, List.length_cons, i8]
theorem sh_tup {a : Addr} {vs : List V} {ds : List PyData} {m : Nat} (h : SqT K H a vs) (hp : Paired (fun v d => Sh K H v d k n) vs ds) (hl : vs.length * n + 2 * vs.length + 3 ≤ m) : Sh K H (.ref a) (.tuple ds) (k + 1) m := by
  obtain ⟨i1, i2, i3, i4, i5, i6, i7, i8⟩ := sh_all hp
  refine ⟨.tup h i1, ?_, ?_, ?_, ?_, ?_⟩
  · simp only [PyData.showable, i2]
  · simp only [PyData.hasDict, i3]
  · simp only [PyData.canLay0, i4]
  · simp only [PyData.depth]; omega
  · simp only [PyData.shown]
    have q := tupleText_len_le (PyData.shownAll ds)
    rw [i8] at q
    omega
theorem sh_lst {a : Addr} {vs : List V} {ds : List PyData} {m : Nat} (h : SqL K H a vs) (hp : Paired (fun v d => Sh K H v d k n) vs ds) (hl : vs.length * n + 2 * vs.length + 3 ≤ m) : Sh K H (.ref a) (.list ds) (k + 1) m := by
  obtain ⟨i1, i2, i3, i4, i5, i6, i7, i8⟩ := sh_all hp
  refine ⟨.lst h i1, ?_, ?_, ?_, ?_, ?_⟩
  · simp only [PyData.showable, i2]
  · simp only [PyData.hasDict, i3]
  · simp only [PyData.canLay0, i4]
  · simp only [PyData.depth]; omega
  · simp only [PyData.shown]
    have q := listText_len_le (PyData.shownAll ds)
    rw [i8] at q
    omega
end
/-! ### isinstance of a caught error -/
def rIsG (K : PySem.W.Frag) (a : Addr) (cls : Value) (d : Option Addr) : List V → Hp → VK → Prop := fun xs H Q => ∃ D : Addr, cls = .ref D ∧ d = none ∧ ExcC K D ∧ rIsE K D a xs H Q
theorem c_isG {X : Cx} {a : Addr} {cls : Value} {d : Option Addr} {oe : Obj} {pn : List (Addr × Obj)} (K : PySem.W.Frag) (hz : Zc cls d oe) (hf : ∃ vs, oe.data = .fields vs) (hK : X.K = K := by rfl) :
    CallR (X.suite a ((a, oe) :: pn)) (.builtin "isinstance") (rIsG K a cls d) := by
  subst hK
  intro pins s σ H xs us Q I r h
  obtain ⟨D, rfl, rfl, C, h⟩ := h
  exact call_isE C hz hf pins s σ H xs us Q I r h
theorem r_isG {K : PySem.W.Frag} {a D G : Addr} {b : Bool} {H : Hp} {Q : VK} (C : ExcC K D) (e : PySem.W.kitOne K (.ref D) (.ref G) = some b) (k : Q (.bl b) H) : rIsG K a (.ref D) none [.ref a, .ref G] H Q :=
  ⟨D, rfl, rfl, C, .ref G, .ref G, b, rfl, fun u h => h, e, k⟩
/-! ### fields -/
section
variable {K : PySem.W.Frag} {H : Hp} {Q : VK} {σ : St} {D : Ends} {ta tv : TE} {f : Str} {a C dx : Addr} {fs : List (Str × V)} {v : V}
theorem r_sFld (k : tv σ H fun y H1 => ta σ H1 fun x H2 => ∃ a C dx fs, x = .ref a ∧ H2 a = some (.ins C dx fs) ∧ Cls K C ∧ NoAttr K C f ∧ fs.length < 1000 ∧ D.nx σ (upd H2 a (.ins C dx (putF f y fs)))) : sFld K ta tv f D σ H := k
theorem r_put {R : Hp → Prop} (h : H a = some (.ins C dx fs)) (c : Cls K C) (n : NoAttr K C f) (z : fs.length < 1000) (k : R (upd H a (.ins C dx (putF f v fs)))) :
    ∃ a' C' dx' fs', V.ref a = .ref a' ∧ H a' = some (.ins C' dx' fs') ∧ Cls K C' ∧ NoAttr K C' f ∧ fs'.length < 1000 ∧ R (upd H a' (.ins C' dx' (putF f v fs'))) := ⟨a, C, dx, fs, rfl, h, c, n, z, k⟩
theorem r_fld (k : ta σ H fun x H1 => ∃ a C dx fs v, x = .ref a ∧ H1 a = some (.ins C dx fs) ∧ Cls K C ∧ NoAttr K C f ∧ fs.lookup f = some v ∧ Q v H1) : tFld K ta f σ H Q := k
theorem r_get {R : V → Prop} (h : H a = some (.ins C dx fs)) (c : Cls K C) (n : NoAttr K C f) (l : fs.lookup f = some v) (k : R v) :
    ∃ a' C' dx' fs' v', V.ref a = .ref a' ∧ H a' = some (.ins C' dx' fs') ∧ Cls K C' ∧ NoAttr K C' f ∧ fs'.lookup f = some v' ∧ R v' := ⟨a, C, dx, fs, v, rfl, h, c, n, l, k⟩
end
theorem putF_len {f : Str} {v : V} (l : List (Str × V)) : (putF f v l).length ≤ l.length + 1 := length_putF f v l
/-! ### dicts -/
section
variable {σ : St} {H : Hp} {Q : VK} {D : Ends} {td ty tv : TE}
theorem r_disp {trs : List (TE × TE)} (k : ∀ p, H p = none → tPairs trs σ (upd H p (.dK [])) fun ps H2 => H2 p = some (.dK []) ∧ ∃ kvs : List (Key × V), ps = kvs.map (fun kv => (kV kv.1, kv.2)) ∧ kvs.length ≤ 15 ∧ Q (.ref p) (upd H2 p (.dK (mergeK [] kvs)))) : tDisp trs σ H Q := k
theorem r_pairs {QP : List (V × V) → Hp → Prop} {r : List (TE × TE)} (k : td σ H fun x H1 => tv σ H1 fun y H2 => tPairs r σ H2 fun ps H3 => QP ((x, y) :: ps) H3) : tPairs ((td, tv) :: r) σ H QP := k
theorem r_pairs0 {QP : List (V × V) → Hp → Prop} (k : QP [] H) : tPairs [] σ H QP := k
theorem r_dput (k : tv σ H fun v H1 => td σ H1 fun x H2 => ty σ H2 fun y H3 => ∃ a H4, x = .ref a ∧ DPut H3 a y v H4 ∧ D.nx σ H4) : sDPut td ty tv D σ H := k
theorem r_dget (k : td σ H fun x H1 => ty σ H1 fun y H2 => ∃ a v, x = .ref a ∧ DGet H2 a y (some v) ∧ Q v H2) : tDGet td ty σ H Q := k
theorem r_dg {p : Addr} {kvs : List (Key × V)} {k : Key} {v : V} {R : V → Prop} (h : H p = some (.dK kvs)) (e : valV kvs k = some v) (q : R v) : ∃ a w, V.ref p = .ref a ∧ DGet H a (kV k) (some w) ∧ R w :=
  ⟨p, v, rfl, by rw [← e]; exact DGet.k h, q⟩
theorem r_dp {p : Addr} {kvs : List (Key × V)} {k : Key} {v : V} {R : Hp → Prop} (h : H p = some (.dK kvs)) (z : kvs.length < sizeLine) (q : R (upd H p (.dK (putK kvs k v)))) : ∃ a H4, V.ref p = .ref a ∧ DPut H a (kV k) v H4 ∧ R H4 :=
  ⟨p, _, rfl, DPut.k h z, q⟩
end
/-! ### loops and comprehensions -/
section
variable {σ : St} {H : Hp} {Q : VK} {D : Ends} {K : PySem.W.Frag}
theorem r_rng1 {ta : TA} {R : It → Hp → Prop} (k : ta σ H fun vs H1 => ∃ j : Int, vs = [.int j] ∧ -(2 ^ 62) ≤ j ∧ j < 2 ^ 62 ∧ R (Itr 0 j.toNat) H1) : iRng1 ta σ H R := k
theorem r_rng2 {ta : TA} {R : It → Hp → Prop} (k : ta σ H fun vs H1 => ∃ i j : Int, vs = [.int i, .int j] ∧ (-(2 ^ 62) ≤ i ∧ i < 2 ^ 62 ∧ -(2 ^ 62) ≤ j ∧ j < 2 ^ 62) ∧ R (Itr i (j - i).toNat) H1) : iRng2 ta σ H R := k
theorem r_iL {tl : TE} {R : It → Hp → Prop} (k : tl σ H fun x H1 => ∃ a, x = .ref a ∧ (∃ xs, SqL K H1 a xs) ∧ R (Itl K a) H1) : iList K tl σ H R := k
theorem r_iT {tl : TE} {R : It → Hp → Prop} (k : tl σ H fun x H1 => ∃ a, x = .ref a ∧ (∃ xs, SqT K H1 a xs) ∧ R (Itt K a) H1) : iTup K tl σ H R := k
theorem r_lc {wi : TI} {g : TG} {tt : TT} {te : TE} {vs : List Nat} (k : wi σ H fun J H1 => ∀ D, H1 D = none → ∃ W : Nat → Nat → Hp → Prop, (∃ m, W 0 m (upd H1 D (.lst []))) ∧ ∀ i m H, W i m H →
  (J.stop i H ∧ Q (.ref D) H) ∨ (J.go i H ∧ ∃ Nx : Hp → Prop, (∀ H', Nx H' → ∃ m', m' < m ∧ W (i + 1) m' H') ∧ ∀ x H', J.yld i H x H' → g x (wipe σ vs) H' fun σ2 H2 => wipe σ2 vs = wipe σ vs ∧ tt σ2 H2 fun b H3 =>
    if b = true then te σ2 H3 fun y H4 => ∃ acc, H4 D = some (.lst acc) ∧ acc.length < sizeLine ∧ Nx (upd H4 D (.lst (acc ++ [y]))) else Nx H3)) : tLc wi g tt te vs σ H Q := k
theorem r_gT {n : Nat} {t : TGs} {QS : St → Hp → Prop} {p : Addr} {xs : List V} (h : SqT K H p xs) (e : xs.length = n) (k : t xs σ H QS) : gTup K n t (.ref p) σ H QS := ⟨p, xs, rfl, h, e, k⟩
theorem r_gL {n : Nat} {t : TGs} {QS : St → Hp → Prop} {p : Addr} {xs : List V} (h : SqL K H p xs) (e : xs.length = n) (k : t xs σ H QS) : gLst K n t (.ref p) σ H QS := ⟨p, xs, rfl, h, e, k⟩
theorem r_gCons {t : TG} {u : TGs} {QS : St → Hp → Prop} {v : V} {r : List V} (k : t v σ H fun σ' H' => u r σ' H' QS) : gCons t u (v :: r) σ H QS := ⟨v, r, rfl, k⟩
theorem r_gNil {QS : St → Hp → Prop} (k : QS σ H) : gNil [] σ H QS := ⟨rfl, k⟩
theorem r_yes {QB : Bool → Hp → Prop} (k : QB true H) : tYes σ H QB := k
theorem take_succ {α : Type} : ∀ {l : List α} {i : Nat} {x : α}, l[i]? = some x → l.take (i + 1) = l.take i ++ [x]
  | [], i, x, h => by simp at h
  | a :: l, 0, x, h => by
    simp at h
    subst h
    rfl
  | a :: l, i + 1, x, h => by
    have ih := take_succ (l := l) (i := i) (x := x) (by simpa using h)
    simp only [List.take_succ_cons, ih, List.cons_append]
end
/-! ### what calls raise -/
theorem r_veI {K : PySem.W.Frag} {ta : TA} {σ : St} {H : Hp} {Q : VK} (k : ta σ H fun vs H1 => ∃ (a C : Addr) (ws : List V), vs = .ref a :: ws ∧ ws.length ≤ 1000 ∧ OexC K C ∧ H1 a = some (exo a C none) ∧ Q .non H1) : tVeI K ta σ H Q := k
theorem r_makeS {C : Addr} {sp : Sp} {dvs : List V} {E : St → XK} {t : TA} {σ : St} {H : Hp} {Q : VK} (k : t σ H fun vs H1 => ∀ x dx, H1 x = none → H1 dx = none → dx ≠ x →
  sp (.ref x :: (vs ++ dvs)) (upd (upd H1 dx (.own x)) x (.ins C dx [])) (fun v H2 => v = .non ∧ Q (.ref x) H2) (E σ)) : tMakeS C sp dvs E t σ H Q := k
theorem r_make {C : Addr} {sp : Sp} {dvs : List V} {E : XK} {t : TA} {σ : St} {H : Hp} {Q : VK} (k : t σ H fun vs H1 => ∀ x dx, H1 x = none → H1 dx = none → dx ≠ x →
  sp (.ref x :: (vs ++ dvs)) (upd (upd H1 dx (.own x)) x (.ins C dx [])) (fun v H2 => v = .non ∧ Q (.ref x) H2) E) : tMake C sp dvs E t σ H Q := k
end Hg
end L2
end

section
set_option Elab.async false
set_option linter.all false
set_option maxRecDepth 100000
set_option maxHeartbeats 4000000
/-! Methods and properties of own classes as one hypothesis; tuple * int; what stays of a heap. -/
namespace L2
namespace Hg
open PySem PySem.Spec PyProof.Rows

/-! ### methods -/
structure MetAt (K : PySem.W.Frag) (C : Addr) (m q : Str) (st : Stmt) : Prop where
  cl : Cls K C
  ex : ∃ f fd, Meth K C m f ∧ Fun K m q st f fd
def MetOk (P : Program) (w : World) (K : PySem.W.Frag) (mg : Str → Option Value) (base : Heap) (CX : CXT) (k : Nat) (C : Addr) (m : Str) (ps : List Str) (sp : Sp) : Prop :=
  Cls K C ∧ ∃ f fd, Meth K C m f ∧ FnOk P w K mg base CX k f fd ps sp ∧ Binds K fd ps []
structure PrpAt (K : PySem.W.Frag) (C : Addr) (m q : Str) (st : Stmt) : Prop where
  cl : Cls K C
  ex : ∃ p g fd, PropOf K C m p g ∧ Fun K m q st g fd
def PrpOk (P : Program) (w : World) (K : PySem.W.Frag) (mg : Str → Option Value) (base : Heap) (CX : CXT) (k : Nat) (C : Addr) (m : Str) (sp : Sp) : Prop :=
  Cls K C ∧ ∃ p g fd, PropOf K C m p g ∧ FnOk P w K mg base CX k g fd ["self"] sp ∧ Binds K fd ["self"] []
section
variable {P : Program} {w : World} {K : PySem.W.Frag} {mg : Str → Option Value} {base : Heap} {k : Nat} {m q : Str} {st : Stmt} {C : Addr} {N ps : List Str} {sp : Sp}
theorem MetAt.ok (F : MetAt K C m q st) (S : FnScope N ps (defScope st)) (hb : BindsAs st m q ps) (len : ∀ vs H Q E, sp vs H Q E → vs.length = ps.length)
    (hbody : ∀ (f : Addr) (cdv : Value) (A : Around) (outer : List Env) (s : Shared) (H : Hp) (vs : List V) (Q : VK) (E : XK), Room k (A.deeper (envOfC q (defScope st) s.heap.objs.size f cdv)) → sp vs H Q E →
      ∃ t, PSs (cxOf CX0 P w K mg base N q (defScope st) f cdv A outer s H E).nox (defBody st) t ∧ t { nx := fun _ H' => Q .non H', rt := Q } (start N vs) H) : MetOk P w K mg base CX0 (k + 1) C m ps sp := by
  obtain ⟨f, fd, hm, F1⟩ := F.ex
  exact ⟨F.cl, f, fd, hm, F1.ok S len fun cdv A outer s H vs Q E hr h => hbody f cdv A outer s H vs Q E hr h, F1.binds hb⟩
theorem MetAt.okX (F : MetAt K C m q st) (S : FnScope N ps (defScope st)) (hb : BindsAs st m q ps) (len : ∀ vs H Q E, sp vs H Q E → vs.length = ps.length)
    (hbody : ∀ (f : Addr) (cdv : Value) (A : Around) (outer : List Env) (s : Shared) (H : Hp) (vs : List V) (Q : VK) (E : XK), Room k (A.deeper (envOfC q (defScope st) s.heap.objs.size f cdv)) → sp vs H Q E →
      ∃ t, PSs (cxOf (L2.CX P w) P w K mg base N q (defScope st) f cdv A outer s H E) (defBody st) t ∧ t { nx := fun _ H' => Q .non H', rt := Q } (start N vs) H) : MetOk P w K mg base (L2.CX P w) (k + 1) C m ps sp := by
  obtain ⟨f, fd, hm, F1⟩ := F.ex
  exact ⟨F.cl, f, fd, hm, F1.okX S len fun cdv A outer s H vs Q E hr h => hbody f cdv A outer s H vs Q E hr h, F1.binds hb⟩
theorem PrpAt.ok (F : PrpAt K C m q st) (S : FnScope N ["self"] (defScope st)) (hb : BindsAs st m q ["self"]) (len : ∀ vs H Q E, sp vs H Q E → vs.length = 1)
    (hbody : ∀ (f : Addr) (cdv : Value) (A : Around) (outer : List Env) (s : Shared) (H : Hp) (vs : List V) (Q : VK) (E : XK), Room k (A.deeper (envOfC q (defScope st) s.heap.objs.size f cdv)) → sp vs H Q E →
      ∃ t, PSs (cxOf CX0 P w K mg base N q (defScope st) f cdv A outer s H E).nox (defBody st) t ∧ t { nx := fun _ H' => Q .non H', rt := Q } (start N vs) H) : PrpOk P w K mg base CX0 (k + 1) C m sp := by
  obtain ⟨p, f, fd, hm, F1⟩ := F.ex
  exact ⟨F.cl, p, f, fd, hm, F1.ok S len fun cdv A outer s H vs Q E hr h => hbody f cdv A outer s H vs Q E hr h, F1.binds hb⟩
end
section
variable {X : Cx} {CX : CXT} {k : Nat} {C : Addr} {m : Str} {ps : List Str} {sp : Sp} {E : XK} {ES : St → XK} {o e : Expr} {es : List Expr} {ta : TE} {t : TA} {apos pos : Pos}
theorem pe_metD {pl : Sem Bool} (F : MetOk X.prog X.w X.K X.mg X.base CX k C m ps sp) (hr : Room k X.A) (hx : Passes CX X E) (he : PE X o ta) (ha : PA X (e :: es) t)
    (hst : starEach (e :: es) X.env = (false, eval e X.env) :: starEach es X.env := by rfl) (hpl : (backTo pos (starEach es X.env)).any (·.1) = false := by rfl)
    (ht : eval (.Call (.Attribute o m apos) (e :: es) [] pos) X.env = (do
      let ov ← eval o X.env
      standAt apos.atName
      let (f, first) ← holding [ov] (getMethod ov m pl)
      callWith pos f first (backTo pos (starEach (e :: es) X.env)) (backToKw pos (keywordEach [] X.env))) := by rfl) :
    PE X (.Call (.Attribute o m apos) (e :: es) [] pos) (tMeth C m sp [] E ta t) :=
  let ⟨c, _, _, hm, G, hb⟩ := F
  pe_meth he c hm G hr hb .nil hx ha hst hpl ht
theorem pe_metD0 {pl : Sem Bool} (F : MetOk X.prog X.w X.K X.mg X.base CX k C m ps sp) (hr : Room k X.A) (hx : Passes CX X E) (he : PE X o ta)
    (ht : eval (.Call (.Attribute o m apos) [] [] pos) X.env = (do
      let ov ← eval o X.env
      standAt apos.atName
      let (f, first) ← holding [ov] (getMethod ov m pl)
      callWith pos f first (backTo pos (starEach [] X.env)) (backToKw pos (keywordEach [] X.env))) := by rfl) :
    PE X (.Call (.Attribute o m apos) [] [] pos) (tMeth C m sp [] E ta tNil) :=
  let ⟨c, _, _, hm, G, hb⟩ := F
  pe_meth0 he c hm G hr hb .nil hx ht
/-- o.m(e, ..) where what is raised is wished at the slots -/
def tMetS (C : Addr) (m : Str) (sp : Sp) (E : St → XK) (ta : TE) (t : TA) : TE := fun σ H Q => ta σ H fun x H1 => ∃ a dx fs, x = .ref a ∧ H1 a = some (.ins C dx fs) ∧ fs.lookup m = none ∧
  t σ H1 fun vs H2 => sp (x :: vs) H2 Q (E σ)
theorem pe_metDS {pl : Sem Bool} (F : MetOk X.prog X.w X.K X.mg X.base CX k C m ps sp) (hr : Room k X.A) (hx : ∀ σ, PassesAt CX X σ (ES σ)) (he : PE X o ta) (ha : PA X (e :: es) t)
    (hst : starEach (e :: es) X.env = (false, eval e X.env) :: starEach es X.env := by rfl) (hpl : (backTo pos (starEach es X.env)).any (·.1) = false := by rfl)
    (ht : eval (.Call (.Attribute o m apos) (e :: es) [] pos) X.env = (do
      let ov ← eval o X.env
      standAt apos.atName
      let (f, first) ← holding [ov] (getMethod ov m pl)
      callWith pos f first (backTo pos (starEach (e :: es) X.env)) (backToKw pos (keywordEach [] X.env))) := by rfl) :
    PE X (.Call (.Attribute o m apos) (e :: es) [] pos) (tMetS C m sp ES ta t) := by
  obtain ⟨c, f, fd, hm, G, hb⟩ := F
  refine ⟨fun pins s σ H Q I h => ?_⟩
  refine PySem.W.methodCall_KW (pl := pl) (thn (he.run pins s σ H _ I h) fun u s1 ⟨x, H1, I1, rx, a, dx, fs, ex, ea, l, q⟩ => ?_) ht
  subst ex
  obtain rfl : u = Value.ref a := rx
  refine getmeth_ok I1 ea c hm l ?_
  refine PySem.W.callWith_K (first := [.ref a]) (h₀ := X.base) I.ok.mod.kin hm.kp (thn (ha.run pos pins s1 σ H1 _ I1 q) fun us s2 ⟨vs, H2, I2, r, q2⟩ => ⟨I2.kIn, ?_⟩) hst hpl
  exact run_fnS (us := .ref a :: us) (vs := .ref a :: vs) G hr hb (hx σ) I2 (.cons rfl r) q2
theorem pe_prpD (F : PrpOk X.prog X.w X.K X.mg X.base CX k C m sp) (hr : Room (k + 1) X.A) (hx : Passes CX X.nox E) (he : PE X e ta)
    (hab : attributeBase e m X.env (eval e X.env) = eval e X.env := by rfl) : PE X (.Attribute e m pos) (tProp C sp [] E ta) :=
  let ⟨c, _, _, _, hm, G, hb⟩ := F
  pe_prop he c hm G hr hb .nil hx hab
variable {σ : St} {H : Hp} {Q : VK} {dvs : List V}
theorem r_meth (k : ta σ H fun x H1 => ∃ a dx fs, x = .ref a ∧ H1 a = some (.ins C dx fs) ∧ fs.lookup m = none ∧ t σ H1 fun vs H2 => sp (x :: (vs ++ dvs)) H2 Q E) : tMeth C m sp dvs E ta t σ H Q := k
theorem r_metS (k : ta σ H fun x H1 => ∃ a dx fs, x = .ref a ∧ H1 a = some (.ins C dx fs) ∧ fs.lookup m = none ∧ t σ H1 fun vs H2 => sp (x :: vs) H2 Q (ES σ)) : tMetS C m sp ES ta t σ H Q := k
theorem r_prop (k : ta σ H fun x H1 => ∃ a dx fs, x = .ref a ∧ H1 a = some (.ins C dx fs) ∧ sp (.ref a :: dvs) H1 Q E) : tProp C sp dvs E ta σ H Q := k
theorem r_obj {R : Prop} {a dx : Addr} {fs : List (Str × V)} (h : H a = some (.ins C dx fs)) (l : fs.lookup m = none) (k : R) :
    ∃ a' dx' fs', V.ref a = .ref a' ∧ H a' = some (.ins C dx' fs') ∧ fs'.lookup m = none ∧ R := ⟨a, dx, fs, rfl, h, l, k⟩
theorem r_pobj {R : Addr → Prop} {a dx : Addr} {fs : List (Str × V)} (h : H a = some (.ins C dx fs)) (k : R a) :
    ∃ a' dx' fs', V.ref a = .ref a' ∧ H a' = some (.ins C dx' fs') ∧ R a' := ⟨a, dx, fs, rfl, h, k⟩
/-! ### stars, parallel stores -/
variable {K : PySem.W.Frag} {te : TE} {QL : List V → Hp → Prop} {D : Ends} {i j l : Nat}
theorem r_star (k : te σ H fun x H1 => ∃ p xs, x = V.ref p ∧ (SqT K H1 p xs ∨ SqL K H1 p xs) ∧ t σ H1 fun ys H2 => QL (xs ++ ys) H2) : StX.tStar K te t σ H QL := k
theorem r_st {R : List V → Prop} {p : Addr} {xs : List V} (h : SqT K H p xs ∨ SqL K H p xs) (k : R xs) : ∃ p' xs', V.ref p = V.ref p' ∧ (SqT K H p' xs' ∨ SqL K H p' xs') ∧ R xs' := ⟨p, xs, rfl, h, k⟩
theorem r_par (k : t σ H fun vs H1 => ∃ v w, vs = [v, w] ∧ D.nx ((σ.set i (some v)).set j (some w)) H1) : tPar i j t D σ H := k
theorem r_par3 (k : t σ H fun vs H1 => ∃ u v w, vs = [u, v, w] ∧ D.nx (((σ.set i (some u)).set j (some v)).set l (some w)) H1) : tPar3 i j l t D σ H := k
theorem r_v2 {v w : V} {R : V → V → Prop} (k : R v w) : ∃ v' w', [v, w] = [v', w'] ∧ R v' w' := ⟨v, w, rfl, k⟩
theorem r_v3 {u v w : V} {R : V → V → V → Prop} (k : R u v w) : ∃ u' v' w', [u, v, w] = [u', v', w'] ∧ R u' v' w' := ⟨u, v, w, rfl, k⟩
/-! ### slices -/
variable {r : V → Option Int → Option Int → Hp → VK → Prop} {tl th : TO} {QO : Option Int → Hp → Prop}
theorem r_sl (k : te σ H fun x H1 => tl σ H1 fun l H2 => th σ H2 fun u H3 => r x l u H3 Q) : tSl r te tl th σ H Q := k
theorem r_part (k : te σ H fun x H1 => ∃ i, x = .int i ∧ QO (some i) H1) : tPart te σ H QO := k
theorem r_noPart (k : QO none H) : tNoPart σ H QO := k
theorem r_i {n : Int} {R : Int → Prop} (k : R n) : ∃ i, V.int n = .int i ∧ R i := ⟨n, rfl, k⟩
theorem pa_starK (K : PySem.W.Frag) {X : Cx} {e : Expr} {es : List Expr} {te : TE} {t : TA} {p : Pos} (he : PE X e te) (hr : PA X es t) (hs : starEach (.Starred e p :: es) X.env = (true, eval e X.env) :: starEach es X.env := by rfl) (hK : X.K = K := by rfl) : PA X (.Starred e p :: es) (StX.tStar K te t) := hK ▸ StX.pa_star he hr hs
theorem slT (K : PySem.W.Frag) {X : Cx} (hK : X.K = K := by rfl) : SlR X (rSlT K) := hK ▸ sl_tup
end
/-! ### cuts -/
def tSeqC (t u : TS) : TS := fun D σ H => ∃ P : St → Hp → Prop, t { D with nx := P } σ H ∧ ∀ σ' H', P σ' H' → u D σ' H'
theorem pss_cut {X : Cx} {st : Stmt} {rest : List Stmt} {t u : TS} (h1 : PS X st t) (h2 : PSs X rest u) : PSs X (st :: rest) (tSeqC t u) := by
  refine ⟨fun pins s σ H D I h => ?_⟩
  obtain ⟨P, h, q0⟩ := h
  refine wpAny_execs_cons (thn (h1.run pins s σ H { D with nx := P } I h) fun f s1 q => ?_)
  cases f with
  | next =>
    obtain ⟨σ', H', I', q⟩ := q
    exact h2.run pins s1 σ' H' D I' (q0 _ _ q)
  | ret v => exact q
  | brk => exact q
  | cont => exact q
theorem r_cut {t u : TS} {D : Ends} {σ : St} {H : Hp} (P : St → Hp → Prop) (h : t { D with nx := P } σ H) (k : ∀ σ' H', P σ' H' → u D σ' H') : tSeqC t u D σ H := ⟨P, h, k⟩
def tCut (t : TE) : TE := fun σ H Q => ∃ P : VK, t σ H P ∧ ∀ v H', P v H' → Q v H'
theorem pe_cut {X : Cx} {e : Expr} {t : TE} (h : PE X e t) : PE X e (tCut t) := by
  refine ⟨fun pins s σ H Q I hq => ?_⟩
  obtain ⟨P, hq, q0⟩ := hq
  refine thn (h.run pins s σ H P I hq) fun u s1 ⟨v, H1, I1, r, q⟩ => ⟨v, H1, I1, r, q0 _ _ q⟩
theorem r_cutE {t : TE} {σ : St} {H : Hp} {Q : VK} (P : VK) (h : t σ H P) (k : ∀ v H', P v H' → Q v H') : tCut t σ H Q := ⟨P, h, k⟩
def tCutT (t : TT) : TT := fun σ H Q => ∃ P : Bool → Hp → Prop, t σ H P ∧ ∀ v H', P v H' → Q v H'
theorem pt_cut {X : Cx} {e : Expr} {t : TT} (h : PT X e t) : PT X e (tCutT t) := by
  refine ⟨fun pins s σ H Q I hq => ?_⟩
  obtain ⟨P, hq, q0⟩ := hq
  exact thn (h.run pins s σ H P I hq) fun u s1 ⟨H1, I1, q⟩ => ⟨H1, I1, q0 _ _ q⟩
theorem r_cutT {t : TT} {σ : St} {H : Hp} {Q : Bool → Hp → Prop} (P : Bool → Hp → Prop) (h : t σ H P) (k : ∀ v H', P v H' → Q v H') : tCutT t σ H Q := ⟨P, h, k⟩
/-! ### tuple * int -/
theorem tuple_mul1 (l : Addr) (items : Array Value) (n : Nat) (dd : Option Addr) (sl : Array (Option Value)) (u : Tok) :
    Meets (Builtin.«tuple.__mul__» ⟨[.ref l, .int 1 u], []⟩) (fun _ R s => s.heap.get? l = some { cls := .type "tuple", dict := dd, data := .seq items n, slots := sl } ∧ R (.ok (.ret (Value.ref l))) s) :=
  .of_wp fun prog w A R s h => by
    obtain ⟨hp, g, d, tk, os⟩ := s
    obtain ⟨hl, h⟩ := h
    have f1 := AutoSeq1.idx_int
    have c1 : (items.isEmpty || (1 : Int) == 1) = true := by rw [Bool.or_eq_true]; exact .inr rfl
    have c0 : (decide ((1 : Int) < -(2 ^ 63)) || decide ((1 : Int) ≥ 2 ^ 63)) = false := by decide
    wp_walk using wpAny_loadPart' hl
    repeat (first
      | (refine wpAny_ite_false (decide_eq_false (by rw [c0]; exact Bool.false_ne_true)) ?_; wp_walk using wpAny_loadPart' hl)
      | (refine wpAny_ite_true (decide_eq_true c1) ?_; wp_walk using wpAny_loadPart' hl))
    exact ⟨_, rfl, h⟩
def rRep1 (K : PySem.W.Frag) : R2 := fun x y H Q => ∃ l xs, x = .ref l ∧ y = .int 1 ∧ SqT K H l xs ∧ Q (.ref l) H
theorem op_rep1 {X : Cx} : OpR X (binaryOp .Mult) (rRep1 X.K) := by
  intro pins s σ H x y v u Q I rx ry h
  obtain ⟨l, xs, rfl, rfl, hT, q⟩ := h
  cases rx
  obtain ⟨t, rfl⟩ := ry
  obtain ⟨its, r, ⟨⟨cls, dd, data, sl⟩, ho, hc, n, hd⟩, hs⟩ := I.tuple hT
  simp only at hc hd
  subst hc hd
  refine wpAny_binaryOp_repeat_ref (T := "tuple") (U := "int") (by decide) ⟨_, ho, rfl⟩ (fun s' => typeIs_int s' 1 t) noFill_tuple_mul F.fills_int_mul F.slot_int_rmul repeat_tuple F.slot_int_index.lookup
    (call_meets F.slot_int_rmul (typeIs_int s 1 t) F.entry_int_rmul (F.args_int_rmul_2 _ _) (int_rmul_tuple 1 t l its.toArray n dd sl)
      ⟨ho, rfl, ⟨_, ho, rfl⟩, call_meets F.slot_tuple_mul ⟨_, ho, rfl⟩ F.entry_tuple_mul (F.args_tuple_mul_2 _ _) (tuple_mul1 l its.toArray n dd sl t) ⟨ho, ?_⟩⟩)
  exact ⟨.ref l, H, I, rfl, q⟩
def uMulT (K : PySem.W.Frag) : R2 := fun x y H Q => rRep1 K x y H Q ∨ rRepT K x y H Q
theorem o_mulT (K : PySem.W.Frag) {X : Cx} (hK : X.K = K := by rfl) : OpR X (binaryOp .Mult) (uMulT K) := hK ▸ OpR.or op_rep1 op_repT
theorem flat_one {α : Type} (n : Nat) (x : α) : (List.replicate n [x]).flatten = List.replicate n x := by
  induction n with
  | zero => rfl
  | succ n ih => rw [List.replicate_succ, List.flatten_cons, ih]; rfl
theorem r_mulT1 {K : PySem.W.Frag} {H : Hp} {Q : VK} {l : Addr} {v : V} {k : Int} (h : H l = some (.tup [v])) (h1 : 1 ≤ k) (h2 : k ≤ 1000)
    (q : ∀ (p : Addr) (H' : Hp), Same H H' → H' p = some (.tup (List.replicate k.toNat v)) → Q (.ref p) H') : uMulT K (.ref l) (.int k) H Q := by
  by_cases e : k = 1
  · subst e
    exact .inl ⟨l, _, rfl, rfl, SqT.of h, q l H (fun _ _ z => z) h⟩
  · refine .inr ⟨l, k, _, rfl, rfl, SqT.of h, by simp, by omega, h2, by simp, fun p hp => q p _ (same_new hp) ?_⟩
    rw [upd_same, flat_one]
/-! ### what stays -/
/-- all tuples stay -/
def Tk (H H' : Hp) : Prop := ∀ q xs, H q = some (.tup xs) → H' q = some (.tup xs)
section
variable {H0 H H' H1 H2 : Hp} {p b a : Addr} {o : HO}
theorem Tk.refl : Tk H H := fun _ _ h => h
theorem Tk.trans (h : Tk H H1) (g : Tk H1 H2) : Tk H H2 := fun q xs e => g q xs (h q xs e)
theorem Same.refl : Same H H := fun _ _ h => h
theorem Same.at (s : Same H H1) (h : H p = some o) : H1 p = some o := s p o h
theorem Same.tk (h : Same H H') : Tk H H' := fun q xs e => h q _ e
theorem Bx.tk (h : Bx b H H') (hb : BoxAt H b) : Tk H H' := fun q xs e => h.keep q _ (hb.ne e fun _ _ _ z => nomatch z) e
theorem Tk.new (h : Tk H0 H) (hp : H p = none) : Tk H0 (upd H p o) := fun q xs e => at_upd (ne_of_none (h q xs e) hp) (h q xs e)
theorem Tk.newF (h : Tk H0 H) (hp : H0 p = none) : Tk H0 (upd H p o) := fun q xs e => at_upd (ne_of_none e hp) (h q xs e)
theorem Tk.setL {xs : List V} (h : Tk H0 H) (hp : H p = some (.lst xs)) : Tk H0 (upd H p o) := fun q ys e => by
  have g := h q ys e
  refine at_upd (fun z => ?_) g
  subst z
  rw [hp] at g
  exact nomatch Option.some.inj g
theorem Tk.setI {C dx : Addr} {fs : List (Str × V)} (h : Tk H0 H) (hp : H p = some (.ins C dx fs)) : Tk H0 (upd H p o) := fun q ys e => by
  have g := h q ys e
  refine at_upd (fun z => ?_) g
  subst z
  rw [hp] at g
  exact nomatch Option.some.inj g
theorem Same.updF (s : Same H0 H) (h : H0 p = none) : Same H0 (upd H p o) := fun q u e => at_upd (ne_of_none e h) (s q u e)
theorem Same.new (s : Same H0 H) (h : H p = none) : Same H0 (upd H p o) := fun q u e => at_upd (ne_of_none (s q u e) h) (s q u e)
theorem Same.bx (s : Same H0 H) (hx : Bx b H H') (h : H0 b = none) : Same H0 H' := fun q u e => hx.keep q u (ne_of_none e h) (s q u e)
theorem Same.free (s : Same H0 H) (h : H p = none) : H0 p = none := by
  cases e : H0 p with
  | none => rfl
  | some u => rw [s p u e] at h; cases h
theorem BoxAt.same (h : BoxAt H b) (s : Same H H') : BoxAt H' b := let ⟨x, y, z, q⟩ := h; ⟨x, y, z, s _ _ q⟩
theorem BoxAt.at (h : BoxAt H b) (n : b ≠ p) : BoxAt (L2.upd H p o) b := let ⟨x, y, z, q⟩ := h; ⟨x, y, z, at_upd n q⟩
/-- all stays but x -/
def Kx (x : Addr) (H H' : Hp) : Prop := ∀ q o, q ≠ x → H q = some o → H' q = some o
theorem Kx.at (k : Kx a H H') (n : p ≠ a) (h : H p = some o) : H' p = some o := k p o n h
theorem Kx.refl : Kx a H H := fun _ _ _ h => h
theorem Kx.trans (h : Kx a H H1) (g : Kx a H1 H2) : Kx a H H2 := fun q o n e => g q o n (h q o n e)
theorem Kx.set (h : Kx a H H1) : Kx a H (upd H1 a o) := fun q u n e => at_upd n (h q u n e)
theorem Kx.new (h : Kx a H H1) (hp : H p = none) : Kx a H (upd H1 p o) := fun q u n e => at_upd (ne_of_none e hp) (h q u n e)
theorem Kx.same (h : Kx a H H1) (s : Same H1 H2) : Kx a H H2 := fun q u n e => s q u (h q u n e)
theorem Same.kx (s : Same H0 H) (k : Kx a H H') (h : H0 a = none) : Same H0 H' := fun q u e => k q u (ne_of_none e h) (s q u e)
theorem Kx.tk {C dx : Addr} {fs : List (Str × V)} (k : Kx a H H') (hp : H a = some (.ins C dx fs)) : Tk H H' := fun q ys e => k q _ (fun z => by
  subst z
  rw [hp] at e
  exact nomatch Option.some.inj e) e
theorem BoxAt.fresh (h : BoxAt H b) (hp : H p = none) : b ≠ p := fun e => by
  obtain ⟨x, y, z, q⟩ := h
  rw [e, hp] at q
  exact nomatch q
/-- a pick of a list that was just written -/
theorem r_pickN {K : PySem.W.Frag} {Q : VK} {E : XK} {xs : List V} (h : BoxAt H b) (hp : H p = none) (h1 : 1 ≤ xs.length) (h2 : xs.length < 1000000) (k : ∀ (v : V) (H' : Hp), v ∈ xs → Bx b H H' → Q v H') :
    spPick K [.ref b, .ref p] (upd H p (.lst xs)) Q E :=
  ⟨b, p, xs, rfl, h.upd hp, .inl (SqL.of upd_same), Ne.symm (h.fresh hp), h1, h2, fun v H' hv hx => k v H' hv (((Bx.refl h).upd hp).trans hx)⟩
theorem r_pickT {K : PySem.W.Frag} {Q : VK} {E : XK} {xs : List V} (h : BoxAt H b) (hp : H p = none) (h1 : 1 ≤ xs.length) (h2 : xs.length < 1000000) (k : ∀ (v : V) (H' : Hp), v ∈ xs → Bx b H H' → Q v H') :
    spPick K [.ref b, .ref p] (upd H p (.tup xs)) Q E :=
  ⟨b, p, xs, rfl, h.upd hp, .inr (SqT.of upd_same), Ne.symm (h.fresh hp), h1, h2, fun v H' hv hx => k v H' hv (((Bx.refl h).upd hp).trans hx)⟩
theorem r_take {Q : VK} {E : XK} {m : Int} (h : BoxAt H b) (h1 : 1 ≤ m) (h2 : m < 100000000000000000000) (k : ∀ (d : Int) (H' : Hp), 0 ≤ d → d < m → Bx b H H' → Q (.int d) H') : spTake [.ref b, .int m] H Q E := ⟨b, m, rfl, h, h1, h2, k⟩
theorem ne_kind {u : HO} (h : H p = some o) (g : H a = some u) (n : o ≠ u) : p ≠ a := fun e => by
  subst e
  rw [h] at g
  exact n (Option.some.inj g)
theorem Same.seqL {K : PySem.W.Frag} {l : Addr} {xs : List V} (s : Same H H') (q : SqL K H l xs) : SqL K H' l xs := by
  rcases q with (q | ⟨u, q⟩) | q
  · exact .inl (.inl (s _ _ q))
  · exact .inl (.inr ⟨u, s _ _ q⟩)
  · exact .inr q
end
end Hg
end L2
end

section
set_option Elab.async false
set_option linter.all false
set_option maxRecDepth 100000
set_option maxHeartbeats 4000000
/-! The end of a law's row from a promise that is asked where no guard is set. -/
namespace L2
namespace Hg
open PySem PySem.Spec PyProof.Rows

theorem kit_sub {K : PySem.W.Frag} {C D : Addr} {b : Bool} (hd : PySem.W.hasDictIn K C = true) (ht : PySem.W.typeIn K (.ref C) = some (.type "type")) (h : PySem.W.subIn K (.ref D) (.ref C) = some b) (self : PySem.W.subIn K (.ref D) (.ref D) = some true) : PySem.W.kitOne K (.ref D) (.ref C) = some b := by
  obtain ⟨cd, hc, _⟩ := PySem.W.any_some hd
  have e2 : ((PySem.W.clsIn K C).isSome && PySem.W.typeIn K (.ref C) == some (.type "type")) = true := by rw [hc, ht] <;> rfl
  by_cases e : D = C
  · subst e
    rw [self] at h
    cases h
    show (if ((Value.ref D == Value.ref D) = true) then some true else _) = some true
    rw [if_pos (beq_self_eq_true _)]
  · show (if ((Value.ref D == Value.ref C) = true) then some true else (if ((PySem.W.clsIn K C).isSome && PySem.W.typeIn K (.ref C) == some (.type "type")) = true then PySem.W.subIn K (.ref D) (.ref C) else none)) = some b
    rw [if_neg (fun z => e (by have := beq_iff_eq.mp z; cases this; rfl)), if_pos e2]
    exact h

theorem law_callG {P : Program} {w : World} {K : PySem.W.Frag} {mg mb : Str → Option Value} {k : Nat} {fa a : Addr} {nm x : Str} {sp : Sp} {s₁ : Shared} {vs : List Value} {ns : List Int}
    (KX : K.In s₁.heap) (hns : s₁.heap.Ns mainGlobals mg) (hb : s₁.heap.Ns builtinsNs mb) (hbb : ∀ x : Str, x ≠ "__name__" → mb x = bootBuiltins x) (hlim : s₁.heap.NoLimit) (hg : s₁.gens = #[])
    (ha : s₁.heap.get? a = some { cls := .type "list", data := .seq vs.toArray }) (hi : IntsAre vs ns) (hl : ns.length ≤ sizeLine) (hr : Room k callerA)
    (hmg : mg nm = some (.ref fa)) (F : ∀ base : Heap, K.In base → base.Ns mainGlobals mg → DefG P w K mg base CX0 k nm [x] sp)
    (hsp : ∀ H : Hp, SqL K H a (ns.map V.int) → sp [.ref a] H (fun v _ => v = .bl true) fun _ _ _ => False) :
    codeAny (model P w) callerA (.call (.ref fa) ⟨[.ref a], []⟩) (fun r s' => r = .ok (.ret (.bool true)) ∧ OldK s₁.heap s'.heap ∧ s'.os = s₁.os ∧ AllBare s'.gens) s₁ := by
  have rv := vals_ints hi
  have lenV := hi.length
  have core : ∀ H : Hp, Only H → SqL K H a (ns.map V.int) → HOk P w H s₁.heap → (∀ b, H b ≠ none → b = a) → (H a ≠ none → K.lookup a = none) →
      codeAny (model P w) callerA (.call (.ref fa) ⟨[.ref a], []⟩) (fun r s' => r = .ok (.ret (.bool true)) ∧ OldK s₁.heap s'.heap ∧ s'.os = s₁.os ∧ AllBare s'.gens) s₁ := by
    intro H hO hS hok hA hK
    have only : ∀ {b : Addr}, H b ≠ none → b = a := fun {b} n => hA b n
    have hidK : ∀ {b : Addr} {o : Obj}, s₁.heap.get? b = some o → H b = none → (hidT s₁.heap H).get? b = some o := fun z n => hidT_get z n
    have noDict : ∀ {b : Addr} {o : Obj} {es : Array DictEntry} {ep : Nat}, s₁.heap.get? b = some o → o.data = .dict es ep → H b = none := by
      intro b o es ep z d
      cases q : H b with
      | none => rfl
      | some u =>
        obtain rfl : b = a := only (by rw [q]; simp)
        rw [ha] at z
        cases z
        cases (show Data.seq vs.toArray _ = Data.dict es ep from d)
    have nsK : ∀ {b : Addr} {m : Str → Option Value}, s₁.heap.Ns b m → (hidT s₁.heap H).Ns b m := by
      rintro b m ⟨o, es, ep, z, d, r⟩
      exact ⟨o, es, ep, hidK z (noDict z d), d, r⟩
    have hKb : K.In (hidT s₁.heap H) := by
      intro b o z
      refine hidK (KX b o z) ?_
      cases q : H b with
      | none => rfl
      | some u =>
        obtain rfl : b = a := only (by rw [q]; simp)
        rw [hK (by rw [q]; simp)] at z
        cases z
    have hM : Mod K mg (hidT s₁.heap H) := by
      obtain ⟨mc, h1, h2⟩ := hlim
      exact ⟨hKb, nsK hns, ⟨mb, nsK hb, hbb⟩, ⟨mc, nsK h1, h2⟩⟩
    have e0 : Env0 P w K mg (hidT s₁.heap H) callerA [] s₁ H := by
      refine ⟨rfl, hM, fun b o z => of_hidT z, Nat.le_of_eq (hidT_size _ _), trivial, fun b hb => ?_, hok, .of_eq hg⟩
      cases (show b ∈ ([] : List Addr) from hb)
    obtain ⟨f, fd, hm, _, FG, hbind⟩ := F _ hKb (nsK hns)
    rw [hmg] at hm
    cases hm
    have main := FG.run callerA [] s₁ H ⟨[.ref a], []⟩ [.ref a] [.ref a] _ _ rfl hr e0 (hbind s₁ [.ref a] KX rfl) (.cons rfl .nil) (hsp H hS)
    refine codeAny_mono main fun r s' h => ?_
    cases r with
    | error e => exact False.elim h
    | ok fl =>
      cases fl with
      | next => exact False.elim h
      | brk => exact False.elim h
      | cont => exact False.elim h
      | ret u =>
        obtain ⟨v, H', os, bare, un, hok', r', q⟩ := h
        obtain rfl : v = .bl true := q
        obtain rfl : u = Value.bool true := r'
        refine ⟨rfl, OldK.of_keep fun b o z => ?_, os, bare⟩
        cases q : H b with
        | none => exact un.keep b o z q (fun y => by cases (show b ∈ ([] : List Addr) from y)) (by simp)
        | some u =>
          rcases hO b with y | ⟨ob, xs, y⟩
          · rw [q] at y; cases y
          · obtain ⟨e1, _⟩ := hok b _ y
            obtain ⟨e2, _⟩ := hok' b _ (un.frzs b ob _ y)
            rw [z] at e1
            cases e1
            exact e2
  cases hk : K.lookup a with
  | some o =>
    have z := KX a o hk
    rw [ha] at z
    cases z
    refine core (fun _ => none) (fun _ => .inl rfl) (.inr ⟨_, vs.toArray, _, hk, rfl, rfl, rfl, ?_, by simpa using rv⟩) (fun b u y => ?_) (fun b y => absurd rfl y) fun y => absurd rfl y
    · rw [List.size_toArray, lenV]; exact hl
    · cases (show (none : Option HO) = some u from y)
  | none =>
    let ob : Obj := { cls := .type "list", data := .seq vs.toArray }
    refine core (fun b => if b = a then some (.frz ob (.lst (ns.map V.int))) else none) (fun b => ?_) (.inl (.inr ⟨ob, if_pos rfl⟩)) (fun b u y => ?_) (fun b y => ?_) fun _ => hk
    · by_cases e : b = a
      · exact .inr ⟨_, _, if_pos e⟩
      · exact .inl (if_neg e)
    · by_cases e : b = a
      · have y' := (if_pos e).symm.trans y
        cases y'
        subst e
        exact ⟨ha, by rw [List.length_map]; exact hl, vs, _, rv, ha⟩
      · have y' := (if_neg e).symm.trans y
        cases y'
    · by_cases e : b = a
      · exact e
      · exact absurd (if_neg e) y

theorem walk_ofG {l : PySem.W.OpenLaw} {n k : Nat} {q : Program} {loose : List Str} {XP : (Str → Option Value) → Heap → Prop} {YP : World → Heap → Prop} {d : DefRec} {K : Params → PySem.W.Frag} {sp : PySem.W.Frag → Sp} {x : Str}
    (hn : l.most = some n) (hn2 : n ≤ sizeLine) (hdf : d.params.defaults = []) (hr : Room k callerA)
    (hY : ∀ (w : World) (h : Heap), YP w h → (K w.params).In h)
    (F : ∀ (w : World) (mg : Str → Option Value) (h : Heap), (K w.params).In h → h.Ns mainGlobals mg →
      ∀ base : Heap, (K w.params).In base → base.Ns mainGlobals mg → DefG l.prog w (K w.params) mg base CX0 k d.name [x] (sp (K w.params)))
    (hsp : ∀ (K : PySem.W.Frag) (H : Hp) (a : Addr) (ns : List Int), ns.length ≤ n → SqL K H a (ns.map V.int) → sp K [.ref a] H (fun v _ => v = .bl true) fun _ _ _ => False) :
    PySem.W.WalkO q loose XP YP l.row.toRowW d [] (fun f vs => PySem.call f vs) := by
  refine Att.attach_call hn hdf fun w s₀ s₁ mg mb fa o pm cd doc a vs ns G Y ho hd hcd hmg hobj hints hlen hg => ?_
  exact law_callG (hY w _ Y) G.T.g G.T.b G.T.builtins G.T.nolimit hg hobj hints (Nat.le_trans hlen hn2) hr hmg (F w mg _ (hY w _ Y) G.T.g) fun H hS => hsp (K w.params) H a ns hlen hS
end Hg
end L2
end

section
set_option Elab.async false
set_option linter.all false
set_option maxRecDepth 100000
set_option maxHeartbeats 4000000
/-! Iterables that are a list or a tuple; attributes as targets; dicts: comprehensions, keys, members. -/
namespace L2
namespace Hg
open PySem PySem.Spec PyProof.Rows
def uAt (K : PySem.W.Frag) (x : V) (H1 : Hp) (R : It → Hp → Prop) : Prop := ∃ a, x = .ref a ∧ (((∃ xs, SqL K H1 a xs) ∧ R (Itl K a) H1) ∨ ((∃ xs, SqT K H1 a xs) ∧ R (Itt K a) H1))
/-- a list or a tuple -/
def uIter (K : PySem.W.Frag) (te : TE) : TI := fun σ H R => te σ H fun x H1 => uAt K x H1 R
section
variable {X : Cx} {tg l o : Expr} {tl ta : TE} {f : Str} {pos : Pos}
theorem pi_u (K : PySem.W.Frag) (hl : PE X l tl) (hK : X.K = K := by rfl) : PI X tg l (uIter K tl) := by
  subst hK
  refine ⟨fun pins s σ H R I h => ?_⟩
  refine thn (hl.run pins s σ H _ I h) fun v s1 ⟨x, H1, I1, r1, q1⟩ => ?_
  obtain ⟨a, e, q1⟩ := q1
  subst e
  cases r1
  rcases q1 with ⟨⟨xs, hq⟩, q⟩ | ⟨⟨xs, hq⟩, q⟩
  · obtain ⟨its, rv, p, hz⟩ := I1.list hq
    refine wpAny_pyIter_list p.isList ?_
    refine ⟨s1.heap.objs.size, [s1.heap.objs.size], _, _, H1, rfl, I1.kept (t' := s1.toks) fun b o e => Heap.get?_push_of_some _ e, turn_list a _, ⟨_, Heap.get?_push_size _ rfl, rfl, rfl⟩, fun b hb => ?_, q⟩
    have e : b = s1.heap.objs.size := by simpa using hb
    subst e
    exact I1.fpOk (Nat.le_refl _) (I1.hok.fresh (Nat.le_refl _))
  · obtain ⟨its, rv, p, hz⟩ := I1.tuple hq
    refine wpAny_pyIter_tuple (show s1.heap.IsTuple a its.toArray from p) ?_
    refine ⟨s1.heap.objs.size, [s1.heap.objs.size], _, _, H1, rfl, I1.kept (t' := s1.toks) fun b o e => Heap.get?_push_of_some _ e, turn_tuple a _, ⟨_, Heap.get?_push_size _ rfl, rfl, rfl⟩, fun b hb => ?_, q⟩
    have e : b = s1.heap.objs.size := by simpa using hb
    subst e
    exact I1.fpOk (Nat.le_refl _) (I1.hok.fresh (Nat.le_refl _))
theorem r_iU {K : PySem.W.Frag} {te : TE} {σ : St} {H : Hp} {R : It → Hp → Prop} (k : te σ H fun x H1 => uAt K x H1 R) : uIter K te σ H R := k
/-- the walk over a list or a tuple, told alike -/
theorem r_walk {K : PySem.W.Frag} {H : Hp} {R : It → Hp → Prop} {p : Addr} {xs : List V} (h : SqL K H p xs ∨ SqT K H p xs)
    (k : ∀ (J : It) (G : Hp → Prop), Walk J xs.length G (YAt xs) → G H → (∀ H' H'', Same H' H'' → G H' → G H'') → R J H) :
    uAt K (.ref p) H R := by
  refine ⟨p, rfl, ?_⟩
  rcases h with h | h
  · exact .inl ⟨⟨xs, h⟩, k _ _ walk_list h fun H' H'' s g => Same.seqL s g⟩
  · exact .inr ⟨⟨xs, h⟩, k _ _ walk_tup h fun H' H'' s g => sameT s g⟩
/-! ### o.f as a target -/
def gFld (K : PySem.W.Frag) (ta : TE) (f : Str) : TG := fun v σ H QS => ta σ H fun x H2 => ∃ a C dx fs, x = .ref a ∧ H2 a = some (.ins C dx fs) ∧ Cls K C ∧ NoAttr K C f ∧ fs.length < 1000 ∧ QS σ (upd H2 a (.ins C dx (putF f v fs)))
theorem pg_fld (K : PySem.W.Frag) (ho : PE X o ta) (hK : X.K = K := by rfl) : PG X (.Attribute o f pos) (gFld K ta f) := by
  subst hK
  refine ⟨fun pins s σ H v u Q I r h => ?_⟩
  rw [assign_Attribute]
  refine wpAny_bind (wpAny_holding (thn (ho.run pins s σ H _ I h) fun ov s1 ⟨x, H2, I2, rx, a, C, dx, fs, ex, ea, c, n, l, q2⟩ => ?_))
  subst ex
  obtain rfl : ov = Value.ref a := rx
  refine wpAny_bind (wpAny_standAt (wpAny_bind (wpAny_holding (setattr_ok I2 ea c n l r fun s3 I3 => ?_))))
  exact wpAny_release ⟨σ, _, I3, q2⟩
theorem r_gFld {K : PySem.W.Frag} {v : V} {σ : St} {H : Hp} {QS : St → Hp → Prop} (k : ta σ H fun x H2 => ∃ a C dx fs, x = .ref a ∧ H2 a = some (.ins C dx fs) ∧ Cls K C ∧ NoAttr K C f ∧ fs.length < 1000 ∧ QS σ (upd H2 a (.ins C dx (putF f v fs)))) : gFld K ta f v σ H QS := k
theorem r_putG {K : PySem.W.Frag} {C a dx : Addr} {H : Hp} {fs : List (Str × V)} {R : Addr → Addr → Addr → List (Str × V) → Prop} (h : H a = some (.ins C dx fs)) (c : Cls K C) (n : NoAttr K C f) (z : fs.length < 1000) (k : R a C dx fs) :
    ∃ a' C' dx' fs', V.ref a = .ref a' ∧ H a' = some (.ins C' dx' fs') ∧ Cls K C' ∧ NoAttr K C' f ∧ fs'.length < 1000 ∧ R a' C' dx' fs' := ⟨a, C, dx, fs, rfl, h, c, n, z, k⟩
end
/-! ### dicts -/
section
variable {σ : St} {H : Hp} {Q : VK} {QB : Bool → Hp → Prop} {td ty : TE}
theorem r_lockE {t : TE} {d : Addr} {kvs : List (Key × V)} (h : H d = some (.dK kvs)) (k : ∀ od, t σ (upd H d (.frz od (.dK kvs))) fun v H' => H' d = some (.frz od (.dK kvs)) ∧ Q v (upd H' d (.dK kvs))) : tLockE t σ H Q := ⟨d, _, h, trivial, k⟩
theorem r_keys {R : It → Hp → Prop} (k : td σ H fun x H1 => ∃ d o, x = .ref d ∧ ((∃ kvs, H1 d = some (.frz o (.dK kvs)) ∧ R (Itk d o kvs) H1) ∨ ∃ kvs, H1 d = some (.frz o (.dT kvs)) ∧ R (Itkt d o kvs) H1)) : iKeys td σ H R := k
theorem r_din (k : ty σ H fun y H1 => td σ H1 fun x H2 => ∃ a o, x = .ref a ∧ DGet H2 a y o ∧ Q (.bl o.isSome) H2) : tDIn ty td σ H Q := k
theorem r_dinG {p : Addr} {kvs : List (Key × V)} {k : Key} {R : Option V → Prop} (h : H p = some (.dK kvs)) (q : R (valV kvs k)) : ∃ a o, V.ref p = .ref a ∧ DGet H a (kV k) o ∧ R o := ⟨p, _, rfl, DGet.k h, q⟩
theorem r_dc {wi : TI} {g : TG} {tt : TT} {tk tv : TE} {vs : List Nat} (k : wi σ H fun J H1 => ∀ D, H1 D = none → ∃ W : Nat → Nat → Hp → Prop, (∃ m, W 0 m (upd H1 D (.dK []))) ∧ ∀ i m H, W i m H →
  (J.stop i H ∧ Q (.ref D) H) ∨ (J.go i H ∧ ∃ Nx : Hp → Prop, (∀ H', Nx H' → ∃ m', m' < m ∧ W (i + 1) m' H') ∧ ∀ x H', J.yld i H x H' → g x (wipe σ vs) H' fun σ2 H2 => wipe σ2 vs = wipe σ vs ∧ tt σ2 H2 fun b H3 =>
    if b = true then tk σ2 H3 fun y H4 => tv σ2 H4 fun z H5 => ∃ kvs k, y = kV k ∧ H5 D = some (.dK kvs) ∧ kvs.length < sizeLine ∧ Nx (upd H5 D (.dK (putK kvs k z))) else Nx H3)) : tDc wi g tt tk tv vs σ H Q := k
/-- a dict comprehension over any walk -/
theorem dc_it {J : It} {n : Nat} {G : Hp → Prop} {Y : Nat → Hp → V → Hp → Prop} (w : Walk J n G Y) {g : TG} {tt : TT} {tk tv : TE} {vs : List Nat} {H1 : Hp} {D : Addr} {Qd : Hp → Prop} (Pv : Nat → Hp → Prop) (h0 : Pv 0 (upd H1 D (.dK []))) (hG : ∀ i H, i ≤ n → Pv i H → G H)
    (hs : ∀ i x H H', i < n → Pv i H → Y i H x H' → g x (wipe σ vs) H' fun σ2 H2 => wipe σ2 vs = wipe σ vs ∧ tt σ2 H2 fun b H3 =>
      if b = true then tk σ2 H3 fun y H4 => tv σ2 H4 fun z H5 => ∃ kvs k, y = kV k ∧ H5 D = some (.dK kvs) ∧ kvs.length < sizeLine ∧ Pv (i + 1) (upd H5 D (.dK (putK kvs k z))) else Pv (i + 1) H3) (hd : ∀ H, Pv n H → Qd H) :
    ∃ W : Nat → Nat → Hp → Prop, (∃ m, W 0 m (upd H1 D (.dK []))) ∧ ∀ i m H, W i m H →
      (J.stop i H ∧ Qd H) ∨ (J.go i H ∧ ∃ Nx : Hp → Prop, (∀ H', Nx H' → ∃ m', m' < m ∧ W (i + 1) m' H') ∧ ∀ x H', J.yld i H x H' → g x (wipe σ vs) H' fun σ2 H2 => wipe σ2 vs = wipe σ vs ∧ tt σ2 H2 fun b H3 =>
        if b = true then tk σ2 H3 fun y H4 => tv σ2 H4 fun z H5 => ∃ kvs k, y = kV k ∧ H5 D = some (.dK kvs) ∧ kvs.length < sizeLine ∧ Nx (upd H5 D (.dK (putK kvs k z))) else Nx H3) := by
  refine ⟨fun i m H => m = n - i ∧ i ≤ n ∧ Pv i H, ⟨n, by simp, Nat.zero_le _, h0⟩, ?_⟩
  rintro i m H ⟨rfl, hi, p⟩
  have q := hG i H hi p
  by_cases hlt : i < n
  · refine .inr ⟨w.goes i H hlt q, Pv (i + 1), fun H' p' => ⟨n - (i + 1), by omega, rfl, hlt, p'⟩, fun x H' y => hs i x H H' hlt p (w.yields i H x H' hlt q y)⟩
  · have e : i = n := by omega
    subst e
    exact .inl ⟨w.stops H q, hd H p⟩
end
theorem r_xf {a C : Addr} {cls : Value} {d : Option Addr} {f : Str} {te : TE} {σ : St} {H : Hp} {Q : VK} (k : te σ H fun x H1 => x = .ref a ∧ cls = .ref C ∧ ∃ (dd : Addr) (fs : List (Str × V)) (v : V), d = some dd ∧ H1 dd = some (.xd fs) ∧ fs.lookup f = some v ∧ Q v H1) : tXf a cls d C f te σ H Q := k
theorem r_bm {K : PySem.W.Frag} {T : String} {r : V → List V → Hp → VK → Prop} {to : TE} {t : TA} {σ : St} {H : Hp} {Q : VK} (k : to σ H fun x H1 => tyV K T x H1 ∧ t σ H1 fun xs H2 => r x xs H2 Q) : tBM K T r to t σ H Q := k
theorem r_append {l : Addr} {xs : List V} {y : V} {H : Hp} {Q : VK} (h : H l = some (.lst xs)) (z : xs.length < sizeLine) (k : Q .non (upd H l (.lst (xs ++ [y])))) : rAppend (.ref l) [y] H Q := ⟨l, xs, y, rfl, rfl, h, z, k⟩
/-! ### a name that is a dict comprehension -/
section
variable {X : Cx}
theorem ps_setDc {i : Nat} {y : Str} {py : Pos} {kx vx tg iter : Expr} {ifs : List Expr} {scope : Scope} {own : List (Str × Nat)} {pos spos : Pos} {wi : TI} {g : TG} {tt : TT} {tk tv : TE} (hc : X.calm = true) (hN : X.N.Nodup) (hy : X.N[i]? = some y) (hyl : X.env.scope.names.lookup y = some .local)
    (hsw : swapsWith (.DictComp kx vx [⟨tg, iter, ifs, 0⟩] scope pos) (some (.Name y py)) spos.line X.env = pure true) (hi : PI X tg iter wi) (ok : BlkOk X.N X.env.scope scope own)
    (hg : ∀ (s : Shared) (H : Hp) (C : Addr) (cl : List (Str × Addr)) (fp : List Addr), PG (X.blk s H scope (compEnvC scope cl C X.env) fp) tg g) (ht : ∀ (s : Shared) (H : Hp) (C : Addr) (cl : List (Str × Addr)) (fp : List Addr), PTs (X.blk s H scope (compEnvC scope cl C X.env) fp) ifs tt)
    (hk : ∀ (s : Shared) (H : Hp) (C : Addr) (cl : List (Str × Addr)) (fp : List Addr), PE (X.blk s H scope (compEnvC scope cl C X.env) fp) kx tk)
    (he : ∀ (s : Shared) (H : Hp) (C : Addr) (cl : List (Str × Addr)) (fp : List Addr), PE (X.blk s H scope (compEnvC scope cl C X.env) fp) vx tv) (hs : ∀ x, foldedSetIterable iter X.env x = pure x := by intro _; rfl) :
    PS X (.Assign [.Name y py] (.DictComp kx vx [⟨tg, iter, ifs, 0⟩] scope pos) spos) (tAsg (tDc wi g tt tk tv (own.map (·.2))) (gName i)) := by
  refine ⟨fun pins s σ H D I h => ?_⟩
  rw [exec_Assign_Name_used _ _ _ _ hsw]
  refine wpAny_bind (wpAny_standAt (wpAny_bind ?_))
  show wpAny _ X.A (do let _ ← comprehension (.DictComp kx vx [⟨tg, iter, ifs, 0⟩] scope pos) scope X.env (firstIterPos [⟨tg, iter, ifs, 0⟩] pos) newDict false (eval iter X.env) (some (assign (.Name y py) X.env))) _ _ s
  have h : tDc wi g tt tk tv (own.map (·.2)) σ H (fun x H1 => gName i x σ H1 D.nx) := h
  refine wpAny_bind (thn (dc_core (Qf := fun _ s' => SP X pins D .next s') hc hN I hi ok hg ht hk he hs h fun L C s' m H' I' q hn f => ?_) fun _ s' hq => wpAny_pure (wpAny_pure hq))
  show wpAny _ _ (assign (.Name y py) X.env (.ref L)) _ _ _
  refine wpAny_assign_Name (store_ok2 (v := V.ref L) I' hN hy (.inl hyl) rfl (fun s2 I2 ⟨a, sb, ha⟩ => ?_) (.inr hyl))
  obtain ⟨f0, f1, f2, f3, f4, f5⟩ := f
  have haC : C ≠ a := by
    rcases ha with z | z
    · rw [z]; exact f1
    · exact fun e => f4 y a z e.symm
  refine ⟨m, hn.sameBut sb haC, fun h3 sb3 => ?_⟩
  exact ⟨_, H', I2.turned (t' := s2.toks) (fun b o hb e => (sb3.2 b hb).trans e) f0 f1 f3 f4 f5, q⟩
theorem sw_trueD {k v : Expr} {gs : List Comprehension} {scope : Scope} {pos py : Pos} {y : Str} {l : Nat} {env : Env} (hk : env.scope.kind = .function) (hy : env.scope.names.lookup y = some .local) (hl : (py.line == pos.line) = true)
    (ha : (scope.names.any fun (n, k) => n == y && (k == .local || k == .cell)) = false) : swapsWith (.DictComp k v gs scope pos) (some (.Name y py)) l env = pure true := by
  have ky : env.kindOf y = some .local := hy
  have hb : env.blockKind = .function := by unfold Env.blockKind; rw [hk]; rfl
  unfold swapsWith
  simp only [hb, ky, ha, Expr.pos, hl]
  rfl
end
end Hg
end L2
end

section
set_option Elab.async false
set_option linter.all false
set_option maxRecDepth 100000
set_option maxHeartbeats 4000000
/-! Operators of own classes: a op b, -a, x in a, a == b, a[i], a as a test. -/
namespace L2
namespace Hg
open PySem PySem.Spec PyProof.Rows
section
variable {X : Cx} {CX : CXT} {k : Nat} {C : Addr} {ps : List Str} {sp : Sp} {E : XK}
/-- the method runs at an instance and what stands behind it -/
theorem own_call {f : Addr} {fd : FuncData} {pins : List (Addr × Obj)} {σ : St} {H : Hp} {s : Shared} {Q : VK} {us : List Value} {vs : List V} (F : FnOk X.prog X.w X.K X.mg X.base CX k f fd ps sp) (hb : Binds X.K fd ps []) (hr : Room k X.A) (hx : Passes CX X E)
    (I : Inv X pins σ H s) (r : Vals vs us) (h : sp vs H Q E) : wpAny (model X.prog X.w) X.A (call (.ref f) us) (EP X pins σ Q) X.xe s := by
  have h' : sp (vs ++ []) H Q E := by rw [List.append_nil]; exact h
  exact run_fn F hr hb .nil hx I r h'
theorem relV_back {v : V} {u : Value} {s : Shared} {Q : Value → Shared → Prop} (r : RelV v u) (q : Q u s) : PySem.W.CmpBack Q u s := by
  cases v with
  | non => cases r; exact q
  | bl b => cases r; exact q
  | int i => obtain ⟨t, rfl⟩ := r; exact q
  | str x => obtain ⟨t, rfl⟩ := r; exact q
  | ref a => cases r; exact q
  | byt b => obtain ⟨t, rfl⟩ := r; exact q
  | flt b => obtain ⟨t, rfl⟩ := r; exact q
  | ty n => cases r; exact q
theorem ins_at {pins : List (Addr × Obj)} {σ : St} {H : Hp} {s : Shared} {a dx : Addr} {fs : List (Str × V)} (I : Inv X pins σ H s) (e : H a = some (.ins C dx fs)) : ∃ ox od, PySem.W.InstAt s.heap a ox C od := by
  obtain ⟨mA, O, _⟩ := ins_get I.hok e
  obtain ⟨od, J, _⟩ := O.look
  exact ⟨_, _, J⟩
/-- a op b, both of the class C -/
def rOwn (C : Addr) (sp : Sp) (E : XK) : R2 := fun x y H Q => ∃ (a dx : Addr) (fs : List (Str × V)) (b dy : Addr) (gs : List (Str × V)), x = .ref a ∧ y = .ref b ∧ H a = some (.ins C dx fs) ∧ H b = some (.ins C dy gs) ∧ sp [x, y] H Q E
theorem o_own {op : Operator} {m : Str} (M : MetOk X.prog X.w X.K X.mg X.base CX k C m ps sp) (sf : PySem.W.selfFirst X.K C = true) (hr : Room k X.A) (hx : Passes CX X E) (hm : PySem.dunder op.info.2 = m := by rfl) : OpR X (binaryOp op) (rOwn C sp E) := by
  subst hm
  obtain ⟨_, f, fd, hM, F, hb⟩ := M
  intro pins s σ H x y v u Q I rx ry h
  obtain ⟨a, dx, fs, b, dy, gs, rfl, rfl, ha, hb', q⟩ := h
  obtain rfl : v = Value.ref a := rx
  obtain rfl : u = Value.ref b := ry
  obtain ⟨m, Fr⟩ := I.fr
  obtain ⟨ox, od, J⟩ := ins_at I ha
  obtain ⟨oy, oe, J2⟩ := ins_at I hb'
  refine PySem.W.binop_K Fr I.ok.mod.kin J J2.type sf hM.at_ hM.fn (wpAny_mono (own_call (vs := [V.ref a, V.ref b]) F hb hr hx I (.cons rfl (.cons rfl .nil)) q) (fun w s' hq => ?_) fun _ _ z => z)
  obtain ⟨z, H1, I1, rz, q1⟩ := hq
  exact relV_back rz ⟨z, H1, I1, rz, q1⟩
/-- x in b, b of the class C -/
def rInOwn (C : Addr) (sp : Sp) (E : XK) : R2 := fun x y H Q => ∃ (b dy : Addr) (gs : List (Str × V)), y = .ref b ∧ H b = some (.ins C dy gs) ∧ sp [y, x] H (fun v H' => ∃ c, v = .bl c ∧ Q (.bl c) H') E
theorem truthy_bool {M : Model} {A : Around} {b : Bool} {Q : Bool → Shared → Prop} {E' : Value → Shared → Prop} {s : Shared} (h : Q b s) : wpAny M A (truthy (.bool b)) Q E' s := wpAny_pure h
theorem o_inOwn (M : MetOk X.prog X.w X.K X.mg X.base CX k C "__contains__" ps sp) (hr : Room k X.A) (hx : Passes CX X E) : OpR X (compareOp .In) (rInOwn C sp E) := by
  obtain ⟨_, f, fd, hM, F, hb⟩ := M
  intro pins s σ H x y v u Q I rx ry h
  obtain ⟨b, dy, gs, rfl, hb', q⟩ := h
  obtain rfl : u = Value.ref b := ry
  obtain ⟨m, Fr⟩ := I.fr
  obtain ⟨ox, od, J⟩ := ins_at I hb'
  refine PySem.W.in_K Fr I.ok.mod.kin J hM.at_ hM.fn (wpAny_mono (own_call (vs := [V.ref b, x]) F hb hr hx I (.cons rfl (.cons rx .nil)) q) (fun w s' hq => ?_) fun _ _ z => z)
  obtain ⟨z, H1, I1, rz, c, rfl, q1⟩ := hq
  obtain rfl : w = Value.bool c := rz
  exact truthy_bool ⟨.bl c, H1, I1, rfl, q1⟩
theorem o_notInOwn (M : MetOk X.prog X.w X.K X.mg X.base CX k C "__contains__" ps sp) (hr : Room k X.A) (hx : Passes CX X E) :
    OpR X (compareOp .NotIn) (fun x y H Q => ∃ (b dy : Addr) (gs : List (Str × V)), y = .ref b ∧ H b = some (.ins C dy gs) ∧ sp [y, x] H (fun v H' => ∃ c, v = .bl c ∧ Q (.bl (!c)) H') E) := by
  obtain ⟨_, f, fd, hM, F, hb⟩ := M
  intro pins s σ H x y v u Q I rx ry h
  obtain ⟨b, dy, gs, rfl, hb', q⟩ := h
  obtain rfl : u = Value.ref b := ry
  obtain ⟨m, Fr⟩ := I.fr
  obtain ⟨ox, od, J⟩ := ins_at I hb'
  refine PySem.W.notIn_K Fr I.ok.mod.kin J hM.at_ hM.fn (wpAny_mono (own_call (vs := [V.ref b, x]) F hb hr hx I (.cons rfl (.cons rx .nil)) q) (fun w s' hq => ?_) fun _ _ z => z)
  obtain ⟨z, H1, I1, rz, c, rfl, q1⟩ := hq
  obtain rfl : w = Value.bool c := rz
  exact truthy_bool ⟨.bl (!c), H1, I1, rfl, q1⟩
/-- a < b, a == b and so on, both of the class C -/
theorem o_cmpOwn {op : CmpOp} {m : Str} (M : MetOk X.prog X.w X.K X.mg X.base CX k C m ps sp) (hu : X.A.units < cLine) (hn : PySem.W.notFirst X.K C (.ref C) = true) (hr : Room k X.A) (hx : Passes CX X E) (hm : (cmpInfo op).2.1 = m := by rfl)
    (ho : ∀ a b, compareOp op a b = richCompare op a b := by intro _ _; rfl) : OpR X (compareOp op) (rOwn C sp E) := by
  subst hm
  obtain ⟨_, f, fd, hM, F, hb⟩ := M
  intro pins s σ H x y v u Q I rx ry h
  obtain ⟨a, dx, fs, b, dy, gs, rfl, rfl, ha, hb', q⟩ := h
  obtain rfl : v = Value.ref a := rx
  obtain rfl : u = Value.ref b := ry
  obtain ⟨m, Fr⟩ := I.fr
  obtain ⟨ox, od, J⟩ := ins_at I ha
  obtain ⟨oy, oe, J2⟩ := ins_at I hb'
  rw [ho]
  refine PySem.W.cmp_K hu Fr I.ok.mod.kin J J2.type hn hM.at_ hM.fn (wpAny_mono (own_call (vs := [V.ref a, V.ref b]) F hb hr hx I (.cons rfl (.cons rfl .nil)) q) (fun w s' hq => ?_) fun _ _ z => z)
  obtain ⟨z, H1, I1, rz, q1⟩ := hq
  exact relV_back rz ⟨z, H1, I1, rz, q1⟩
/-- -a, ~a -/
def rUnOwn (C : Addr) (sp : Sp) (E : XK) : V → Hp → VK → Prop := fun x H Q => ∃ (a dx : Addr) (fs : List (Str × V)), x = .ref a ∧ H a = some (.ins C dx fs) ∧ sp [x] H Q E
theorem un_invOwn (M : MetOk X.prog X.w X.K X.mg X.base CX k C "__invert__" ps sp) (hr : Room k X.A) (hx : Passes CX X E) : UnR X (unaryOp .Invert) (rUnOwn C sp E) := by
  obtain ⟨_, f, fd, hM, F, hb⟩ := M
  intro pins s σ H x v Q I rx h
  obtain ⟨a, dx, fs, rfl, ha, q⟩ := h
  obtain rfl : v = Value.ref a := rx
  obtain ⟨ox, od, J⟩ := ins_at I ha
  unfold unaryOp
  refine wpAny_holding ?_
  refine wpAny_bind (m := callSpecial? (.ref a) (Str.ofString "__invert__")) (PySem.W.special_fn I.kIn J hM.at_ (beq_iff_eq.mp hM.fn) ?_)
  exact wpAny_mono (own_call (vs := [V.ref a]) F hb hr hx I (.cons rfl .nil) q) (fun w s' hq => wpAny_pure hq) fun _ _ z => z
theorem un_negOwn (M : MetOk X.prog X.w X.K X.mg X.base CX k C "__neg__" ps sp) (hr : Room k X.A) (hx : Passes CX X E) : UnR X (unaryOp .USub) (rUnOwn C sp E) := by
  obtain ⟨_, f, fd, hM, F, hb⟩ := M
  intro pins s σ H x v Q I rx h
  obtain ⟨a, dx, fs, rfl, ha, q⟩ := h
  obtain rfl : v = Value.ref a := rx
  obtain ⟨ox, od, J⟩ := ins_at I ha
  unfold unaryOp
  refine wpAny_holding ?_
  refine wpAny_bind (m := callSpecial? (.ref a) (Str.ofString "__neg__")) (PySem.W.special_fn I.kIn J hM.at_ (beq_iff_eq.mp hM.fn) ?_)
  exact wpAny_mono (own_call (vs := [V.ref a]) F hb hr hx I (.cons rfl .nil) q) (fun w s' hq => wpAny_pure hq) fun _ _ z => z
/-- a as a test, by its `__bool__` -/
def rTruOwn (C : Addr) (sp : Sp) (E : XK) : V → Hp → (Bool → Hp → Prop) → Prop := fun x H Q => ∃ (a dx : Addr) (fs : List (Str × V)), x = .ref a ∧ H a = some (.ins C dx fs) ∧ sp [x] H (fun v H' => ∃ c, v = .bl c ∧ Q c H') E
theorem tru_own (M : MetOk X.prog X.w X.K X.mg X.base CX k C "__bool__" ps sp) (hr : Room k X.A) (hx : Passes CX X E) : TruR X (rTruOwn C sp E) := by
  obtain ⟨_, f, fd, hM, F, hb⟩ := M
  intro pins s σ H x v Q I rx h
  obtain ⟨a, dx, fs, rfl, ha, q⟩ := h
  obtain rfl : v = Value.ref a := rx
  obtain ⟨ox, od, J⟩ := ins_at I ha
  obtain ⟨m, Fr⟩ := I.fr
  refine PySem.W.truthy_K Fr I.ok.mod.kin J hM.at_ hM.fn (wpAny_mono (own_call (vs := [V.ref a]) F hb hr hx I (.cons rfl .nil) q) (fun w s' hq => ?_) fun _ _ z => z)
  obtain ⟨z, H1, I1, rz, c, rfl, q1⟩ := hq
  obtain rfl : w = Value.bool c := rz
  exact ⟨H1, I1, q1⟩
end
theorem ifBound_B {M : Model} {A : Around} {E : Value → Shared → Prop} {s : Shared} {K : PySem.W.Frag} {x C : Addr} {ox : Obj} {od : Option Obj} {name : Str} {id : String} {args : List Value} {Q : Option Value → Shared → Prop}
    (X : K.In s.heap) (J : PySem.W.InstAt s.heap x ox C od) (hs : PySem.W.findIn K (.ref C) name = some (some (.builtin id))) (hbd : bindSpecial (.builtin id) (.ref x) = pure (.builtin id, [.ref x]))
    (h : wpAny M A (call (.builtin id) (.ref x :: args)) (fun v => Q (some v)) E s) : wpAny M A (callSpecialIfBound? (.ref x) name args) Q E s := by
  simp only [callSpecialIfBound?, bindSpecialIfBound?, hbd]
  refine wpAny_holding ?_
  refine wpAny_bind (wpAny_bind (wpAny_bind (J.type.here ?_)))
  refine (PySem.W.looks_findIn X hs).here ?_
  refine wpAny_bind (wpAny_askSetting (wpAny_ite ?_))
  have last : wpAny M A (call (.builtin id) ([.ref x] ++ args) >>= fun v => pure (some v)) Q E s := wpAny_bind (wpAny_mono h (fun _ _ z => wpAny_pure z) fun _ _ z => z)
  split
  · exact wpAny_bind (wpAny_of_eq hbd (wpAny_pure (by exact last)))
  · exact wpAny_tryCatch (wpAny_bind (wpAny_of_eq hbd (wpAny_pure (by exact last))))
theorem ne_bind (self : Value) : bindSpecial (.builtin "object.__ne__") self = pure (.builtin "object.__ne__", [self]) := PySem.F.slot_object_ne.bind self
theorem ne_kind' : builtinKind "object.__ne__" = some .slot := by decide +kernel
theorem ne_split : splitId "object.__ne__" = some ("object", "__ne__") := by decide +kernel
theorem ne_plain : plainId "object.__ne__" = true := by decide +kernel
section
variable {X : Cx} {k : Nat} {C : Addr} {ps : List Str} {sp : Sp}
/-- a != b by object's own, which asks the class's == -/
theorem o_neOwn (M : MetOk X.prog X.w X.K X.mg X.base CX0 k C "__eq__" ps sp) (hne : PySem.W.findIn X.K (.ref C) "__ne__" = some (some (.builtin "object.__ne__"))) (hob : PySem.W.mroIn X.K C (.type "object") = some true)
    (hu : X.A.units + 64 < cLine) (hr : Room (k + 1) X.A) : OpR X (compareOp .NotEq) (fun x y H Q => ∃ (a dx : Addr) (fs : List (Str × V)) (b dy : Addr) (gs : List (Str × V)), x = .ref a ∧ y = .ref b ∧ H a = some (.ins C dx fs) ∧ H b = some (.ins C dy gs) ∧
      sp [x, y] H (fun v H' => ∃ c, v = .bl c ∧ Q (.bl (!c)) H') E0) := by
  obtain ⟨_, f, fd, hM, F, hb⟩ := M
  intro pins s σ H x y v u Q I rx ry h
  obtain ⟨a, dx, fs, b, dy, gs, rfl, rfl, ha, hb', q⟩ := h
  obtain rfl : v = Value.ref a := rx
  obtain rfl : u = Value.ref b := ry
  obtain ⟨ox, od, J⟩ := ins_at I ha
  obtain ⟨oy, oe, J2⟩ := ins_at I hb'
  show wpAny _ _ (richCompare .NotEq (.ref a) (.ref b)) _ _ _
  have run : wpAny (model X.prog X.w) X.A.in1 (call (.ref f) [.ref a, .ref b]) (EP X pins σ fun v H' => ∃ c, v = .bl c ∧ Q (.bl (!c)) H') (fun _ _ => False) s := by
    have h' : sp ([V.ref a, V.ref b] ++ []) H (fun v H' => ∃ c, v = .bl c ∧ Q (.bl (!c)) H') E0 := by rw [List.append_nil]; exact q
    have vals : Vals ([V.ref a, V.ref b] ++ []) ([Value.ref a, Value.ref b] ++ []) := .cons (show RelV (.ref a) (.ref a) from rfl) (.cons (show RelV (.ref b) (.ref b) from rfl) .nil)
    refine wpAny_call (codeAny_mono (F.run X.A.in1 X.stack s H ⟨[.ref a, .ref b], []⟩ ([Value.ref a, Value.ref b] ++ []) ([V.ref a, V.ref b] ++ []) _ E0 hr.in1 I.env0.in1 (hb s [.ref a, .ref b] I.kIn (F.len _ _ _ _ h')) vals h') fun r s' hq => ?_)
    cases r with
    | error e => exact False.elim hq
    | ok fl =>
      cases fl with
      | ret u => exact I.after hq
      | next => exact False.elim hq
      | brk => exact False.elim hq
      | cont => exact False.elim hq
  have inst : PySem.W.Looks (model X.prog X.w) s.heap (isInstance (.ref a) (.type "object")) true := J.type.andThen (PySem.W.looks_mroIn I.kIn hob)
  obtain ⟨m, Fr⟩ := I.fr
  have core : wpAny (model X.prog X.w) X.A (tryCompare (.ref a) "__ne__" (.ref b)) (fun r s' => ∃ v, r = some v ∧ EP X pins σ Q v s') X.xe s := by
    unfold tryCompare
    refine wpAny_bind (ifBound_B I.kIn J hne (ne_bind _) ?_)
    refine wpAny_call (codeAny_call_builtin ne_plain PySem.F.entry_object_ne ?_)
    refine PySem.W.check_slot ne_kind' ne_split inst (PySem.F.args_object_ne_2 _ _) ?_
    have hu1 : X.A.in1.units < cLine := by
      show X.A.units + 1 < cLine
      omega
    unfold Builtin.«object.__ne__»
    refine wpAny_bind (wpAny_pure ?_)
    refine wpAny_bind (wpAny_cRoomFor hu1 ?_)
    refine wpAny_bind (PySem.W.ifBound_K I.kIn J hM.at_ hM.fn (wpAny_mono run (fun w s' hq => ?_) fun _ _ z => False.elim z))
    obtain ⟨z, H1, I1, rz, c, rfl, q1⟩ := hq
    obtain rfl : w = Value.bool c := rz
    refine wpAny_bind (truthy_bool ?_)
    refine wpAny_pure ?_
    exact wpAny_pure ⟨_, rfl, .bl (!c), H1, I1, rfl, q1⟩
  have same : PySem.W.notFirst X.K C (.ref C) = true := by
    unfold PySem.W.notFirst
    rw [Bool.or_eq_true]
    exact .inl (beq_self_eq_true _)
  have hu0 : X.A.units < cLine := by omega
  unfold richCompare
  simp only [oneThing_ref]
  refine wpAny_holding (wpAny_bind (wpAny_cRoomFor hu0 ?_))
  refine wpAny_bind (J.type.here ?_)
  refine wpAny_bind (J2.type.here ?_)
  rw [if_neg (by simp)]
  refine wpAny_bind (wpAny_pure ?_)
  rw [if_neg Bool.false_ne_true]
  refine wpAny_bind (wpAny_mono core (fun r s' z => ?_) fun _ _ e => e)
  obtain ⟨v, rfl, hq⟩ := z
  exact wpAny_pure hq
end
theorem nf_self {K : PySem.W.Frag} {C : Addr} : PySem.W.notFirst K C (.ref C) = true := by
  unfold PySem.W.notFirst
  rw [Bool.or_eq_true]
  exact .inl (beq_self_eq_true _)
theorem hu0_of {A : Around} {k : Nat} (hr : Room k A) : A.units < cLine := Nat.lt_of_le_of_lt (Nat.le_add_right _ 64) hr.units
end Hg
end L2
end

section
set_option Elab.async false
set_option linter.all false
set_option maxRecDepth 100000
set_option maxHeartbeats 4000000
/-! a == b where b is of any kind; str(a) by an own `__str__`; a[i] by an own `__getitem__`; joined texts. -/
namespace L2
namespace Hg
open PySem PySem.Spec PyProof.Rows
theorem kit_tyOwn {K : PySem.W.Frag} {C : Addr} {T : String} {b : Bool} (hd : PySem.W.hasDictIn K C = true) (ht : PySem.W.typeIn K (.ref C) = some (.type "type")) (h : PySem.W.subIn K (.type T) (.ref C) = some b) : PySem.W.kitOne K (.type T) (.ref C) = some b := by
  obtain ⟨cd, hc, _⟩ := PySem.W.any_some hd
  have e2 : ((PySem.W.clsIn K C).isSome && PySem.W.typeIn K (.ref C) == some (.type "type")) = true := by rw [hc, ht] <;> rfl
  show (if ((Value.type T == Value.ref C) = true) then some true else (if ((PySem.W.clsIn K C).isSome && PySem.W.typeIn K (.ref C) == some (.type "type")) = true then PySem.W.subIn K (.type T) (.ref C) else none)) = some b
  rw [if_neg (fun z => by have := beq_iff_eq.mp z; cases this), if_pos e2]
  exact h
theorem kitAny2 {K : PySem.W.Frag} {t u1 u2 : Value} {a b : Bool} (h1 : PySem.W.kitOne K t u1 = some a) (h2 : PySem.W.kitOne K t u2 = some b) : PySem.W.kitAny K t [u1, u2] = some (a || b) := by
  unfold PySem.W.kitAny
  rw [h1]
  cases a with
  | true => rfl
  | false =>
    show (match PySem.W.kitOne K t u2 with | some true => some true | some false => PySem.W.kitAny K t [] | none => none) = _
    rw [h2]
    cases b <;> rfl
theorem nf_ty {K : PySem.W.Frag} {C : Addr} {T : String} (h : PySem.W.subIn K (.type T) (.ref C) = some false) : PySem.W.notFirst K C (.type T) = true := by
  unfold PySem.W.notFirst
  rw [Bool.or_eq_true]
  exact .inr (by rw [h]; rfl)
section
variable {X : Cx} {CX : CXT} {k : Nat} {C : Addr} {ps : List Str} {sp : Sp} {E : XK} {pins : List (Addr × Obj)} {σ : St} {H : Hp} {s : Shared}
theorem ty_at {x : V} {u t : Value} (I : Inv X pins σ H s) (rx : RelV x u) (ty : TyX X.K H x t) : PySem.W.Looks (model X.prog X.w) s.heap (typeOf u) t := by
  obtain ⟨P, kx, hp, _⟩ := kit_of I rx ty
  exact kx.ty _ _ I.kIn hp
/-- a < b, a == b, .., a of the class C, b of a kind that is no class below C -/
def rCmpA (K : PySem.W.Frag) (C : Addr) (sp : Sp) (E : XK) : R2 := fun x y H Q => ∃ (a dx : Addr) (fs : List (Str × V)) (t : Value), x = .ref a ∧ H a = some (.ins C dx fs) ∧ TyX K H y t ∧ PySem.W.notFirst K C t = true ∧ sp [x, y] H Q E
theorem o_cmpAny {op : CmpOp} {m : Str} (M : MetOk X.prog X.w X.K X.mg X.base CX k C m ps sp) (K : PySem.W.Frag) (hu : X.A.units < cLine) (hr : Room k X.A) (hx : Passes CX X E) (hm : (cmpInfo op).2.1 = m := by rfl)
    (ho : ∀ a b, compareOp op a b = richCompare op a b := by intro _ _; rfl) (hK : X.K = K := by rfl) : OpR X (compareOp op) (rCmpA K C sp E) := by
  subst hm hK
  obtain ⟨_, f, fd, hM, F, hb⟩ := M
  intro pins s σ H x y v u Q I rx ry h
  obtain ⟨a, dx, fs, t, rfl, ha, ty, hn, q⟩ := h
  obtain rfl : v = Value.ref a := rx
  obtain ⟨m, Fr⟩ := I.fr
  obtain ⟨ox, od, J⟩ := ins_at I ha
  rw [ho]
  refine PySem.W.cmp_K hu Fr I.ok.mod.kin J (ty_at I ry ty) hn hM.at_ hM.fn (wpAny_mono (own_call (vs := [V.ref a, y]) F hb hr hx I (.cons rfl (.cons ry .nil)) q) (fun w s' hq => ?_) fun _ _ z => z)
  obtain ⟨z, H1, I1, rz, q1⟩ := hq
  exact relV_back rz ⟨z, H1, I1, rz, q1⟩
theorem r_cmpA {K : PySem.W.Frag} {a dx : Addr} {fs : List (Str × V)} {t : Value} {y : V} {Q : VK} (ha : H a = some (.ins C dx fs)) (ty : TyX K H y t) (nf : PySem.W.notFirst K C t = true) (k : sp [.ref a, y] H Q E) : rCmpA K C sp E (.ref a) y H Q := ⟨a, dx, fs, t, rfl, ha, ty, nf, k⟩
theorem r_ownB {a dx b dy : Addr} {fs gs : List (Str × V)} {Q : VK} (ha : H a = some (.ins C dx fs)) (hb : H b = some (.ins C dy gs)) (k : sp [.ref a, .ref b] H Q E) : rOwn C sp E (.ref a) (.ref b) H Q := ⟨a, dx, fs, b, dy, gs, rfl, rfl, ha, hb, k⟩
theorem r_inOwn {x : V} {b dy : Addr} {gs : List (Str × V)} {Q : VK} (hb : H b = some (.ins C dy gs)) (k : sp [.ref b, x] H (fun v H' => ∃ c, v = .bl c ∧ Q (.bl c) H') E) : rInOwn C sp E x (.ref b) H Q := ⟨b, dy, gs, rfl, hb, k⟩
/-- str(a) by the class's own `__str__` -/
def rStrOwn (C : Addr) (sp : Sp) : List V → Hp → VK → Prop := fun xs H Q => ∃ (a dx : Addr) (fs : List (Str × V)), xs = [.ref a] ∧ H a = some (.ins C dx fs) ∧ sp [.ref a] H (fun v H' => ∃ y, v = .str y ∧ Q (.str y) H') E0
theorem c_strOwn (M : MetOk X.prog X.w X.K X.mg X.base CX0 k C "__str__" ps sp) (hu : X.A.units + 64 < cLine) (hr : Room (k + 2) X.A) : CallR X (.type "str") (rStrOwn C sp) := by
  obtain ⟨_, f, fd, hM, F, hb⟩ := M
  intro pins s σ H xs us Q I r h
  obtain ⟨a, dx, fs, rfl, ha, q⟩ := h
  cases r with
  | cons r1 r2 =>
    cases r2
    cases (show _ = Value.ref a from r1)
    obtain ⟨ox, od, J⟩ := ins_at I ha
    have run : wpAny (model X.prog X.w) X.A.in1.in1 (call (.ref f) [.ref a]) (EP X pins σ fun v H' => ∃ y, v = .str y ∧ Q (.str y) H') (fun _ _ => False) s := by
      have h' : sp ([V.ref a] ++ []) H (fun v H' => ∃ y, v = .str y ∧ Q (.str y) H') E0 := by rw [List.append_nil]; exact q
      have vals : Vals ([V.ref a] ++ []) ([Value.ref a] ++ []) := .cons (show RelV (.ref a) (.ref a) from rfl) .nil
      refine wpAny_call (codeAny_mono (F.run X.A.in1.in1 X.stack s H ⟨[.ref a], []⟩ ([Value.ref a] ++ []) ([V.ref a] ++ []) _ E0 hr.in1.in1 I.env0.in1.in1 (hb s [.ref a] I.kIn (F.len _ _ _ _ h')) vals h') fun r s' hq => ?_)
      cases r with
      | error e => exact False.elim hq
      | ok fl =>
        cases fl with
        | ret u => exact I.after hq
        | next => exact False.elim hq
        | brk => exact False.elim hq
        | cont => exact False.elim hq
    refine PySem.W.kso_call (by show X.A.units + 1 + 1 < cLine; omega) I.kIn J hM.at_ hM.fn (wpAny_mono run (fun u s' hq => ?_) fun _ _ z => False.elim z)
    obtain ⟨z, H1, I1, rz, y, rfl, q1⟩ := hq
    obtain ⟨t, rfl⟩ := rz
    exact ⟨.str y, H1, I1, ⟨t, rfl⟩, q1⟩
theorem r_strOwn {a dx : Addr} {fs : List (Str × V)} {Q : VK} (ha : H a = some (.ins C dx fs)) (k : sp [.ref a] H (fun v H' => ∃ y, v = .str y ∧ Q (.str y) H') E0) : rStrOwn C sp [.ref a] H Q := ⟨a, dx, fs, rfl, ha, k⟩
end
/-! ### a as a test -/
def tTrO (C : Addr) (sp : Sp) (E : XK) (ta : TE) : TT := fun σ H Q => ta σ H fun x H' => rTruOwn C sp E x H' Q
theorem pt_own {X : Cx} {CX : CXT} {k : Nat} {C : Addr} {ps : List Str} {sp : Sp} {E : XK} {a : Expr} {ta : TE} (M : MetOk X.prog X.w X.K X.mg X.base CX k C "__bool__" ps sp) (hr : Room k X.A) (hx : Passes CX X E) (ha : PE X a ta)
    (he : ∀ whole, isTrue a X.env whole = (do let v ← whole; standAt a.pos; holding [v] (truthy v)) := by intro _; rfl) : PT X a (tTrO C sp E ta) := pt_truthR ha (tru_own M hr hx) he
theorem r_trO {C : Addr} {sp : Sp} {E : XK} {ta : TE} {σ : St} {H : Hp} {Q : Bool → Hp → Prop} (k : ta σ H fun x H' => rTruOwn C sp E x H' Q) : tTrO C sp E ta σ H Q := k
theorem r_truO {C a dx : Addr} {sp : Sp} {E : XK} {fs : List (Str × V)} {H : Hp} {Q : Bool → Hp → Prop} (ha : H a = some (.ins C dx fs)) (k : sp [.ref a] H (fun v H' => ∃ c, v = .bl c ∧ Q c H') E) : rTruOwn C sp E (.ref a) H Q := ⟨a, dx, fs, rfl, ha, k⟩
/-! ### bool(a) by an own `__bool__` -/
open Builtin in
theorem bool_new_tree (v : Value) : «bool.__new__» ⟨[.type "bool", v], []⟩ = (do
    if !(← isType (.type "bool")) then
      rule "bool.__new__.no-type"; raiseError "TypeError" s!"bool.__new__(X): X is not a type object ({← typeNameOf (.type "bool")})"
    if !(← isSubtype (.type "bool") (.type "bool")) then
      rule "bool.__new__.no-subtype"; raiseError "TypeError" s!"bool.__new__({← typeName (.type "bool")}): {← typeName (.type "bool")} is not a subtype of bool"
    ret (.bool (← truthy v))) := rfl
section
variable {X : Cx} {k : Nat} {C : Addr} {ps : List Str} {sp : Sp} {H : Hp}
def rBoolOwn (C : Addr) (sp : Sp) : List V → Hp → VK → Prop := fun xs H Q => ∃ (a dx : Addr) (fs : List (Str × V)), xs = [.ref a] ∧ H a = some (.ins C dx fs) ∧ sp [.ref a] H (fun v H' => ∃ c, v = .bl c ∧ Q (.bl c) H') E0
theorem c_boolOwn (M : MetOk X.prog X.w X.K X.mg X.base CX0 k C "__bool__" ps sp) (hr : Room (k + 2) X.A) : CallR X (.type "bool") (rBoolOwn C sp) := by
  obtain ⟨_, f, fd, hM, F, hb⟩ := M
  intro pins s σ H xs us Q I r h
  obtain ⟨a, dx, fs, rfl, ha, q⟩ := h
  cases r with
  | cons r1 r2 =>
    cases r2
    cases (show _ = Value.ref a from r1)
    obtain ⟨ox, od, J⟩ := ins_at I ha
    obtain ⟨m, Fr⟩ := I.fr
    have run : wpAny (model X.prog X.w) X.A.in1.in1 (call (.ref f) [.ref a]) (EP X pins σ fun v H' => ∃ c, v = .bl c ∧ Q (.bl c) H') (fun _ _ => False) s := by
      have h' : sp ([V.ref a] ++ []) H (fun v H' => ∃ c, v = .bl c ∧ Q (.bl c) H') E0 := by rw [List.append_nil]; exact q
      have vals : Vals ([V.ref a] ++ []) ([Value.ref a] ++ []) := .cons (show RelV (.ref a) (.ref a) from rfl) .nil
      refine wpAny_call (codeAny_mono (F.run X.A.in1.in1 X.stack s H ⟨[.ref a], []⟩ ([Value.ref a] ++ []) ([V.ref a] ++ []) _ E0 hr.in1.in1 I.env0.in1.in1 (hb s [.ref a] I.kIn (F.len _ _ _ _ h')) vals h') fun r s' hq => ?_)
      cases r with
      | error e => exact False.elim hq
      | ok fl =>
        cases fl with
        | ret u => exact I.after hq
        | next => exact False.elim hq
        | brk => exact False.elim hq
        | cont => exact False.elim hq
    refine callType_codes (T := "bool") (Bi := Builtin.«object.__init__») (Q₁ := fun r s₁ => ∃ c, r = .bool c ∧ EP X pins σ Q (.bool c) s₁) PySem.F.called_bool (PySem.F.typeCall_bool_1 _) PySem.F.entry_object_init ?_ ?_
    · refine codeAny_of_tree (show wpAny _ X.A.in1.in1 (do checkBuiltinCall "bool.__new__" ⟨[.type "bool", .ref a], []⟩; again (.builtin "bool.__new__" ⟨[.type "bool", .ref a], []⟩)) _ _ s from ?_)
      refine wpAny_bind (wpAny_of_eq (PySem.F.newCall_bool_1 _) (wpAny_pure ⟨plainId_quiet (by decide +kernel) _, codeAny_builtin PySem.F.entry_bool_new ?_⟩))
      rw [Around.under_plainId (by decide +kernel) _, bool_new_tree]
      refine wpAny_bind (wpAny_pure ?_)
      refine wpAny_bind (wpAny_of_eq PySem.F.conv_sub_bool ?_)
      refine wpAny_bind (PySem.W.truthy_K Fr I.ok.mod.kin J hM.at_ hM.fn (wpAny_mono run (fun u s' hq => ?_) fun _ _ z => False.elim z))
      obtain ⟨z, H1, I1, rz, c, rfl, q1⟩ := hq
      obtain rfl : u = Value.bool c := rz
      exact wpAny_pure ⟨c, rfl, .bl c, H1, I1, rfl, q1⟩
    · rintro obj s₁ ⟨c, rfl, hq⟩
      exact ⟨rfl, PySem.F.args_object_init_2 _ _, object_init_meets PySem.F.called_bool.init.lookup PySem.F.called_bool.made (by decide) X.prog X.w X.A.in1 _ s₁ ⟨rfl, rfl, hq⟩⟩
theorem r_boolOwn {a dx : Addr} {fs : List (Str × V)} {Q : VK} (ha : H a = some (.ins C dx fs)) (k : sp [.ref a] H (fun v H' => ∃ c, v = .bl c ∧ Q (.bl c) H') E0) : rBoolOwn C sp [.ref a] H Q := ⟨a, dx, fs, rfl, ha, k⟩
end
/-! ### a[i] by an own `__getitem__` -/
def tSubO (C : Addr) (sp : Sp) (E : St → XK) (ta tb : TE) : TE := fun σ H Q => ta σ H fun x H1 => tb σ H1 fun y H2 => ∃ (a dx : Addr) (fs : List (Str × V)), x = .ref a ∧ H2 a = some (.ins C dx fs) ∧ sp [x, y] H2 Q (E σ)
section
variable {X : Cx} {CX : CXT} {k : Nat} {C : Addr} {ps : List Str} {sp : Sp} {E : St → XK} {a b : Expr} {ta tb : TE} {pos : Pos} {σ : St} {H : Hp} {Q : VK}
theorem pe_subOwn (M : MetOk X.prog X.w X.K X.mg X.base CX k C "__getitem__" ps sp) (hfi : ∀ f, PySem.W.findIn X.K (.ref C) "__getitem__" = some (some (.ref f)) → PySem.W.fnIn X.K f = true) (hr : Room (k + 1) X.A) (hx : ∀ σ, PassesAt CX X σ (E σ)) (ha : PE X a ta) (hb : PE X b tb)
    (hsl : ∀ v i, subscripted b true v i = runValue (.builtin "lifetime.subscript" ⟨[v, i], []⟩) := by intro _ _; with_unfolding_all rfl) : PE X (.Subscript a b pos) (tSubO C sp E ta tb) := by
  obtain ⟨_, f, fd, hM, F, hbi⟩ := M
  refine ⟨fun pins s σ H Q I h => ?_⟩
  refine Subscript_ (binT ha hb I (R := fun x y H2 => ∃ (a dx : Addr) (fs : List (Str × V)), x = .ref a ∧ H2 a = some (.ins C dx fs) ∧ sp [x, y] H2 Q (E σ)) h fun v u s2 x y H2 I2 rx ry q => ?_)
  obtain ⟨a, dx, fs, rfl, ea, q⟩ := q
  obtain rfl : v = Value.ref a := rx
  obtain ⟨m, Fr⟩ := I2.fr
  obtain ⟨ox, od, J⟩ := ins_at I2 ea
  refine PySem.W.sub_K Fr I2.ok.mod.kin J hM.at_ (hfi f hM.at_) hM.fn ?_ (hsl _ _)
  have h' : sp ([V.ref a, y] ++ []) H2 Q (E σ) := by rw [List.append_nil]; exact q
  have vals : Vals ([V.ref a, y] ++ []) ([Value.ref a, u] ++ []) := .cons (show RelV (.ref a) (.ref a) from rfl) (.cons ry .nil)
  refine wpAny_call (codeAny_mono (F.run X.A.in1 X.stack s2 H2 ⟨[.ref a, u], []⟩ ([Value.ref a, u] ++ []) ([V.ref a, y] ++ []) _ (E σ) hr.in1 I2.env0.in1 (hbi s2 [.ref a, u] I2.kIn (F.len _ _ _ _ h')) vals h') fun r s' hq => ?_)
  cases r with
  | error e => exact hx σ pins H2 s2 e s' I2 hq
  | ok fl =>
    cases fl with
    | ret u => exact I2.after hq
    | next => exact False.elim hq
    | brk => exact False.elim hq
    | cont => exact False.elim hq
theorem r_subO (k : ta σ H fun x H1 => tb σ H1 fun y H2 => ∃ (a dx : Addr) (fs : List (Str × V)), x = .ref a ∧ H2 a = some (.ins C dx fs) ∧ sp [x, y] H2 Q (E σ)) : tSubO C sp E ta tb σ H Q := k
theorem r_subI {p dx : Addr} {fs : List (Str × V)} {R : Addr → Prop} (h : H p = some (.ins C dx fs)) (q : R p) : ∃ (a dx : Addr) (fs : List (Str × V)), V.ref p = .ref a ∧ H a = some (.ins C dx fs) ∧ R a := ⟨p, dx, fs, rfl, h, q⟩
end
/-- raise C(name) -/
theorem r_mkV {K : PySem.W.Frag} {C : Addr} {f : Str} {v : V} {i : Nat} {σ : St} {H : Hp} {Q : XK} (T : OexC K C) (hf : PySem.W.findIn K (.ref C) f = some none) (hv : σ[i]? = some (some v)) (k : ∀ d, H d = none → Q (.ref C) (some d) (upd H d (.xd [(f, v)]))) :
    tMkO C (spInitF K C f) [] (tCons (tVar i) tNil) σ H Q := r_mkF (x := v) T hf ⟨v, hv, v, rfl, k⟩ (fun hh ⟨v, hv, h⟩ => ⟨v, hv, hh _ _ h⟩)
/-! ### str of ints and texts, joined texts -/
section
variable {X : Cx} {σ : St} {H : Hp} {Q : VK}
def uStr : List V → Hp → VK → Prop := fun xs H Q => (∃ i, xs = [.int i] ∧ i.natAbs.log2 < 1920 ∧ Q (.str (toString i)) H) ∨ ∃ a, xs = [.str a] ∧ Q (.str a) H
theorem c_str : CallR X (.type "str") uStr := CallR.or call_str_int SkE.call_str_str
theorem r_strI {i : Int} (z : i.natAbs.log2 < 1920) (k : Q (.str (toString i)) H) : uStr [.int i] H Q := .inl ⟨i, rfl, z, k⟩
def tFs (ts : List TE) : TE := fun σ H Q => tJs ts Str.empty σ H fun out H1 => Q (.str out) H1
theorem pe_fs {v1 v2 : Expr} {rest : List Expr} {ts : List TE} {pos : Pos} (h : PJ X (v1 :: v2 :: rest) ts) : PE X (.JoinedStr (v1 :: v2 :: rest) pos) (tFs ts) := pe_joined h
theorem r_fs {ts : List TE} (k : tJs ts Str.empty σ H fun out H1 => Q (.str out) H1) : tFs ts σ H Q := k
variable {QS : Str → Hp → Prop} {acc : Str} {t : TE} {ts : List TE} {te to : TE}
theorem r_js (k : t σ H fun x H1 => ∃ y, x = .str y ∧ (acc ++ y).length ≤ sizeLine ∧ tJs ts (acc ++ y) σ H1 QS) : tJs (t :: ts) acc σ H QS := k
theorem r_js0 (k : QS acc H) : tJs [] acc σ H QS := k
theorem r_jy {y : Str} {R : Str → Prop} (z : (acc ++ y).length ≤ sizeLine) (k : R y) : ∃ y', V.str y = .str y' ∧ (acc ++ y').length ≤ sizeLine ∧ R y' := ⟨y, rfl, z, k⟩
theorem r_fmt (k : te σ H fun x H1 => (∃ y : Str, x = .str y ∧ y.length ≤ sizeLine ∧ Q (.str y) H1) ∨ ∃ i : Int, x = .int i ∧ i.natAbs.log2 < 1920 ∧ Q (.str (toString i)) H1) : tFmt te σ H Q := k
theorem r_fmS {y : Str} {R : Str → Prop} {R2 : Int → Prop} (z : y.length ≤ sizeLine) (k : R y) : (∃ y' : Str, V.str y = .str y' ∧ y'.length ≤ sizeLine ∧ R y') ∨ ∃ i : Int, V.str y = .int i ∧ i.natAbs.log2 < 1920 ∧ R2 i := .inl ⟨y, rfl, z, k⟩
theorem r_fmI {i : Int} {R : Str → Prop} {R2 : Int → Prop} (z : i.natAbs.log2 < 1920) (k : R2 i) : (∃ y' : Str, V.int i = .str y' ∧ y'.length ≤ sizeLine ∧ R y') ∨ ∃ j : Int, V.int i = .int j ∧ j.natAbs.log2 < 1920 ∧ R2 j := .inr ⟨i, rfl, z, k⟩
def rJoin (K : PySem.W.Frag) : V → List V → Hp → VK → Prop := fun x xs H Q => ∃ a p, ∃ ys : List Str, x = .str a ∧ xs = [.ref p] ∧ (SqL K H p (ys.map V.str) ∨ SqT K H p (ys.map V.str)) ∧ (ys.map (·.length)).sum + ys.length * a.length ≤ 16777216 ∧ Q (.str (Txt.join a ys)) H
theorem pe_joinK {o e : Expr} {apos pos : Pos} (K : PySem.W.Frag) (ho : PE X o to) (he : PE X e te) (hs : starEach [e] X.env = [(false, eval e X.env)] := by rfl) (hbase : attributeBase o "join" X.env (eval o X.env) = eval o X.env := by rfl) (hline : (apos.endLine == pos.line) = true := by rfl) (hK : X.K = K := by rfl) :
    PE X (.Call (.Attribute o "join" apos) [e] [] pos) (tM1 (rJoin K) to te) := hK ▸ pe_join ho he hs hbase hline
def rSplit : V → List V → Hp → VK → Prop := fun x xs H Q => ∃ a b, x = .str a ∧ xs = [.str b] ∧ (b.length == 0) = false ∧ a.length + 2 ≤ sizeLine ∧ rNewStrs (Txt.split a b) H Q
theorem pe_splitK {o e : Expr} {apos pos : Pos} (ho : PE X o to) (he : PE X e te) (hs : starEach [e] X.env = [(false, eval e X.env)] := by rfl) (hbase : attributeBase o "split" X.env (eval o X.env) = eval o X.env := by rfl) (hline : (apos.endLine == pos.line) = true := by rfl) :
    PE X (.Call (.Attribute o "split" apos) [e] [] pos) (tM1 rSplit to te) := pe_split ho he hs hbase hline
theorem slL (K : PySem.W.Frag) {X : Cx} (hK : X.K = K := by rfl) : SlR X (rSlL K) := hK ▸ sl_list
theorem r_slL {K : PySem.W.Frag} {p : Addr} {xs : List V} {lo hi : Option Int} (h : SqL K H p xs) (k : ∀ q, H q = none → Q (.ref q) (upd H q (.lst (cutV xs lo hi)))) : rSlL K (.ref p) lo hi H Q := ⟨p, xs, rfl, h, k⟩
theorem cut_take (xs : List V) (n : Nat) : cutV xs none (some (n : Int)) = xs.take n := by
  unfold cutV HT.sIx
  have h : ¬ ((n : Int) < 0) := by omega
  simp only [if_neg h, List.drop_zero, Nat.sub_zero, Int.toNat_natCast]
  rw [List.take_eq_take_iff]
  omega
theorem r_bm0 {K : PySem.W.Frag} {T : String} {r : V → List V → Hp → VK → Prop} (k : to σ H fun x H1 => tyV K T x H1 ∧ r x [] H1 Q) : tBM0 K T r to σ H Q := k
theorem r_m1 {r : V → List V → Hp → VK → Prop} (k : to σ H fun x H1 => (∃ a, x = .str a) ∧ te σ H1 fun y H2 => r x [y] H2 Q) : tM1 r to te σ H Q := k
theorem r_isS {z : Str} {R : Prop} (k : R) : (∃ a, V.str z = .str a) ∧ R := ⟨⟨z, rfl⟩, k⟩
theorem r_join {K : PySem.W.Frag} {a : Str} {p : Addr} {ys : List Str} (h : SqL K H p (ys.map V.str) ∨ SqT K H p (ys.map V.str)) (z : (ys.map (·.length)).sum + ys.length * a.length ≤ 16777216) (k : Q (.str (Txt.join a ys)) H) : rJoin K (.str a) [.ref p] H Q := ⟨a, p, ys, rfl, rfl, h, z, k⟩
end
end Hg
end L2
end

section
set_option Elab.async false
set_option linter.all false
set_option maxRecDepth 100000
set_option maxHeartbeats 4000000
/-! max(xs, key=int), max(a, b, key=int). -/
namespace L2
namespace Hg
open PySem PySem.Spec PyProof.Rows
/-- what the list of the best one so far holds -/
def BestAt (h : Heap) (S : Addr) : Option Int → Prop
  | none => ∃ c, h.get? S = some (seqObj "list" #[] c)
  | some M => ∃ c t u, h.get? S = some (seqObj "list" #[.int M t, .int M u] c)
theorem BestAt.keep {h h' : Heap} {S : Addr} {b : Option Int} (k : ∀ o, h.get? S = some o → h'.get? S = some o) (x : BestAt h S b) : BestAt h' S b := by
  cases b with
  | none => obtain ⟨c, e⟩ := x; exact ⟨c, k _ e⟩
  | some M => obtain ⟨c, t, u, e⟩ := x; exact ⟨c, t, u, k _ e⟩
section
variable {prog : Program} {w : World} {A : Around} {s : Shared} {R : Result → Shared → Prop} {I S : Addr} {fp : List Addr} {n : Nat} {P : Nat → Value → Prop} {St : Nat → Heap → Prop} {ns : Nat → Int} {h0 : Heap}
theorem maxk_loop (W : Walks prog w A.in1 I fp [I] n P St) (hP : ∀ i v, P i v → ∃ t, v = .int (ns i) t) (fS : S ∉ fp) (ne : S ≠ I) (oI : h0.get? I = none) (oS : h0.get? S = none) (n0 : 0 < n)
    (fin : ∀ M t h tk, (∃ i, i < n ∧ ns i = M) → (∀ i, i < n → ns i ≤ M) → (∀ b o, h0.get? b = some o → h.get? b = some o) → R (.ok (.ret (.int M t))) { s with heap := h, toks := tk }) :
    ∀ (r j : Nat) (b : Option Int) (h : Heap) (tk : Nat), n - j = r → j ≤ n → St j h → BestAt h S b → (∀ b o, h0.get? b = some o → h.get? b = some o) → (b = none → j = 0) → (∀ M, b = some M → (∃ i, i < j ∧ ns i = M) ∧ ∀ i, i < j → ns i ≤ M) →
      codeAny (model prog w) A (.builtin "max.loop" ⟨[.ref I, .type "int", .ref S], []⟩) R { s with heap := h, toks := tk } := by
  have nm : (toString "max" ++ toString ".loop" : String) = "max.loop" := by decide
  have nbI : ∀ b o, h0.get? b = some o → b ∉ [I] := fun b o e z => by
    rw [List.mem_singleton.mp z, oI] at e
    exact nomatch e
  have nbS : ∀ b o, h0.get? b = some o → b ≠ S := fun b o e z => by
    rw [z, oS] at e
    exact nomatch e
  have SI : S ∉ [I] := fun z => ne (List.mem_singleton.mp z)
  intro r
  induction r with
  | zero =>
    intro j b h tk hr hj hst hb hk h1 h2
    have ej : j = n := by omega
    subst ej
    cases b with
    | none => have := h1 rfl; omega
    | some M =>
      obtain ⟨c, t, u, e⟩ := hb
      refine codeAny_builtin (PySem.F.entry_max_loop) ?_
      rw [Around.under_plainId (PySem.F.plain_max_loop) _]
      refine (show wpAny _ A.in1 (seqItems? (.ref S) >>= _) _ _ _ from wpAny_bind (wpAny_seqItems e rfl ?_))
      refine (show wpAny _ A.in1 (tryCatch (pyNext (.ref I)) _ >>= _) _ _ _ from wpAny_bind (wpAny_tryCatch (W.done _ _ _ hst fun g tk' kg => ?_)))
      have eS := kg S _ SI e
      have same := Heap.SameBut.update g S (Obj.mapSeq fun _ => (#[] : Array Value))
      refine (show wpAny _ A.in1 (updateSeq S (fun _ => #[]) >>= _) _ _ _ from wpAny_bind (wpAny_updateSeq eS rfl (wpAny_bind (wpAny_letGo (wpAny_pure ?_)))))
      obtain ⟨q1, q2⟩ := h2 M rfl
      exact fin M t _ _ q1 q2 fun b o z => (same.2 b (nbS b o z)).trans (kg b o (nbI b o z) (hk b o z))
  | succ r ih =>
    intro j b h tk hr hj hst hb hk h1 h2
    have lt : j < n := by omega
    have step : ∀ (d : Option Int) (t u : Tok) (g : Heap) (tk' : Nat), St (j + 1) g → BestAt g S d → (∀ b o, h0.get? b = some o → g.get? b = some o) → d ≠ none → (∀ M, d = some M → (∃ i, i < j + 1 ∧ ns i = M) ∧ ∀ i, i < j + 1 → ns i ≤ M) →
        codeAny (model prog w) A (.builtin "max.loop" ⟨[.ref I, .type "int", .ref S], []⟩) R { s with heap := g, toks := tk' } := fun d t u g tk' g1 g2 g3 g4 g5 =>
      ih (j + 1) d g tk' (by omega) lt g1 g2 g3 (fun z => absurd z g4) g5
    obtain ⟨its, c, e, hits⟩ : ∃ its c, h.get? S = some (seqObj "list" its c) ∧ ((b = none ∧ its = #[]) ∨ ∃ M t u, b = some M ∧ its = #[.int M t, .int M u]) := by
      cases b with
      | none => obtain ⟨c, e⟩ := hb; exact ⟨_, c, e, .inl ⟨rfl, rfl⟩⟩
      | some M => obtain ⟨c, t, u, e⟩ := hb; exact ⟨_, c, e, .inr ⟨M, t, u, rfl, rfl⟩⟩
    have isz : its.size ≤ sizeLine := by
      rcases hits with ⟨_, rfl⟩ | ⟨M, t, u, _, rfl⟩
      · exact Nat.zero_le _
      · exact (by decide : 2 ≤ sizeLine)
    refine codeAny_builtin (PySem.F.entry_max_loop) ?_
    rw [Around.under_plainId (PySem.F.plain_max_loop) _]
    refine (show wpAny _ A.in1 (seqItems? (.ref S) >>= _) _ _ _ from wpAny_bind (wpAny_seqItems e rfl ?_))
    refine (show wpAny _ A.in1 (tryCatch (pyNext (.ref I)) _ >>= _) _ _ _ from wpAny_bind (wpAny_tryCatch (W.item j _ _ _ lt hst fun v g tk' hv hst' kg => ?_)))
    obtain ⟨t, rfl⟩ := hP j v hv
    have eS := kg S _ SI e
    have hk' : ∀ b o, h0.get? b = some o → g.get? b = some o := fun b o z => kg b o (nbI b o z) (hk b o z)
    refine (show wpAny _ A.in1 (tryCatch (holding [Value.int (ns j) t] (call (.type "int") [.int (ns j) t])) _ >>= _) _ _ _ from wpAny_bind (wpAny_tryCatch (wpAny_holding (PySem.call_int_int ?_))))
    have put : ∀ (x y : Tok), St (j + 1) (g.update S (Obj.mapSeq fun _ => #[.int (ns j) x, .int (ns j) y])) ∧ BestAt (g.update S (Obj.mapSeq fun _ => #[.int (ns j) x, .int (ns j) y])) S (some (ns j)) ∧
        ∀ b o, h0.get? b = some o → (g.update S (Obj.mapSeq fun _ => #[.int (ns j) x, .int (ns j) y])).get? b = some o := fun x y => by
      have same := Heap.SameBut.update g S (Obj.mapSeq fun _ => #[Value.int (ns j) x, .int (ns j) y])
      exact ⟨W.frame _ _ _ hst' fun b hb o z => (same.2 b (fun q => fS (q ▸ hb))).trans z, ⟨_, _, _, get?_update_seq eS fun _ => #[.int (ns j) x, .int (ns j) y]⟩, fun b o z => (same.2 b (nbS b o z)).trans (hk' b o z)⟩
    rcases hits with ⟨rfl, rfl⟩ | ⟨M, t1, u1, rfl, rfl⟩
    · have j0 := h1 rfl
      subst j0
      obtain ⟨p1, p2, p3⟩ := put t t
      refine (show wpAny _ A.in1 (updateSeq S (fun _ => #[.int (ns 0) t, .int (ns 0) t]) >>= _) _ _ _ from wpAny_bind (wpAny_updateSeq eS rfl ?_))
      rw [nm]
      refine wpAny_pure ⟨plainId_quiet (PySem.F.plain_max_loop) _, step _ t t _ _ p1 p2 p3 (fun z => nomatch z) fun M' e' => ?_⟩
      cases e'
      exact ⟨⟨0, Nat.lt_succ_self _, rfl⟩, fun i hi => by rw [show i = 0 by omega]; exact Int.le_refl _⟩
    · obtain ⟨⟨i0, i1, rfl⟩, i3⟩ := h2 M rfl
      refine (show wpAny _ A.in1 (tryCatch (holding [Value.int (ns j) t, .int (ns j) t] (richCompare .Gt (.int (ns j) t) (.int (ns i0) u1) >>= _)) _ >>= _) _ _ _ from
        wpAny_bind (wpAny_tryCatch (wpAny_holding (wpAny_bind (CmpOf.ints_gt (P := fun i v => ∃ t, v = .int (ns i) t) ns (fun i v h => h) j i0 _ _ _ _ _ ⟨t, rfl⟩ ⟨u1, rfl⟩ ?_)))))
      refine wpAny_bind (wpAny_holding (wpAny_truthy_bool (wpAny_bind (wpAny_letGo (wpAny_pure ?_)))))
      by_cases better : ns j > ns i0
      · obtain ⟨p1, p2, p3⟩ := put t t
        simp only [better, decide_true, if_true]
        refine wpAny_bind (wpAny_updateSeq eS rfl (wpAny_bind (wpAny_letGo ?_)))
        rw [nm]
        refine wpAny_pure ⟨plainId_quiet (PySem.F.plain_max_loop) _, step _ t t _ _ p1 p2 p3 (fun z => nomatch z) fun M' e' => ?_⟩
        cases e'
        refine ⟨⟨j, Nat.lt_succ_self _, rfl⟩, fun i hi => ?_⟩
        by_cases e : i = j
        · rw [e]; exact Int.le_refl _
        · have := i3 i (by omega)
          omega
      · simp only [better, decide_false, Bool.false_eq_true, if_false]
        refine wpAny_bind (wpAny_letGo ?_)
        rw [nm]
        refine wpAny_pure ⟨plainId_quiet (PySem.F.plain_max_loop) _, step (some (ns i0)) t t _ _ hst' ⟨_, _, _, eS⟩ hk' (fun z => nomatch z) fun M' e' => ?_⟩
        cases e'
        refine ⟨⟨i0, by omega, rfl⟩, fun i hi => ?_⟩
        by_cases e : i = j
        · rw [e]; omega
        · exact i3 i (by omega)
end
/-- max(xs, key=int) of a list of ints -/
def rMaxKey (K : PySem.W.Frag) : List V → List V → Hp → VK → Prop := fun xs zs H Q => ∃ (a : Addr) (ns : List Int), xs = [.ref a] ∧ zs = [.ty "int"] ∧ SqL K H a (ns.map V.int) ∧ 0 < ns.length ∧ ∀ m, m ∈ ns → (∀ y, y ∈ ns → y ≤ m) → Q (.int m) H
theorem bind_key (v : Value) : Builtin.Builtins.bindParams "max" ["key", "default"] 0 ⟨[], [(Str.ofString "key", v)]⟩ = pure [some v, none] := rfl
theorem max_key2 (a b v : Value) : argsOk "max" ⟨[a, b], [(Str.ofString "key", v)]⟩ := by unfold argsOk; kernel_rfl
section
variable {X : Cx}
theorem cr_maxKey (K : PySem.W.Frag) (hc : X.calm = true) (hK : X.K = K := by rfl) : CallRK X (.builtin "max") [Str.ofString "key"] (rMaxKey K) := by
  subst hK
  intro pins s σ H xs zs us ws Q I r rz h
  obtain ⟨a, ns, rfl, rfl, hs, hne, q⟩ := h
  obtain ⟨its, rv, hl, _⟩ := I.list hs
  have hl := hl.isList
  rw [Vals.ref1 r]
  cases rz with
  | cons r1 r2 =>
    cases r2
    cases (show _ = Value.type "int" from r1)
    have hi := rv.ints
    have hlen := hi.length
    have la : a < s.heap.objs.size := let ⟨o, e, _⟩ := hl; Heap.lt_size e
    refine PyProof.Rows.kmk_tree (args := [.ref a]) (kw := [(Str.ofString "key", .type "int")]) PySem.F.kind_max PySem.F.plain_max PySem.F.entry_max (PyProof.Rows.kmk_max_key _ _) ?_
    refine (show wpAny _ X.A.in1 (Builtin.Builtins.bindParams "max" ["key", "default"] 0 ⟨[], [(Str.ofString "key", .type "int")]⟩ >>= _) _ _ s from wpAny_bind (wpAny_of_eq (bind_key _) (wpAny_bind (wpAny_pure (wpAny_bind (wpAny_pyIter_list hl (wpAny_bind (wpAny_newList ?_ (Nat.zero_le _)))))))))
    rw [show (toString "max" ++ toString ".loop" : String) = "max.loop" by decide]
    have sz : (s.heap.push { cls := .type "list_iterator", data := .fields #[.ref a, .int 0 0] }).objs.size = s.heap.objs.size + 1 := size_push' ..
    have eI : ((s.heap.push { cls := .type "list_iterator", data := .fields #[.ref a, .int 0 0] }).push (seqObj "list" #[] 0)).get? s.heap.objs.size = some { cls := .type "list_iterator", data := .fields #[.ref a, .int 0 0] } := Heap.get?_push_of_some _ (Heap.get?_push_size _ rfl)
    have W : Walks X.prog X.w X.A.in1 s.heap.objs.size [s.heap.objs.size, a] [s.heap.objs.size] its.toArray.size (fun i v => its.toArray[i]? = some v) (fun i h => h.IsListIter s.heap.objs.size a i ∧ h.IsList a its.toArray) := Walks.list (A := X.A.in1) (I.ok.hd hc) s.heap.objs.size a (Nat.ne_of_lt la) its.toArray
    have st0 : ((s.heap.push { cls := .type "list_iterator", data := .fields #[.ref a, .int 0 0] }).push (seqObj "list" #[] 0)).IsListIter s.heap.objs.size a 0 ∧ ((s.heap.push { cls := .type "list_iterator", data := .fields #[.ref a, .int 0 0] }).push (seqObj "list" #[] 0)).IsList a its.toArray :=
      ⟨⟨_, eI, rfl, rfl⟩, let ⟨o, e, rest⟩ := hl; ⟨o, Heap.get?_push_of_some _ (Heap.get?_push_of_some _ e), rest⟩⟩
    refine wpAny_pure ⟨plainId_quiet (PySem.F.plain_max_loop) _, ?_⟩
    refine maxk_loop (h0 := s.heap) (ns := fun i => ns.getD i 0) W (fun i v hv => ?_) (fun z => ?_) (by rw [sz]; exact Nat.succ_ne_self _) (Heap.get?_none_of_le (Nat.le_refl _)) (Heap.get?_none_of_le (by rw [sz]; exact Nat.le_succ _)) (by rw [List.size_toArray, hlen]; exact hne)
      (fun M t h tk m1 m2 k => ?_) _ 0 none _ _ rfl (Nat.zero_le _) st0 ⟨0, Heap.get?_push_size _ rfl⟩ (fun b o e => Heap.get?_push_of_some _ (Heap.get?_push_of_some _ e)) (fun _ => rfl) (fun M e => nomatch e)
    · have hv : its[i]? = some v := by simpa using hv
      have hi' : i < its.length := (List.getElem?_eq_some_iff.mp hv).1
      have hn : ns[i]? = some ns[i] := List.getElem?_eq_getElem (by omega)
      obtain ⟨t, ht⟩ := hi.get i _ hn
      rw [ht] at hv
      cases hv
      exact ⟨t, by simp [hn]⟩
    · rw [sz] at z
      rcases List.mem_cons.mp z with z | z
      · exact Nat.succ_ne_self _ z
      · exact absurd (List.mem_singleton.mp z) (Nat.ne_of_gt (Nat.lt_succ_of_lt la))
    · obtain ⟨i, i1, rfl⟩ := m1
      rw [List.size_toArray] at i1 m2
      refine ⟨.int _, H, I.kept k, ⟨_, rfl⟩, q _ ?_ fun y hy => ?_⟩
      · have hn : ns[i]? = some ns[i] := List.getElem?_eq_getElem (by omega)
        simp only [List.getD_eq_getElem?_getD, hn, Option.getD_some]
        exact List.getElem_mem _
      · obtain ⟨j, hj, rfl⟩ := List.getElem_of_mem hy
        have z := m2 j (by omega)
        have hn : ns[j]? = some ns[j] := List.getElem?_eq_getElem hj
        simp only [List.getD_eq_getElem?_getD, hn, Option.getD_some] at z ⊢
        exact z
/-- max(a, b, key=int) of two ints -/
def rMaxKey2 : List V → List V → Hp → VK → Prop := fun xs zs H Q => ∃ i j : Int, xs = [.int i, .int j] ∧ zs = [.ty "int"] ∧ Q (.int (if j > i then j else i)) H
theorem cr_maxKey2 (hc : X.calm = true) : CallRK X (.builtin "max") [Str.ofString "key"] rMaxKey2 := by
  intro pins s σ H xs zs us ws Q I r rz h
  obtain ⟨i, j, rfl, rfl, q⟩ := h
  cases r with
  | cons r1 r2 =>
  cases r2 with
  | cons r2 r3 =>
  cases r3
  obtain ⟨t1, rfl⟩ := r1
  obtain ⟨t2, rfl⟩ := r2
  cases rz with
  | cons r4 r5 =>
    cases r5
    cases (show _ = Value.type "int" from r4)
    let tup : Obj := { cls := .type "tuple", data := .seq [Value.int i t1, .int j t2].toArray }
    let itr : Obj := { cls := .type "tuple_iterator", data := .fields #[.ref s.heap.objs.size, .int 0 0] }
    have s1 : (s.heap.push tup).objs.size = s.heap.objs.size + 1 := size_push' ..
    have s2 : ((s.heap.push tup).push itr).objs.size = s.heap.objs.size + 1 + 1 := by rw [size_push', s1]
    have hT : (s.heap.push tup).IsTuple s.heap.objs.size [Value.int i t1, .int j t2].toArray := ⟨tup, Heap.get?_push_size _ rfl, rfl, _, rfl⟩
    refine PyProof.Rows.kmk_tree (args := [.int i t1, .int j t2]) (kw := [(Str.ofString "key", .type "int")]) PySem.F.kind_max PySem.F.plain_max PySem.F.entry_max (max_key2 _ _ _) ?_
    refine (show wpAny _ X.A.in1 (Builtin.Builtins.bindParams "max" ["key", "default"] 0 ⟨[], [(Str.ofString "key", .type "int")]⟩ >>= _) _ _ s from wpAny_bind (wpAny_of_eq (bind_key _) (wpAny_bind (wpAny_newTuple (wpAny_bind (wpAny_pyIter_tuple hT (wpAny_bind (wpAny_newList ?_ (Nat.zero_le _)))))))))
    rw [show (toString "max" ++ toString ".loop" : String) = "max.loop" by decide]
    have W : Walks X.prog X.w X.A.in1 (s.heap.push tup).objs.size [(s.heap.push tup).objs.size, s.heap.objs.size] [(s.heap.push tup).objs.size] [Value.int i t1, .int j t2].toArray.size (fun k v => [Value.int i t1, .int j t2].toArray[k]? = some v) (fun k h => h.IsTupleIter (s.heap.push tup).objs.size s.heap.objs.size k ∧ h.IsTuple s.heap.objs.size [Value.int i t1, .int j t2].toArray) :=
      Walks.tuple (A := X.A.in1) (I.ok.hd hc) (s.heap.push tup).objs.size s.heap.objs.size (by rw [s1]; exact Nat.ne_of_lt (Nat.lt_succ_self _)) _
    refine wpAny_pure ⟨plainId_quiet (PySem.F.plain_max_loop) _, ?_⟩
    refine maxk_loop (h0 := s.heap) (ns := fun k => if k = 0 then i else j) W (fun k v hv => ?_) (fun z => ?_) (by show ((s.heap.push tup).push itr).objs.size ≠ _; rw [s2, s1]; exact Nat.succ_ne_self _) (Heap.get?_none_of_le (by rw [s1]; exact Nat.le_succ _)) (Heap.get?_none_of_le (by show _ ≤ ((s.heap.push tup).push itr).objs.size; rw [s2]; exact Nat.le_add_right _ 2)) (show 0 < 2 by decide)
      (fun M t h tk m1 m2 k => ?_) _ 0 none _ _ rfl (Nat.zero_le _) ⟨⟨itr, Heap.get?_push_of_some _ (Heap.get?_push_size _ rfl), rfl, rfl⟩, ⟨tup, Heap.get?_push_of_some _ (Heap.get?_push_of_some _ (Heap.get?_push_size _ rfl)), rfl, _, rfl⟩⟩ ⟨0, Heap.get?_push_size _ rfl⟩
      (fun b o e => Heap.get?_push_of_some _ (Heap.get?_push_of_some _ (Heap.get?_push_of_some _ e))) (fun _ => rfl) (fun M e => nomatch e)
    · match k, hv with
      | 0, hv => exact ⟨t1, by cases hv; rfl⟩
      | 1, hv => exact ⟨t2, by cases hv; rfl⟩
      | k + 2, hv => simp at hv
    · have z : ((s.heap.push tup).push itr).objs.size ∈ [(s.heap.push tup).objs.size, s.heap.objs.size] := z
      rw [s2, s1] at z
      rcases List.mem_cons.mp z with z | z
      · exact Nat.succ_ne_self _ z
      · exact absurd (List.mem_singleton.mp z) (Nat.ne_of_gt (Nat.lt_succ_of_lt (Nat.lt_succ_self _)))
    · obtain ⟨k0, k1, rfl⟩ := m1
      have a0 := m2 0 (show 0 < 2 by decide)
      have a1 := m2 1 (show 1 < 2 by decide)
      refine ⟨.int _, H, I.kept k, ⟨_, rfl⟩, ?_⟩
      rw [if_pos rfl] at a0
      rw [if_neg (by decide)] at a1
      have e : (if k0 = 0 then i else j) = if j > i then j else i := by
        have : k0 = 0 ∨ k0 = 1 := by
          have : k0 < 2 := k1
          omega
        rcases this with rfl | rfl
        · rw [if_pos rfl] at a1 ⊢
          rw [if_neg (by omega)]
        · rw [if_neg (by decide)] at a0 ⊢
          split <;> omega
      rw [e]
      exact q
end
end Hg
end L2
end

section
set_option Elab.async false
set_option linter.all false
set_option maxRecDepth 100000
set_option maxHeartbeats 4000000
/-! Classmethods by place and by name; a class called by a local name. -/
namespace L2
namespace Hg
open PySem PySem.Spec PyProof.Rows
theorem fn_in {K : PySem.W.Frag} {f : Addr} {oc : Value} {od : Option Addr} {fd : FuncData} {sl : Array (Option Value)} (h : K.lookup f = some ⟨oc, od, .func fd, sl⟩) : PySem.W.fnIn K f = true := by
  show (match K.lookup f with | some ⟨_, _, .func _, _⟩ => true | _ => false) = true
  rw [h]
structure CmAt (K : PySem.W.Frag) (C : Addr) (m q : Str) (st : Stmt) : Prop where
  ex : ∃ (mc : Value) (p g : Addr) (fd : FuncData), ClX.CRead K C mc ∧ ClX.CMet K C mc m p g ∧ Fun K m q st g fd
def CmOk (P : Program) (w : World) (K : PySem.W.Frag) (mg : Str → Option Value) (base : Heap) (CX : CXT) (k : Nat) (C : Addr) (m q : Str) (st : Stmt) (ps : List Str) (sp : Sp) : Prop :=
  ∃ (mc : Value) (p g : Addr) (fd : FuncData), ClX.CRead K C mc ∧ ClX.CMet K C mc m p g ∧ Fun K m q st g fd ∧ FnOk P w K mg base CX k g fd ps sp ∧ Binds K fd ps []
section
variable {P : Program} {w : World} {K : PySem.W.Frag} {mg : Str → Option Value} {base : Heap} {k : Nat} {m q : Str} {st : Stmt} {C : Addr} {N ps : List Str} {sp : Sp}
theorem CmAt.ok (F : CmAt K C m q st) (S : FnScope N ps (defScope st)) (hb : BindsAs st m q ps) (len : ∀ vs H Q E, sp vs H Q E → vs.length = ps.length)
    (hbody : ∀ (f : Addr) (cdv : Value) (A : Around) (outer : List Env) (s : Shared) (H : Hp) (vs : List V) (Q : VK) (E : XK), Room k (A.deeper (envOfC q (defScope st) s.heap.objs.size f cdv)) → sp vs H Q E →
      ∃ t, PSs (cxOf CX0 P w K mg base N q (defScope st) f cdv A outer s H E).nox (defBody st) t ∧ t { nx := fun _ H' => Q .non H', rt := Q } (start N vs) H) : CmOk P w K mg base CX0 (k + 1) C m q st ps sp := by
  obtain ⟨mc, p, f, fd, r, c, F1⟩ := F.ex
  exact ⟨mc, p, f, fd, r, c, F1, F1.ok S len fun cdv A outer s H vs Q E hr h => hbody f cdv A outer s H vs Q E hr h, F1.binds hb⟩
theorem CmAt.okX (F : CmAt K C m q st) (S : FnScope N ps (defScope st)) (hb : BindsAs st m q ps) (len : ∀ vs H Q E, sp vs H Q E → vs.length = ps.length)
    (hbody : ∀ (f : Addr) (cdv : Value) (A : Around) (outer : List Env) (s : Shared) (H : Hp) (vs : List V) (Q : VK) (E : XK), Room k (A.deeper (envOfC q (defScope st) s.heap.objs.size f cdv)) → sp vs H Q E →
      ∃ t, PSs (cxOf (L2.CX P w) P w K mg base N q (defScope st) f cdv A outer s H E) (defBody st) t ∧ t { nx := fun _ H' => Q .non H', rt := Q } (start N vs) H) : CmOk P w K mg base (L2.CX P w) (k + 1) C m q st ps sp := by
  obtain ⟨mc, p, f, fd, r, c, F1⟩ := F.ex
  exact ⟨mc, p, f, fd, r, c, F1, F1.okX S len fun cdv A outer s H vs Q E hr h => hbody f cdv A outer s H vs Q E hr h, F1.binds hb⟩
/-- keywords alone, behind n values by place -/
theorem Fun.kb {f : Addr} {fd : FuncData} (F : Fun K m q st f fd) (n : Nat) (ks : List Str)
    (h : ∀ (kV doc pm : Value) (an : Option Addr) (cdv ct : Value) (us ws : List Value), us.length = n → ws.length = ks.length → bindArgs (PySem.W.fnOf m q (defArgs st) (defBody st) (defScope st) .none kV doc pm an cdv ct) ⟨us, ks.zip ws⟩ = pure (ps.zip (us ++ ws))) :
    KBn K fd ps n ks (fun us ws => us ++ ws) (fun vs zs => vs ++ zs) := by
  obtain ⟨oc, od, kV, doc, pm, an, cdv, ct, osl, rfl, lk, hcd⟩ := F.ex
  exact ⟨fun s us ws X l1 l2 => BindsTo.of_looks fun M => PySem.W.Looks.of_pure (h kV doc pm an cdv ct us ws l1 l2), fun r z => r.append z⟩
end
section
variable {X : Cx} {CX : CXT} {k : Nat} {C : Addr} {m q : Str} {st : Stmt} {ps : List Str} {sp : Sp} {E : XK} {o e : Expr} {es : List Expr} {kws : List Keyword} {pos apos p : Pos} {ta : TE} {t tk : TA} {pl : Sem Bool}
/-- C.m(e, ..) -/
def tCm (C : Addr) (sp : Sp) (E : XK) (ta : TE) (t : TA) : TE := fun σ H Q => ta σ H fun x H1 => x = .ref C ∧ t σ H1 fun vs H2 => sp (.ref C :: vs) H2 Q E
theorem pe_cm (F : CmOk X.prog X.w X.K X.mg X.base CX k C m q st ps sp) (hr : Room k X.A) (hx : Passes CX X E) (he : PE X o ta) (ha : PA X (e :: es) t)
    (hst : starEach (e :: es) X.env = (false, eval e X.env) :: starEach es X.env := by rfl) (hpl : (backTo pos (starEach es X.env)).any (·.1) = false := by rfl)
    (ht : eval (.Call (.Attribute o m apos) (e :: es) [] pos) X.env = (do
      let ov ← eval o X.env
      standAt apos.atName
      let (f, first) ← holding [ov] (getMethod ov m pl)
      callWith pos f first (backTo pos (starEach (e :: es) X.env)) (backToKw pos (keywordEach [] X.env))) := by rfl) :
    PE X (.Call (.Attribute o m apos) (e :: es) [] pos) (tCm C sp E ta t) := by
  obtain ⟨mc, pp, g, fd, r, c, F1, G, hb⟩ := F
  have R : FnR X.prog X.w X.K X.mg X.base CX k g sp := (G.raw hb .nil).imp fun vs H Q E h => by rw [List.append_nil]; exact h
  exact ClX.pe_cmeth he r c R hr hx ha hst hpl ht
/-- C.m() -/
theorem pe_cm0 (F : CmOk X.prog X.w X.K X.mg X.base CX k C m q st ps sp) (hr : Room k X.A) (hx : Passes CX X E) (he : PE X o ta)
    (ht : eval (.Call (.Attribute o m apos) [] [] pos) X.env = (do
      let ov ← eval o X.env
      standAt apos.atName
      let (f, first) ← holding [ov] (getMethod ov m pl)
      callWith pos f first (backTo pos (starEach [] X.env)) (backToKw pos (keywordEach [] X.env))) := by rfl) :
    PE X (.Call (.Attribute o m apos) [] [] pos) (tCm C sp E ta tNil) := by
  obtain ⟨mc, pp, g, fd, r, c, F1, G, hb⟩ := F
  have R : FnR X.prog X.w X.K X.mg X.base CX k g sp := (G.raw hb .nil).imp fun vs H Q E h => by rw [List.append_nil]; exact h
  refine ⟨fun pins s σ H Q I h => PySem.W.methodCall_KW (pl := pl) (thn (he.run pins s σ H _ I h) fun u s1 ⟨x, H1, I1, rx, ex, q⟩ => ?_) ht⟩
  subst ex
  obtain rfl : u = Value.ref C := rx
  refine ClX.getmethcm_ok I1 r c fun s2 I2 => ?_
  refine PySem.W.callWith_M0 (K := X.K) (g := g) (self := .ref C) ⟨ClX.pin_at I2, I2.kIn⟩ c.fi ?_
  exact ClX.run_cm R hr hx I2 .nil q
/-- C.m(k = e, ..) -/
theorem pe_cmK {ks : List Str} (F : CmOk X.prog X.w X.K X.mg X.base CX k C m q st ps sp) (hr : Room k X.A) (hx : Passes CX X E) (he : PE X o ta) (hkw : PK X kws tk)
    (hb : ∀ (kV doc pm : Value) (an : Option Addr) (cdv ct : Value) (us ws : List Value), us.length = 1 → ws.length = ks.length → bindArgs (PySem.W.fnOf m q (defArgs st) (defBody st) (defScope st) .none kV doc pm an cdv ct) ⟨us, ks.zip ws⟩ = pure (ps.zip (us ++ ws)))
    (hall : (backToKw pos (keywordEach kws X.env)).all (·.1.isSome) = true := by rfl) (hks : (backToKw pos (keywordEach kws X.env)).filterMap (·.1) = ks := by rfl)
    (hpl : ((backTo pos (starEach [] X.env)).any (·.1) || (backToKw pos (keywordEach kws X.env)).any (·.1.isNone)) = false := by rfl)
    (ht : eval (.Call (.Attribute o m apos) [] kws pos) X.env = (do
      let ov ← eval o X.env
      standAt apos.atName
      let (f, first) ← holding [ov] (getMethod ov m pl)
      callWith pos f first (backTo pos (starEach [] X.env)) (backToKw pos (keywordEach kws X.env))) := by rfl) :
    PE X (.Call (.Attribute o m apos) [] kws pos) (tCm C sp E ta fun σ H QL => tk σ H fun vs H2 => vs.length = ks.length ∧ QL vs H2) := by
  obtain ⟨mc, pp, g, fd, r, c, F1, G, _⟩ := F
  have KB := Fun.kb (ps := ps) F1 1 ks hb
  refine ⟨fun pins s σ H Q I h => PySem.W.methodCall_KW (pl := pl) (thn (he.run pins s σ H _ I h) fun u s1 ⟨x, H1, I1, rx, ex, q⟩ => ?_) ht⟩
  subst ex
  obtain rfl : u = Value.ref C := rx
  refine ClX.getmethcm_ok I1 r c fun s2 I2 => ?_
  refine PySem.W.callWith_of (P := PySem.W.MethP X.K s1.heap.objs.size g (.ref C)) hpl (PySem.W.keeps_M c.fi) (evalArgs_kw2_nil hall (thn (hkw.run pos _ s2 σ H1 _ I2 q) fun ws s3 ⟨zs, H2, I3, rz, lz, q2⟩ => ⟨⟨ClX.pin_at I3, I3.kIn⟩, ?_⟩))
  rw [hks]
  have z : wpAny (model X.prog X.w) X.A (call (.ref s1.heap.objs.size) [] (ks.zip ws)) (EP X ((s1.heap.objs.size, PySem.W.methodObj (.ref g) (.ref C)) :: pins) σ Q) X.xe s3 := by
    refine wpAny_call (PySem.W.method_call (ClX.pin_at I3) (codeAny_mono (G.run X.A X.stack s3 H2 ⟨[.ref C], ks.zip ws⟩ ([Value.ref C] ++ ws) ([V.ref C] ++ zs) Q E hr I3.env0 (KB.to s3 [.ref C] ws I3.kIn rfl (rz.length.symm.trans lz)) (KB.rel (.cons (show RelV (.ref C) (.ref C) from rfl) .nil) rz) q2) fun r s' hq => ?_))
    cases r with
    | error e => exact hx _ σ H2 s3 e s' I3 hq
    | ok fl =>
      cases fl with
      | ret u => exact I3.after hq
      | next => exact False.elim hq
      | brk => exact False.elim hq
      | cont => exact False.elim hq
  exact thn z fun _ _ y => ClX.unpinE y
/-- C.m(e, ..) where what is raised is wished at the slots -/
def tCmS (C : Addr) (sp : Sp) (ES : St → XK) (ta : TE) (t : TA) : TE := fun σ H Q => ta σ H fun x H1 => x = .ref C ∧ t σ H1 fun vs H2 => sp (.ref C :: vs) H2 Q (ES σ)
theorem pe_cmS {ES : St → XK} (F : CmOk X.prog X.w X.K X.mg X.base CX k C m q st ps sp) (hr : Room k X.A) (hx : ∀ σ, PassesAt CX X σ (ES σ)) (he : PE X o ta) (ha : PA X (e :: es) t)
    (hst : starEach (e :: es) X.env = (false, eval e X.env) :: starEach es X.env := by rfl) (hpl : (backTo pos (starEach es X.env)).any (·.1) = false := by rfl)
    (ht : eval (.Call (.Attribute o m apos) (e :: es) [] pos) X.env = (do
      let ov ← eval o X.env
      standAt apos.atName
      let (f, first) ← holding [ov] (getMethod ov m pl)
      callWith pos f first (backTo pos (starEach (e :: es) X.env)) (backToKw pos (keywordEach [] X.env))) := by rfl) :
    PE X (.Call (.Attribute o m apos) (e :: es) [] pos) (tCmS C sp ES ta t) := by
  obtain ⟨mc, pp, g, fd, r, c, F1, G, hb⟩ := F
  refine ⟨fun pins s σ H Q I h => PySem.W.methodCall_KW (pl := pl) (thn (he.run pins s σ H _ I h) fun u s1 ⟨x, H1, I1, rx, ex, q⟩ => ?_) ht⟩
  subst ex
  obtain rfl : u = Value.ref C := rx
  refine ClX.getmethcm_ok I1 r c fun s2 I2 => ?_
  refine ClX.callwith_cm I2 (ClX.base_none I1 (Nat.le_refl _)) c.fi (thn (ha.run pos _ s2 σ H1 _ I2 q) fun us s3 ⟨vs, H2, I3, rv, q2⟩ => ⟨⟨ClX.pin_at I3, I3.kIn⟩, ?_⟩) hst hpl
  have q3 : sp (V.ref C :: (vs ++ [])) H2 Q (ES σ) := by rw [List.append_nil]; exact q2
  have vals : Vals (V.ref C :: (vs ++ [])) (Value.ref C :: (us ++ [])) := .cons (show RelV (.ref C) (.ref C) from rfl) (rv.append .nil)
  have hl : ((Value.ref C :: us) ++ []).length = ps.length := by
    have z := vals.length
    rw [G.len _ _ _ _ q3] at z
    exact z.symm
  have hbb : BindsTo s3 fd ⟨.ref C :: us, []⟩ (ps.zip (Value.ref C :: (us ++ []))) := by
    have y := hb s3 (.ref C :: us) I3.kIn hl
    rwa [List.cons_append] at y
  have z : wpAny (model X.prog X.w) X.A (call (.ref s1.heap.objs.size) us) (EP X ((s1.heap.objs.size, PySem.W.methodObj (.ref g) (.ref C)) :: pins) σ Q) X.xe s3 := by
    refine wpAny_call (PySem.W.method_call (ClX.pin_at I3) (codeAny_mono (G.run X.A X.stack s3 H2 ⟨.ref C :: us, []⟩ (Value.ref C :: (us ++ [])) (V.ref C :: (vs ++ [])) Q (ES σ) hr I3.env0 hbb vals q3) fun r s' hq => ?_))
    cases r with
    | error e => exact hx σ _ H2 s3 e s' I3 hq
    | ok fl =>
      cases fl with
      | ret u => exact I3.after hq
      | next => exact False.elim hq
      | brk => exact False.elim hq
      | cont => exact False.elim hq
  exact thn z fun _ _ y => ClX.unpinE y
variable {σ : St} {H : Hp} {Q : VK} {QL : List V → Hp → Prop}
theorem r_cmS {ES : St → XK} (k : ta σ H fun x H1 => x = .ref C ∧ t σ H1 fun vs H2 => sp (.ref C :: vs) H2 Q (ES σ)) : tCmS C sp ES ta t σ H Q := k
theorem r_cm (k : ta σ H fun x H1 => x = .ref C ∧ t σ H1 fun vs H2 => sp (.ref C :: vs) H2 Q E) : tCm C sp E ta t σ H Q := k
theorem r_isC {R : Prop} (k : R) : V.ref C = .ref C ∧ R := ⟨rfl, k⟩
/-! ### isinstance of a caught error, of several classes -/
def rIsGT (K : PySem.W.Frag) (a : Addr) (cls : Value) (d : Option Addr) : List V → Hp → VK → Prop := fun xs H Q => ∃ (D tp : Addr) (cs : List V) (ws : List Value) (b : Bool), cls = .ref D ∧ d = none ∧ ExcC K D ∧ xs = [.ref a, .ref tp] ∧ H tp = some (.tup cs) ∧
  Paired ClsV cs ws ∧ PySem.W.kitAny K (.ref D) ws = some b ∧ Q (.bl b) H
theorem c_isGT {X : Cx} {a : Addr} {cls : Value} {d : Option Addr} {oe : Obj} {pn : List (Addr × Obj)} (K : PySem.W.Frag) (hz : Zc cls d oe) (hf : ∃ vs, oe.data = .fields vs) (hK : X.K = K := by rfl) :
    CallR (X.suite a ((a, oe) :: pn)) (.builtin "isinstance") (rIsGT K a cls d) := by
  subst hK
  intro pins s σ H xs us Q I r h
  obtain ⟨D, tp, cs, ws, b, rfl, rfl, C, rfl, hT, k, e, q⟩ := h
  obtain ⟨u1, u2, rfl, r1, r2⟩ := vals2 r
  cases (show u2 = Value.ref tp from r2)
  cases (show u1 = Value.ref a from r1)
  obtain ⟨hget, _⟩ := I.pin (a, oe) (List.mem_append.mpr (.inl List.mem_cons_self))
  obtain ⟨vs, hv⟩ := hf
  have J : PySem.W.InstAt s.heap a oe D none := by
    obtain ⟨oc, od, oda, osl⟩ := oe
    obtain ⟨h1, h2⟩ := hz
    dsimp only at h1 h2 hv
    subst h1 h2 hv
    exact ⟨hget, rfl, rfl, trivial⟩
  obtain ⟨_, its, rv, o, h1, h2, n, h3⟩ := (show ObjOk X.prog X.w H s.heap tp (.tup cs) from I.hok tp _ hT)
  have e3 := ClsV.all k rv
  subst e3
  obtain ⟨oc, od, dt, sl⟩ := o
  simp only at h2 h3
  subst h2 h3
  exact PySem.W.kia_tup (PySem.W.handS_kitx_exc C.hg C.hk C.hs C.hd C.ha C.hn C.ht C.hm) I.kIn J h1 e (fun z => nomatch z) fun tk => ⟨.bl b, H, I.kept (t' := tk) fun _ _ z => z, rfl, q⟩
/-! ### a class held by a local name -/
def tMakeL (i : Nat) (C : Addr) (sp : Sp) (dvs : List V) (E : XK) (t : TA) : TE := fun σ H Q => σ[i]? = some (some (.ref C)) ∧ tMakeS C sp dvs (fun _ => E) t σ H Q
theorem pe_makeL {i : Nat} {x y : Str} {dvs : List V} (F : MakeOk X.prog X.w X.K X.mg X.base CX k x C ps dvs sp) (hr : Room (k + 1) X.A) (hx : Passes CX X E) (hN : X.N[i]? = some y) (hv : Vis X.env.scope y) (ha : PA X (e :: es) t)
    (hdb : (y == ("__debug__" : Str)) = false := by decide) (hcd : (y == ("__classdict__" : Str)) = false := by decide)
    (he : starEach (e :: es) X.env = (false, eval e X.env) :: starEach es X.env := by rfl) (hpl : (backTo pos (starEach es X.env)).any (·.1) = false := by rfl) : PE X (.Call (.Name y p) (e :: es) [] pos) (tMakeL i C sp dvs E t) := by
  obtain ⟨hm, _, _, _, M, G, hb, hd⟩ := F
  refine ⟨fun pins s σ H Q I h => ?_⟩
  obtain ⟨hs, h⟩ := h
  refine wpAny_Call_Name_kw (thn ((pe_var (pos := p) hN hv hdb hcd).run pins s σ H (fun v H1 => v = .ref C ∧ H1 = H) I ⟨.ref C, hs, rfl, rfl⟩) fun u s1 ⟨v, H1, I1, r1, q1⟩ => ?_)
  obtain ⟨rfl, rfl⟩ := q1
  cases r1
  exact PySem.W.callWith_K (h₀ := X.base) I.ok.mod.kin M.kp (thn (ha.run pos pins s1 σ _ _ I1 h) fun us s2 ⟨vs, H2, I2, r, q⟩ => ⟨I2.kIn, run_makeS (E := fun _ => E) M G hr hb hd (fun pins H s e s' => hx pins σ H s e s') I2 r q⟩) he hpl
theorem r_makeL {i : Nat} {dvs : List V} (hs : σ[i]? = some (some (.ref C))) (k : tMakeS C sp dvs (fun _ => E) t σ H Q) : tMakeL i C sp dvs E t σ H Q := ⟨hs, k⟩
/-! ### xs[::-1], keywords of built-ins -/
theorem pe_revK {te : TE} {kk : Nat} {p1 p2 p3 : Pos} (K' : PySem.W.Frag) (he : PE X e te) (hK : X.K = K' := by rfl) : PE X (.Subscript e (.Slice none none (some (.UnaryOp .USub (.Constant (.int 1) kk p1) p2)) p3) pos) (tRevL K' te) := hK ▸ pe_revL he
theorem r_revL {K : PySem.W.Frag} {te : TE} (k : te σ H fun x H1 => ∃ a xs, x = .ref a ∧ SqL K H1 a xs ∧ ∀ p, H1 p = none → Q (.ref p) (upd H1 p (.lst xs.reverse))) : tRevL K te σ H Q := k
theorem r_rev {K : PySem.W.Frag} {a : Addr} {xs : List V} {R : Addr → List V → Prop} (h : SqL K H a xs) (k : R a xs) : ∃ a' xs', V.ref a = .ref a' ∧ SqL K H a' xs' ∧ R a' xs' := ⟨a, xs, rfl, h, k⟩
theorem r_iStr {te : TE} {R : It → Hp → Prop} (k : te σ H fun v H1 => ∃ x, v = .str x ∧ R (Its x) H1) : iStr te σ H R := k
theorem r_ckw {r : List V → List V → Hp → VK → Prop} (k : t σ H fun vs H1 => tk σ H1 fun zs H2 => r vs zs H2 Q) : tCKw r t tk σ H Q := k
theorem r_maxK {K : PySem.W.Frag} {a : Addr} {ns : List Int} (h : SqL K H a (ns.map V.int)) (ne : 0 < ns.length) (k : ∀ m, m ∈ ns → (∀ y, y ∈ ns → y ≤ m) → Q (.int m) H) : rMaxKey K [.ref a] [.ty "int"] H Q := ⟨a, ns, rfl, rfl, h, ne, k⟩
theorem r_maxK2 {i j : Int} (k : Q (.int (if j > i then j else i)) H) : rMaxKey2 [.int i, .int j] [.ty "int"] H Q := ⟨i, j, rfl, rfl, k⟩
end
end Hg
end L2
end
set_option Elab.async false
set_option linter.all false
set_option maxRecDepth 100000
set_option autoImplicit false
set_option maxHeartbeats 200000
namespace L2
namespace Hg
open PySem PySem.Spec PyProof.Rows
local macro_rules | `(tactic| tm_at "r1") => `(tactic| first
  | with_reducible refine' r_seq ?_
  | with_reducible refine' r_asg ?_
  | with_reducible refine' r_gName ?_
  | with_reducible refine' r_op ?_
  | ((with_reducible refine' r_var ?hv ?_); (case hv => rfl))
  | with_reducible refine' r_c ?_
  | with_reducible refine' r_cons ?_
  | with_reducible refine' r_nil ?_
  | with_reducible refine' r_cb ?_
  | with_reducible refine' r_call ?_
  | with_reducible refine' r_callS ?_
  | with_reducible refine' r_ifS ?_
  | with_reducible refine' r_ret ?_
  | with_reducible refine' r_drop ?_
  | with_reducible refine' r_next ?_
  | with_reducible refine' r_test ?_
  | with_reducible refine' r_B ?_
  | with_reducible refine' r_bl ?_
  | with_reducible refine' r_tru ?_
  | with_reducible refine' r_trK ?_
  | with_reducible refine' r_and ?_
  | with_reducible refine' r_or ?_
  | with_reducible refine' r_not ?_
  | with_reducible refine' r_andV ?_
  | with_reducible refine' r_orV ?_
  | with_reducible refine' r_notV ?_
  | with_reducible refine' r_if ?_
  | with_reducible refine' r_chain ?_
  | with_reducible refine' r_un ?_
  | with_reducible refine' r_for ?_
  | with_reducible refine' r_rng1 ?_
  | with_reducible refine' r_rng2 ?_
  | with_reducible refine' r_iL ?_
  | with_reducible refine' r_iT ?_
  | with_reducible refine' r_lc ?_
  | with_reducible refine' r_yes ?_
  | with_reducible refine' r_gCons ?_
  | with_reducible refine' r_gNil ?_
  | with_reducible refine' r_pairs ?_
  | with_reducible refine' r_pairs0 ?_
  | with_reducible refine' r_disp ?_
  | with_reducible refine' r_dput ?_
  | with_reducible refine' r_dget ?_
  | with_reducible refine' r_veI ?_
  | with_reducible refine' r_sFld ?_
  | with_reducible refine' r_fld ?_
  | with_reducible refine' r_makeS ?_
  | with_reducible refine' r_make ?_
  | with_reducible refine' r_lst ?_
  | with_reducible refine' r_tup ?_
  | with_reducible refine' r_addI ?_
  | with_reducible refine' r_sub ?_
  | with_reducible refine' r_lt ?_
  | with_reducible refine' r_le ?_
  | with_reducible refine' r_gt ?_
  | with_reducible refine' r_ge ?_
  | with_reducible refine' r_abs ?_
  | with_reducible refine' r_intI ?_
  | with_reducible refine' r_intB ?_
  | with_reducible refine' r_min2 ?_
  | with_reducible refine' r_max2 ?_
  | with_reducible refine' r_isN ?_
  | with_reducible refine' r_notN ?_
  | with_reducible refine' r_neg ?_
  | ((with_reducible refine' r_mod ?hv ?_); (case hv => decide))
  | ((with_reducible refine' r_mul (cmulL ?hv) ?_); (case hv => decide))
  | ((with_reducible refine' r_mul (cmulR ?hv) ?_); (case hv => decide))
  | ((with_reducible refine' r_pow ?hv ?_); (case hv => refine ⟨?_, ?_, ?_⟩ <;> decide))
  | with_reducible refine' r_T ?_
  | with_reducible refine' r_nT ?_
  | with_reducible refine' r_nF ?_
  | with_reducible refine' r_F ?_
  | with_reducible refine' r_meth ?_
  | with_reducible refine' r_metS ?_
  | with_reducible refine' r_prop ?_
  | with_reducible refine' r_star ?_
  | with_reducible refine' r_par ?_
  | with_reducible refine' r_par3 ?_
  | with_reducible refine' r_v2 ?_
  | with_reducible refine' r_v3 ?_
  | with_reducible refine' r_sl ?_
  | with_reducible refine' r_part ?_
  | with_reducible refine' r_noPart ?_
  | with_reducible refine' r_i ?_
  | with_reducible refine' r_gSub ?_
  | with_reducible refine' r_gFld ?_
  | with_reducible refine' r_xf ?_
  | with_reducible refine' r_bm ?_
  | with_reducible refine' r_iU ?_
  | with_reducible refine' r_keys ?_
  | with_reducible refine' r_din ?_
  | with_reducible refine' r_dc ?_
  | with_reducible refine' r_fs ?_
  | with_reducible refine' r_js ?_
  | with_reducible refine' r_js0 ?_
  | with_reducible refine' r_fmt ?_
  | with_reducible refine' r_m1 ?_
  | with_reducible refine' r_isS ?_
  | with_reducible refine' r_bm0 ?_
  | with_reducible refine' r_trO ?_
  | with_reducible refine' r_cm ?_
  | with_reducible refine' r_cmS ?_
  | with_reducible refine' r_isC ?_
  | with_reducible refine' r_makeS ?_
  | with_reducible refine' r_revL ?_
  | with_reducible refine' r_ckw ?_
  | with_reducible refine' r_iStr ?_
  | ((with_reducible refine' r_makeL ?hv ?_); (case hv => rfl))
  | with_reducible refine' r_subO ?_
  | fail)
local macro_rules | `(tactic| tm_at "rd") => `(tactic| repeat tm_at "r1")
local macro_rules | `(tactic| tm_at "hs") => `(tactic| first
  | with_reducible assumption
  | (with_reducible exact upd_same)
  | ((with_reducible show upd _ _ _ _ = _); (with_reducible refine' at_upd ?hn ?ho); (case hn => tm_at "ne"); (case ho => tm_at "hs"))
  | ((with_reducible refine' Bx.keep ?hx _ _ ?hn ?ho); (case hx => with_reducible assumption); (case hn => tm_at "ne"); (case ho => tm_at "hs"))
  | ((with_reducible refine' Same.at ?hx ?ho); (case hx => with_reducible assumption); (case ho => tm_at "hs"))
  | ((with_reducible refine' Kx.at ?hx ?hn ?ho); (case hx => with_reducible assumption); (case hn => tm_at "ne"); (case ho => tm_at "hs"))
  | fail)
local macro_rules | `(tactic| tm_at "ne") => `(tactic| first
  | with_reducible assumption
  | exact Ne.symm (by with_reducible assumption)
  | ((with_reducible refine' ne_of_none ?ha ?hb); (case hb => with_reducible assumption); (case ha => with_reducible assumption))
  | ((with_reducible refine' Ne.symm (ne_of_none ?ha ?hb)); (case hb => with_reducible assumption); (case ha => with_reducible assumption))
  | ((with_reducible refine' ne_of_none ?ha ?hb); (case hb => with_reducible assumption); (case ha => tm_at "hs"))
  | ((with_reducible refine' Ne.symm (ne_of_none ?ha ?hb)); (case hb => with_reducible assumption); (case ha => tm_at "hs"))
  | fail)
local macro_rules | `(tactic| tm_at "fr") => `(tactic| repeat (rename upd _ _ _ _ = Option.none => hfr; have hfr2 := free_upd hfr; clear hfr; obtain ⟨hfr3, hfr4⟩ := hfr2))
local macro_rules | `(tactic| tm_at "sq") => `(tactic| first
  | with_reducible assumption
  | exact SqL.of (by tm_at "hs")
  | exact SqT.of (by tm_at "hs")
  | fail)
local macro_rules | `(tactic| tm_at "r2") => `(tactic| first
  | tm_at "r1"
  | ((with_reducible refine' r_ixL ?ha ?hb ?_); (case ha => tm_at "sq"); (case hb => rfl))
  | ((with_reducible refine' r_ixT ?ha ?hb ?_); (case ha => tm_at "sq"); (case hb => rfl))
  | ((with_reducible refine' r_setL ?ha ?hb ?_); (case ha => tm_at "hs"); (case hb => rfl))
  | ((with_reducible refine' r_lenL ?ha ?_); (case ha => tm_at "sq"))
  | ((with_reducible refine' r_lenT ?ha ?_); (case ha => tm_at "sq"))
  | fail)
local macro_rules | `(tactic| tm_at "go") => `(tactic| repeat tm_at "r2")
local macro_rules | `(tactic| tm_at "fn") => `(tactic| first
  | with_reducible assumption
  | ((with_reducible refine' Same.free ?hs ?hn); (case hn => with_reducible assumption); (case hs => tm_at "sm"))
  | fail)
local macro_rules | `(tactic| tm_at "sm") => `(tactic| first
  | with_reducible assumption
  | with_reducible exact Same.refl
  | ((with_reducible refine' Same.new ?ha ?hb); (case hb => with_reducible assumption); (case ha => tm_at "sm"))
  | ((with_reducible refine' Same.updF ?ha ?hb); (case hb => tm_at "fn"); (case ha => tm_at "sm"))
  | ((with_reducible refine' Same.bx ?ha ?hx ?hb); (case hx => with_reducible assumption); (case hb => tm_at "fn"); (case ha => tm_at "sm"))
  | ((with_reducible refine' Same.kx ?ha ?hx ?hb); (case hx => with_reducible assumption); (case hb => tm_at "fn"); (case ha => tm_at "sm"))
  | ((with_reducible refine' Same.trans ?ha ?hx); (case hx => with_reducible assumption); (case ha => tm_at "sm"))
  | fail)
local macro_rules | `(tactic| tm_at "tk") => `(tactic| first
  | with_reducible assumption
  | with_reducible exact Tk.refl
  | ((with_reducible refine' Tk.new ?ha ?hb); (case hb => with_reducible assumption); (case ha => tm_at "tk"))
  | ((with_reducible refine' Tk.setL ?ha ?hb); (case hb => tm_at "hs"); (case ha => tm_at "tk"))
  | ((with_reducible refine' Tk.setI ?ha ?hb); (case hb => tm_at "hs"); (case ha => tm_at "tk"))
  | ((with_reducible refine' Tk.trans ?ha (Bx.tk ?hx ?hb)); (case hx => with_reducible assumption); (case hb => tm_at "bx"); (case ha => tm_at "tk"))
  | ((with_reducible refine' Tk.trans ?ha (Kx.tk ?hx ?hb)); (case hx => with_reducible assumption); (case hb => tm_at "hs"); (case ha => tm_at "tk"))
  | ((with_reducible refine' Tk.trans ?ha (Same.tk ?hx)); (case hx => with_reducible assumption); (case ha => tm_at "tk"))
  | ((with_reducible refine' Tk.trans ?ha ?hx); (case hx => with_reducible assumption); (case ha => tm_at "tk"))
  | fail)
local macro_rules | `(tactic| tm_at "bx") => `(tactic| first
  | with_reducible assumption
  | ((with_reducible refine' Bx.box ?hx); (case hx => with_reducible assumption))
  | ((with_reducible refine' BoxAt.at ?ha ?hn); (case hn => tm_at "ne"); (case ha => tm_at "bx"))
  | ((with_reducible refine' BoxAt.same ?ha ?hs); (case hs => with_reducible assumption); (case ha => tm_at "bx"))
  | exact ⟨_, _, _, by tm_at "hs"⟩
  | fail)
section
variable {P : Program} {w : World} {K : PySem.W.Frag} {mg : Str → Option Value} {base : Heap} {aGround aWord aInvWord aInvText aInvRow : Addr}
def top (i : Nat) : Stmt := PySem.Challenge.pw_heldground_k73_words_and_their_texts.main.body.getD i (.Pass ⟨0, 0, 0, 0⟩)
abbrev s_law_box : Stmt := top 18
theorem sc_law_box : FnScope ["_law_script", "_law_k", "_law_own", "_law_cell", "_law_seed"] ["_law_script", "_law_k", "_law_own"] (defScope s_law_box) := ⟨rfl, rfl, rfl, by decide +kernel, rfl, by decide +kernel, by decide +kernel⟩
abbrev s_law_take : Stmt := top 19
theorem sc_law_take : FnScope ["_law_box_here", "_law_many", "_law_raw", "_law_wide", "_law_digit"] ["_law_box_here", "_law_many"] (defScope s_law_take) := ⟨rfl, rfl, rfl, by decide +kernel, rfl, by decide +kernel, by decide +kernel⟩
abbrev s_law_pick : Stmt := top 20
theorem sc_law_pick : FnScope ["_law_box_here", "_law_items"] ["_law_box_here", "_law_items"] (defScope s_law_pick) := ⟨rfl, rfl, rfl, by decide +kernel, rfl, by decide +kernel, by decide +kernel⟩
abbrev s_law_parts : Stmt := top 21
theorem sc_law_parts : FnScope ["_law_box_here", "_law_is_great", "_law_keep", "_law_most"] ["_law_box_here", "_law_is_great"] (defScope s_law_parts) := ⟨rfl, rfl, rfl, by decide +kernel, rfl, by decide +kernel, by decide +kernel⟩
abbrev s_law_line : Stmt := top 22
theorem sc_law_line : FnScope ["_law_parts_here", "_law_inner"] ["_law_parts_here"] (defScope s_law_line) := ⟨rfl, rfl, rfl, by decide +kernel, rfl, by decide +kernel, by decide +kernel⟩
abbrev s_law_number_of : Stmt := top 23
theorem sc_law_number_of : FnScope ["_law_word", "_law_letter"] ["_law_word"] (defScope s_law_number_of) := ⟨rfl, rfl, rfl, by decide +kernel, rfl, by decide +kernel, by decide +kernel⟩
abbrev s_law_read_parts : Stmt := top 24
theorem sc_law_read_parts : FnScope ["_law_line_here", "_law_words", "_law_keep", "_law_below", "_law_number", "_law_inner"] ["_law_line_here"] (defScope s_law_read_parts) := ⟨rfl, rfl, rfl, by decide +kernel, rfl, by decide +kernel, by decide +kernel⟩
abbrev s_law_parts_of : Stmt := top 25
theorem sc_law_parts_of : FnScope ["_law_word"] ["_law_word"] (defScope s_law_parts_of) := ⟨rfl, rfl, rfl, by decide +kernel, rfl, by decide +kernel, by decide +kernel⟩
abbrev s_law_heard : Stmt := top 26
theorem sc_law_heard : FnScope ["_law_value", "_law_found", "e"] ["_law_value"] (defScope s_law_heard) := ⟨rfl, rfl, rfl, by decide +kernel, rfl, by decide +kernel, by decide +kernel⟩
abbrev s_law_spoilt : Stmt := top 27
theorem sc_law_spoilt : FnScope ["_law_box_here", "_law_line_here", "_law_spot", "_law_some", "_law_place", "_law_words", "_law_form"] ["_law_box_here", "_law_line_here"] (defScope s_law_spoilt) := ⟨rfl, rfl, rfl, by decide +kernel, rfl, by decide +kernel, by decide +kernel⟩
abbrev s_law : Stmt := top 28
theorem sc_law : FnScope ["_law_script", "_law_k", "_law_box_here", "_law_parts_here", "_law_made", "_law_turn", "_law_value", "_law_word", "_law_one", "_law_line_here", "_law_other", "_law_its"] ["_law_script"] (defScope s_law) := ⟨rfl, rfl, rfl, by decide +kernel, rfl, by decide +kernel, by decide +kernel⟩
abbrev s_is_integer : Stmt := top 8
theorem sc_is_integer : FnScope ["value"] ["value"] (defScope s_is_integer) := ⟨rfl, rfl, rfl, by decide +kernel, rfl, by decide +kernel, by decide +kernel⟩
abbrev s_is_from : Stmt := top 9
theorem sc_is_from : FnScope ["value", "least", "most"] ["value", "least", "most"] (defScope s_is_from) := ⟨rfl, rfl, rfl, by decide +kernel, rfl, by decide +kernel, by decide +kernel⟩
abbrev s_is_number : Stmt := top 14
theorem sc_is_number : FnScope ["value"] ["value"] (defScope s_is_number) := ⟨rfl, rfl, rfl, by decide +kernel, rfl, by decide +kernel, by decide +kernel⟩
abbrev s_number_of : Stmt := top 10
theorem sc_number_of : FnScope ["word", "letter"] ["word"] (defScope s_number_of) := ⟨rfl, rfl, rfl, by decide +kernel, rfl, by decide +kernel, by decide +kernel⟩
abbrev s_slot_of : Stmt := top 15
theorem sc_slot_of : FnScope ["word", "found"] ["word"] (defScope s_slot_of) := ⟨rfl, rfl, rfl, by decide +kernel, rfl, by decide +kernel, by decide +kernel⟩
abbrev s_Word__init : Stmt := inClass (top 16) 0
theorem sc_Word__init : FnScope ["self", "number", "slot", "ground", "keep", "is_whole"] ["self", "number", "slot", "ground", "keep"] (defScope s_Word__init) := ⟨rfl, rfl, rfl, by decide +kernel, rfl, by decide +kernel, by decide +kernel⟩
abbrev s_Word_read : Stmt := inClass (top 16) 1
theorem sc_Word_read : FnScope ["cls", "text", "words", "keep", "number", "inner", "slot", "ground"] ["cls", "text"] (defScope s_Word_read) := ⟨rfl, rfl, rfl, by decide +kernel, rfl, by decide +kernel, by decide +kernel⟩
abbrev s_Word__eq : Stmt := inClass (top 16) 2
theorem sc_Word__eq : FnScope ["self", "other", "one"] ["self", "other"] (defScope s_Word__eq) := ⟨rfl, rfl, rfl, by decide +kernel, rfl, by decide +kernel, by decide +kernel⟩
abbrev s_Word__str : Stmt := inClass (top 16) 3
theorem sc_Word__str : FnScope ["self", "inner"] ["self"] (defScope s_Word__str) := ⟨rfl, rfl, rfl, by decide +kernel, rfl, by decide +kernel, by decide +kernel⟩
abbrev s_InvalidWord__init : Stmt := inClass (top 4) 0
theorem sc_InvalidWord__init : FnScope ["self"] ["self"] (defScope s_InvalidWord__init) := ⟨rfl, rfl, rfl, by decide +kernel, rfl, by decide +kernel, by decide +kernel⟩
structure Txt (K : PySem.W.Frag) (mg : Str → Option Value) (aGround aWord aInvWord aInvText aInvRow : Addr) : Prop where
  m_GroundError : mg "GroundError" = some (.ref aGround)
  b_GroundError : BaseInit K aGround
  m_LAST_SLOT : ∃ t, mg "LAST_SLOT" = some (.int 2 t)
  m_MOST_DIGITS : ∃ t, mg "MOST_DIGITS" = some (.int 6 t)
  m_DIGITS : ∃ t, mg "DIGITS" = some (.str "0123456789" t)
  m_NOWHERE : ∃ t, mg "NOWHERE" = some (.str "none" t)
  m_InvalidWord : mg "InvalidWord" = some (.ref aInvWord)
  m_InvalidText : mg "InvalidText" = some (.ref aInvText)
  m_InvalidRow : mg "InvalidRow" = some (.ref aInvRow)
  m_Word : mg "Word" = some (.ref aWord)
  clW : Cls K aWord
  nN : NoAttr K aWord "number"
  nS : NoAttr K aWord "slot"
  nG : NoAttr K aWord "ground"
  nK : NoAttr K aWord "keep"
  tyW : ∀ (H : Hp) (a dx : Addr) (fs : List (Str × V)), H a = some (.ins aWord dx fs) → TyX K H (.ref a) (.ref aWord)
  kT : PySem.W.kitOne K (.type "tuple") (.ref aWord) = some false
  kS : PySem.W.kitOne K (.type "str") (.ref aWord) = some false
  fT : PySem.W.notFirst K aWord (.type "tuple") = true
  fS : PySem.W.notFirst K aWord (.type "str") = true
  ne_Word : PySem.W.findIn K (.ref aWord) "__ne__" = some (some (.builtin "object.__ne__"))
  ob_Word : PySem.W.mroIn K aWord (.type "object") = some true
  exm : PySem.W.exmOne K (.ref aInvWord) (.ref aInvWord) = some true
  xc : ExcC K aInvWord
  isG : PySem.W.kitOne K (.ref aInvWord) (.ref aGround) = some true
  isT : PySem.W.kitOne K (.ref aInvWord) (.ref aInvText) = some false
  isR : PySem.W.kitOne K (.ref aInvWord) (.ref aInvRow) = some false
  n_int : mg "int" = none
  n_len : mg "len" = none
  n_abs : mg "abs" = none
  n_repr : mg "repr" = none
  n_range : mg "range" = none
  n_min : mg "min" = none
  n_max : mg "max" = none
  n_bool : mg "bool" = none
  n_str : mg "str" = none
  n_zip : mg "zip" = none
  n_all : mg "all" = none
  n_isinstance : mg "isinstance" = none
theorem divw {a m : Int} (h1 : 1 ≤ m) (h2 : m < 100000000000000000000) : CDivW a m := by
  refine ⟨by omega, ?_⟩
  have e : m.natAbs ≠ 0 := by omega
  refine (Nat.log2_lt e).mpr (Nat.lt_of_lt_of_le (m := 100000000000000000000) (by omega) ?_)
  exact Nat.le_trans (Nat.le_of_ble_eq_true (by decide +kernel) : 100000000000000000000 ≤ 2 ^ 100) (Nat.pow_le_pow_right (by decide) (by decide))
theorem ok_take (F : DefAt K mg "_law_take" s_law_take) (T : Txt K mg aGround aWord aInvWord aInvText aInvRow) : DefOk P w K mg base CX0 1 "_law_take" ["_law_box_here", "_law_many"] spTake := by
  refine F.ok sc_law_take (fun _ _ _ _ _ _ us hl => match us, hl with | [_, _], _ => rfl) (fun vs H Q E h => ?_) (fun f cdv A outer s H vs Q E hr h => ?_)
  · obtain ⟨b, m, rfl, _⟩ := h
    rfl
  · obtain ⟨b, m, rfl, ⟨x, y, z, hb⟩, m1, m2, k⟩ := h
    refine ⟨_, (pss_cons (ps_if (pt_cmpR o_gt (pe_ix (ix_u K) (pv 0) pe_int (fun _ _ => rfl)) pe_int (nomark _)) (pss_cons (ps_set (i := 4) sc_law_take.nd rfl (Or.inl rfl) (pe_op o_mod (pe_callTy c_int (by rfl) T.n_int (by decide +kernel) (pa_cons (pe_ix (ix_u K) (pv 0) pe_int (fun _ _ => rfl)) pa_nil)) (pv 1)))
  (pss_cons (ps_asg (pe_op o_div (pe_ix (ix_u K) (pv 0) pe_int (fun _ _ => rfl)) (pv 1)) (pg_sub (pv 0) pe_int set_list))
  (pss_one (ps_ret (pv 4)))))
  pss_nil)
  (pss_cons (ps_asg (pe_op (o_add K) (pe_ix (ix_u K) (pv 0) pe_int (fun _ _ => rfl)) pe_int) (pg_sub (pv 0) pe_int set_list))
  (pss_cons (ps_set (i := 2) sc_law_take.nd rfl (Or.inl rfl) (pe_op o_mod (pe_callTy c_int (by rfl) T.n_int (by decide +kernel) (pa_cons (pe_op o_mul (pe_op (o_add K) (pe_ix (ix_u K) (pv 0) pe_int (fun _ _ => rfl)) (pe_op o_mul pe_int (pe_ix (ix_u K) (pv 0) pe_int (fun _ _ => rfl)))) pe_int) pa_nil)) pe_int))
  (pss_cons (ps_asg (pe_op (o_add K) (pe_op o_mod (pe_callTy c_int (by rfl) T.n_int (by decide +kernel) (pa_cons (pe_op (o_add K) (pe_op o_mul (pv 2) pe_int) pe_int) pa_nil)) pe_int) pe_int) (pg_sub (pv 0) pe_int set_list))
  (pss_cons (ps_if (pt_cmpR o_lt (pv 1) (pe_op o_pow pe_int pe_int) (nomark _)) (pss_one (ps_ret (pe_op o_mod (pe_callTy c_int (by rfl) T.n_int (by decide +kernel) (pa_cons (pe_op o_div (pe_op (o_add K) (pe_op o_mul (pv 2) pe_int) (pe_ix (ix_u K) (pv 0) pe_int (fun _ _ => rfl))) pe_int) pa_nil)) (pv 1))))
  pss_nil)
  (pss_cons (ps_set (i := 3) sc_law_take.nd rfl (Or.inl rfl) (pe_op o_mul (pe_op (o_add K) (pe_op o_mul (pv 2) pe_int) (pe_ix (ix_u K) (pv 0) pe_int (fun _ _ => rfl))) (pe_op o_pow pe_int pe_int)))
  (pss_one (ps_ret (pe_op o_mod (pe_callTy c_int (by rfl) T.n_int (by decide +kernel) (pa_cons (pe_op (o_add K) (pe_op (o_add K) (pv 3) (pe_op o_mul (pe_op o_pow (pe_ix (ix_u K) (pv 0) pe_int (fun _ _ => rfl)) pe_int) pe_int)) (pv 2)) pa_nil)) (pv 1)))))))))), ?_⟩
    tm_at "go"
    refine r_id (fun h0 => ?_) (fun h0 => ?_)
    · tm_at "go"
      refine r_mod (by omega) ?_
      tm_at "go"
      refine r_divW (divw m1 m2) ?_
      tm_at "go"
      exact k _ _ (Int.emod_nonneg _ (by omega)) (Int.emod_lt_of_pos _ (by omega)) ((Bx.refl ⟨_, _, _, hb⟩).set _ _ _)
    · tm_at "go"
      have b1 : ∀ x : Int, 0 ≤ x % 2147483629 + 1 ∧ x % 2147483629 + 1 < 2 ^ 31 := fun x => by
        have := Int.emod_nonneg x (b := 2147483629) (by decide)
        have := Int.emod_lt_of_pos x (b := 2147483629) (by decide)
        omega
      have b2 : ∀ x : Int, 0 ≤ x % 2147483647 ∧ x % 2147483647 < 2 ^ 31 := fun x => by
        have := Int.emod_nonneg x (b := 2147483647) (by decide)
        have := Int.emod_lt_of_pos x (b := 2147483647) (by decide)
        omega
      refine r_id (fun _ => ?_) (fun _ => ?_)
      · tm_at "go"
        refine r_div (by decide) (by decide) ?_
        tm_at "go"
        refine r_mod (by omega) ?_
        tm_at "go"
        exact k _ _ (Int.emod_nonneg _ (by omega)) (Int.emod_lt_of_pos _ (by omega)) (((Bx.refl ⟨_, _, _, hb⟩).set _ _ _).set _ _ _)
      · tm_at "go"
        have c2 := b2 ((y + 104729 * (z + 1)) * 69623)
        have c1 := b1 ((y + 104729 * (z + 1)) * 69623 % 2147483647 * 48271 + 30103)
        generalize (y + 104729 * (z + 1)) * 69623 % 2147483647 = raw at c1 c2 ⊢
        generalize (raw * 48271 + 30103) % 2147483629 + 1 = seed at c1 ⊢
        refine r_mul (cmulL ⟨by omega, by omega⟩) ?_
        tm_at "go"
        refine r_pow ⟨by decide, by decide, by omega⟩ ?_
        tm_at "go"
        refine r_mod (by omega) ?_
        tm_at "go"
        exact k _ _ (Int.emod_nonneg _ (by omega)) (Int.emod_lt_of_pos _ (by omega)) (((Bx.refl ⟨_, _, _, hb⟩).set _ _ _).set _ _ _)
theorem ok_pick (F : DefAt K mg "_law_pick" s_law_pick) (T : Txt K mg aGround aWord aInvWord aInvText aInvRow) (D_law_take : DefOk P w K mg base CX0 1 "_law_take" ["_law_box_here", "_law_many"] spTake) :
    DefOk P w K mg base CX0 2 "_law_pick" ["_law_box_here", "_law_items"] (spPick K) := by
  refine F.ok sc_law_pick (fun _ _ _ _ _ _ us hl => match us, hl with | [_, _], _ => rfl) (fun vs H Q E h => ?_) (fun f cdv A outer s H vs Q E hr h => ?_)
  · obtain ⟨b, l, xs, rfl, _⟩ := h
    rfl
  · obtain ⟨b, l, xs, rfl, hb, hl, nl, m1, m2, k⟩ := h
    refine ⟨_, (pss_one (ps_ret (pe_ix (ix_u K) (pv 1) (pe_callD D_law_take (hr.mono (by decide)) pass0 rfl (pa_cons (pv 0) (pa_cons (pe_callB (c_len K) (by rfl) T.n_len (by decide +kernel) (pa_cons (pv 1) pa_nil)) pa_nil))) (fun _ _ => rfl)))), ?_⟩
    have fin : ∀ (d : Int) (H' : Hp), 0 ≤ d → d < (xs.length : Nat) → Bx b H H' → rIx K (.ref l) (.int d) H' Q := fun d H' h0 h1 hx => by
      obtain ⟨j, rfl⟩ : ∃ j : Nat, d = j := ⟨d.toNat, by omega⟩
      have hj : j < xs.length := by omega
      have e : xs[j]? = some xs[j] := List.getElem?_eq_getElem hj
      rcases hl with hl | hl
      · exact r_ixL (Bx.seqL hx nl hl) (atI_nat e) (k _ _ (List.getElem_mem hj) hx)
      · exact r_ixT (Bx.seqT hx nl hl) (atI_nat e) (k _ _ (List.getElem_mem hj) hx)
    tm_at "go"
    have ln : ∀ {Q' : VK}, Q' (.int (xs.length : Nat)) H → uLen K [.ref l] H Q' := fun q => by
      rcases hl with hl | hl
      · exact r_lenL hl q
      · exact r_lenT hl q
    refine ln ?_
    tm_at "go"
    exact ⟨b, _, rfl, hb, by omega, by omega, fin⟩
theorem ok_box (F : DefAt K mg "_law_box" s_law_box) (T : Txt K mg aGround aWord aInvWord aInvText aInvRow) : DefOk P w K mg base CX0 1 "_law_box" ["_law_script", "_law_k", "_law_own"] (spBox K) := by
  refine F.ok sc_law_box (fun _ _ _ _ _ _ us hl => match us, hl with | [_, _, _], _ => rfl) (fun vs H Q E h => ?_) (fun f cdv A outer s H vs Q E hr h => ?_)
  · obtain ⟨a, ns, k, c, rfl, _⟩ := h
    rfl
  · obtain ⟨a, ns, k, c, rfl, hS, k0, k1, c0, c1, nl, q⟩ := h
    refine ⟨_, (pss_cons (ps_set (i := 3) sc_law_box.nd rfl (Or.inl rfl) (pe_op (o_add K) (pe_op (o_add K) (pe_op o_mul pe_int (pv 1)) (pe_op o_mul pe_int (pv 2))) pe_int))
  (pss_cons (ps_if (pt_cmpR o_lt (pv 1) (pe_callB (c_len K) (by rfl) T.n_len (by decide +kernel) (pa_cons (pv 0) pa_nil)) (nomark _)) (pss_one (ps_set (i := 3) sc_law_box.nd rfl (Or.inl rfl) (pe_callB c_abs (by rfl) T.n_abs (by decide +kernel) (pa_cons (pe_ix (ix_u K) (pv 0) (pv 1) (fun _ _ => rfl)) pa_nil))))
  (pss_one (ps_if (pt_cmpR o_gt (pe_callB (c_len K) (by rfl) T.n_len (by decide +kernel) (pa_cons (pv 0) pa_nil)) pe_int (nomark _)) (pss_one (ps_set (i := 3) sc_law_box.nd rfl (Or.inl rfl) (pe_op (o_add K) (pv 3) (pe_op o_mul (pe_op o_mod (pe_callTy c_int (by rfl) T.n_int (by decide +kernel) (pa_cons (pe_callB c_abs (by rfl) T.n_abs (by decide +kernel) (pa_cons (pe_ix (ix_u K) (pv 0) (pe_op o_mod (pe_callTy c_int (by rfl) T.n_int (by decide +kernel) (pa_cons (pv 1) pa_nil)) (pe_callB (c_len K) (by rfl) T.n_len (by decide +kernel) (pa_cons (pv 0) pa_nil))) (fun _ _ => rfl)) pa_nil)) pa_nil)) pe_int) pe_int))))
  pss_nil)))
  (pss_cons (ps_set (i := 4) sc_law_box.nd rfl (Or.inl rfl) (pe_op (o_add K) (pe_op o_mod (pe_callTy c_int (by rfl) T.n_int (by decide +kernel) (pa_cons (pe_op (o_add K) (pe_op o_mul (pe_op o_mod (pe_callTy c_int (by rfl) T.n_int (by decide +kernel) (pa_cons (pv 3) pa_nil)) pe_int) pe_int) (pe_op o_mul pe_int (pe_op (o_add K) (pv 1) (pe_op o_mul pe_int (pv 2))))) pa_nil)) pe_int) pe_int))
  (pss_one (ps_ret (pe_lst (pa_cons (pe_ix (ix_u K) (pe_lst (pa_cons pe_int (pa_cons (pv 3) pa_nil))) (pe_callTy c_int (by rfl) T.n_int (by decide +kernel) (pa_cons (pe_cmpR o_ge (pv 3) (pe_op o_pow pe_int pe_int) (nomark _)) pa_nil)) (fun _ _ => rfl)) (pa_cons (pv 4) (pa_cons pe_int pa_nil))))))))), ?_⟩
    have at_ : ∀ j : Nat, j < ns.length → ∃ n : Int, atI (ns.map V.int) (j : Int) = some (.int n) := fun j hj => ⟨ns[j], atI_nat (by simp [hj])⟩
    obtain ⟨j, rfl⟩ : ∃ j : Nat, k = j := ⟨k.toNat, by omega⟩
    tm_at "go"
    have done : ∀ (cell v seed : Int) (p p2 : Addr), H p = none → upd H p (.lst [.int 0, .int cell]) p2 = none →
        Q (.ref p2) (upd (upd H p (.lst [.int 0, .int cell])) p2 (.lst [.int v, .int seed, .int 0])) := fun cell v seed p p2 hp h2 => by
      obtain ⟨f2, _⟩ := free_upd h2
      refine q p2 _ f2 ⟨fun x o n e => ?_, v, seed, 0, upd_same⟩
      exact at_upd n (at_upd (ne_of_none e hp) e)
    have ix : ∀ (cell : Int) (p : Addr) (Q1 : VK), (∀ v : Int, Q1 (.int v) (upd H p (.lst [.int 0, .int cell]))) →
        rIx K (.ref p) (.int (if decide (10 ^ Int.toNat 18 ≤ cell) then 1 else 0)) (upd H p (.lst [.int 0, .int cell])) Q1 := fun cell p Q1 k => by
      refine r_ixL (v := .int (if decide (10 ^ Int.toNat 18 ≤ cell) then cell else 0)) (SqL.of upd_same) ?_ (k _)
      split <;> rfl
    have lenE : (List.map V.int ns).length = ns.length := List.length_map ..
    refine r_id (fun h0 => ?_) (fun h0 => ?_)
    · obtain ⟨n, hn⟩ := at_ j (by omega)
      tm_at "go"
      refine r_ixL hS hn ?_
      tm_at "go"
      refine ⟨szl rfl, fun p hp => ?_⟩
      tm_at "go"
      refine ix _ p _ fun v => ?_
      tm_at "go"
      exact ⟨szl rfl, fun p2 h2 => done _ _ _ _ _ hp h2⟩
    · tm_at "go"
      refine r_id (fun h1 => ?_) (fun h1 => ?_)
      · have hj : j % ns.length < ns.length := Nat.mod_lt _ (by omega)
        obtain ⟨n, hn⟩ := at_ _ hj
        tm_at "go"
        refine r_mod (by omega) ?_
        refine r_ixL hS (by rw [lenE, ← Int.natCast_emod]; exact hn) ?_
        tm_at "go"
        refine ⟨szl rfl, fun p hp => ?_⟩
        tm_at "go"
        refine ix _ p _ fun v => ?_
        tm_at "go"
        exact ⟨szl rfl, fun p2 h2 => done _ _ _ _ _ hp h2⟩
      · tm_at "go"
        refine ⟨szl rfl, fun p hp => ?_⟩
        tm_at "go"
        refine ix _ p _ fun v => ?_
        tm_at "go"
        exact ⟨szl rfl, fun p2 h2 => done _ _ _ _ _ hp h2⟩
theorem ok_is_integer (F : DefAt K mg "is_integer" s_is_integer) (T : Txt K mg aGround aWord aInvWord aInvText aInvRow) : DefOk P w K mg base CX0 1 "is_integer" ["value"] (spIsInt K) := by
  refine F.ok sc_is_integer (fun _ _ _ _ _ _ us hl => match us, hl with | [_], _ => rfl) (fun vs H Q E h => ?_) (fun f cdv A outer s H vs Q E hr h => ?_)
  · obtain ⟨v, rfl, _⟩ := h
    rfl
  · obtain ⟨v, rfl, hv, k⟩ := h
    refine ⟨_, (pss_one (ps_ret (pe_and (pe_callB (c_isi K) (by rfl) T.n_isinstance (by decide +kernel) (pa_cons (pv 0) (pa_cons (pe_bT (T := "int") (by rfl) T.n_int (by decide +kernel)) pa_nil))) (pe_one (pe_not (pe_callB (c_isi K) (by rfl) T.n_isinstance (by decide +kernel) (pa_cons (pv 0) (pa_cons (pe_bT (T := "bool") (by rfl) T.n_bool (by decide +kernel)) pa_nil)))))))), ?_⟩
    obtain ⟨t1, ty1, e1⟩ := hv.isi_int
    obtain ⟨t2, ty2, e2⟩ := hv.isi_bool
    rw [← isI_of] at k
    tm_at "go"
    refine r_isi (.ty _) ty1 e1 ?_
    tm_at "go"
    refine r_ite (fun h1 => ?_) (fun h1 => ?_)
    · tm_at "go"
      refine r_isi (.ty _) ty2 e2 ?_
      tm_at "go"
      rw [h1] at k
      exact k
    · rw [h1] at k
      exact k
theorem ok_is_from (F : DefAt K mg "is_from" s_is_from) (T : Txt K mg aGround aWord aInvWord aInvText aInvRow) (D_is_integer : DefOk P w K mg base CX0 1 "is_integer" ["value"] (spIsInt K)) :
    DefOk P w K mg base CX0 2 "is_from" ["value", "least", "most"] (spFrom K) := by
  refine F.ok sc_is_from (fun _ _ _ _ _ _ us hl => match us, hl with | [_, _, _], _ => rfl) (fun vs H Q E h => ?_) (fun f cdv A outer s H vs Q E hr h => ?_)
  · obtain ⟨v, a, b, rfl, _⟩ := h
    rfl
  · obtain ⟨v, a, b, rfl, hv, k⟩ := h
    refine ⟨_, (pss_one (ps_ret (pe_and (pe_callD D_is_integer (hr.mono (by decide)) pass0 rfl (pa_cons (pv 0) pa_nil)) (pe_one (pe_chain o_le o_le (pv 1) (pv 0) (pv 2)))))), ?_⟩
    tm_at "go"
    refine ⟨v, rfl, hv, ?_⟩
    tm_at "go"
    refine r_ite (fun h1 => ?_) (fun h1 => ?_)
    · obtain ⟨i, rfl⟩ := isI_int h1
      tm_at "go"
      by_cases c1 : a ≤ i
      · refine r_Td c1 ?_
        tm_at "go"
        rw [show fromV (.int i) a b = decide (i ≤ b) by simp [fromV, c1]] at k
        exact k
      · refine r_Fd c1 ?_
        rw [show fromV (.int i) a b = false by simp [fromV, c1]] at k
        exact k
    · have z : fromV v a b = false := by
        cases v <;> first | rfl | cases h1
      rw [z] at k
      exact k
theorem ok_is_number (F : DefAt K mg "is_number" s_is_number) (T : Txt K mg aGround aWord aInvWord aInvText aInvRow) (D_is_integer : DefOk P w K mg base CX0 1 "is_integer" ["value"] (spIsInt K)) :
    DefOk P w K mg base CX0 2 "is_number" ["value"] (spIsNum K) := by
  refine F.ok sc_is_number (fun _ _ _ _ _ _ us hl => match us, hl with | [_], _ => rfl) (fun vs H Q E h => ?_) (fun f cdv A outer s H vs Q E hr h => ?_)
  · obtain ⟨v, rfl, _⟩ := h
    rfl
  · obtain ⟨v, rfl, hv, k⟩ := h
    refine ⟨_, (pss_one (ps_ret (pe_and (pe_callD D_is_integer (hr.mono (by decide)) pass0 rfl (pa_cons (pv 0) pa_nil)) (pe_one (pe_cmpR o_ge (pv 0) pe_int (nomark _)))))), ?_⟩
    tm_at "go"
    refine ⟨v, rfl, hv, ?_⟩
    tm_at "go"
    refine r_ite (fun h1 => ?_) (fun h1 => ?_)
    · obtain ⟨i, rfl⟩ := isI_int h1
      tm_at "go"
      exact k
    · have z : numV v = false := by
        cases v <;> first | rfl | cases h1
      rw [z] at k
      exact k
local macro_rules | `(tactic| tm_at "wd") => `(tactic| first
  | tm_at "r2"
  | ((with_reducible show spIsNum _ _ _ _ _); (refine' ⟨_, rfl, ?ha, ?_⟩); (case ha => with_reducible assumption))
  | ((with_reducible show spFrom _ _ _ _ _); (refine' ⟨_, _, _, rfl, ?ha, ?_⟩); (case ha => with_reducible assumption))
  | refine r_ite (fun _ => ?_) (fun _ => ?_))
/-- the fields of a word -/
def wordF (a b c d : V) : List (Str × V) := putF "keep" d (putF "ground" c (putF "slot" b (putF "number" a [])))
def goodW (a b c d : V) : Bool := numV a && ((decide (b = .non) && decide (c = .non)) || (fromV b 0 2 && numV c)) && (decide (d = .non) || fromV d 0 2)
theorem wordF_number (a b c d : V) : (wordF a b c d).lookup ("number" : Str) = some a := by
  unfold wordF
  rw [lookup_putF, if_neg (by decide +kernel), lookup_putF, if_neg (by decide +kernel), lookup_putF, if_neg (by decide +kernel), lookup_putF, if_pos rfl]
theorem wordF_slot (a b c d : V) : (wordF a b c d).lookup ("slot" : Str) = some b := by
  unfold wordF
  rw [lookup_putF, if_neg (by decide +kernel), lookup_putF, if_neg (by decide +kernel), lookup_putF, if_pos rfl]
theorem wordF_ground (a b c d : V) : (wordF a b c d).lookup ("ground" : Str) = some c := by
  unfold wordF
  rw [lookup_putF, if_neg (by decide +kernel), lookup_putF, if_pos rfl]
theorem wordF_keep (a b c d : V) : (wordF a b c d).lookup ("keep" : Str) = some d := by
  unfold wordF
  rw [lookup_putF, if_pos rfl]
def spWord (K : PySem.W.Frag) (aWord aInvWord : Addr) : Sp := fun vs H Q E => ∃ x dx a b c d, vs = [.ref x, a, b, c, d] ∧ Kd K H a ∧ Kd K H b ∧ Kd K H c ∧ Kd K H d ∧ H x = some (.ins aWord dx []) ∧
  (goodW a b c d = true → Q .non (upd H x (.ins aWord dx (wordF a b c d)))) ∧ (goodW a b c d = false → E (.ref aInvWord) none H)
section

theorem ok_InvalidWord (F : ErrAt K mg "InvalidWord" "InvalidWord.__init__" s_InvalidWord__init aInvWord) (T : Txt K mg aGround aWord aInvWord aInvText aInvRow) : ErrOk P w K mg base 1 "InvalidWord" aInvWord ["self"] (spInitN K aInvWord) := by
  refine F.ok sc_InvalidWord__init (fun _ _ _ _ _ _ us hl => match us, hl with | [_], _ => rfl) (fun vs H Q E h => ?_) (fun f cdv A outer s H vs Q E hr h => ?_)
  · obtain ⟨a, rfl, _⟩ := h
    rfl
  · obtain ⟨a, rfl, oc, ha, k⟩ := h
    refine ⟨_, (pss_one (ps_expr (pe_ginit rfl T.m_GroundError T.b_GroundError (pa_cons (pv 0) (pa_cons pe_str pa_nil))))), ?_⟩
    tm_at "go"
    exact ⟨a, aInvWord, _, rfl, Nat.le_of_ble_eq_true rfl, oc, ha, k⟩
theorem ok_Word {aWordI : Addr} {fdI : FuncData} (F : FunD K "__init__" "Word.__init__" (defArgs s_Word__init) (defBody s_Word__init) (defScope s_Word__init) [.non, .non, .non] [] aWordI fdI) (T : Txt K mg aGround aWord aInvWord aInvText aInvRow)
    (D_is_number : DefOk P w K mg base CX0 2 "is_number" ["value"] (spIsNum K)) (D_is_from : DefOk P w K mg base CX0 2 "is_from" ["value", "least", "most"] (spFrom K))
    (R_InvalidWord : ErrOk P w K mg base 1 "InvalidWord" aInvWord ["self"] (spInitN K aInvWord)) :
    FnOk P w K mg base (L2.CX P w) 4 aWordI fdI ["self", "number", "slot", "ground", "keep"] (spWord K aWord aInvWord) := by
  refine F.ok sc_Word__init (fun vs H Q E h => ?_) (fun cdv A outer s H vs Q E hr h => ?_)
  · obtain ⟨x, dx, a, b, c, d, rfl, _⟩ := h
    rfl
  · obtain ⟨x, dx, a, b, c, d, rfl, ha, hb, hc, hd, hx, kY, kN⟩ := h
    refine ⟨_, (pss_cons (ps_set (i := 5) sc_Word__init.nd rfl (Or.inl rfl) (pe_and (pe_cmpR o_is (pv 2) pe_non (nomark _)) (pe_one (pe_cmpR o_is (pv 3) pe_non (nomark _)))))
  (pss_cons (ps_if (PW.pt (pw_or (pt_not (pt_tr K (pe_callD D_is_number (hr.mono (by decide)) pass0 rfl (pa_cons (pv 1) pa_nil)))) (pw_or1 (PW.pt (pw_and (pt_not (pt_tr K (pv 5))) (pw_and1 (pt_not (PW.pt (pw_and (pt_tr K (pe_callD D_is_from (hr.mono (by decide)) pass0 rfl (pa_cons (pv 2) (pa_cons pe_int (pa_cons (pe_gI rfl T.m_LAST_SLOT) pa_nil))))) (pw_and1 (pt_tr K (pe_callD D_is_number (hr.mono (by decide)) pass0 rfl (pa_cons (pv 3) pa_nil))))))))))))) (pss_one (ps_raise rfl (takes_of rfl rfl rfl rfl) (pmkN R_InvalidWord (hr.mono (by decide)) rfl)))
  pss_nil)
  (pss_cons (ps_if (PW.pt (pw_and (pt_cmpR o_isNot (pv 4) pe_non (nomark _)) (pw_and1 (pt_not (pt_tr K (pe_callD D_is_from (hr.mono (by decide)) pass0 rfl (pa_cons (pv 4) (pa_cons pe_int (pa_cons (pe_gI rfl T.m_LAST_SLOT) pa_nil))))))))) (pss_one (ps_raise rfl (takes_of rfl rfl rfl rfl) (pmkN R_InvalidWord (hr.mono (by decide)) rfl)))
  pss_nil)
  (pss_cons (ps_fl K (pv 0) (pv 1))
  (pss_cons (ps_fl K (pv 0) (pv 2))
  (pss_cons (ps_fl K (pv 0) (pv 3))
  (pss_one (ps_fl K (pv 0) (pv 4))))))))), ?_⟩
    have kE : ∀ {Q' : XK} {σ' : St}, goodW a b c d = false → (E (.ref aInvWord) none H → Q' (.ref aInvWord) none H) → tMkN aInvWord (spInitN K aInvWord) σ' H Q' := fun h k => r_mkN R_InvalidWord.2.1 (k (kN h))
    repeat' tm_at "wd"
    all_goals first
      | (refine kE ?_ (fun z => z); simp_all [goodW]; done)
      | skip
    all_goals
      have hg : goodW a b c d = true := by simp_all [goodW]
      have k := kY hg
      refine r_put hx T.clW T.nN (by decide) ?_
      tm_at "go"
      refine r_put upd_same T.clW T.nS (Nat.lt_of_le_of_lt (putF_len ..) (by decide)) ?_
      tm_at "go"
      refine r_put upd_same T.clW T.nG (Nat.lt_of_le_of_lt (Nat.le_trans (putF_len ..) (Nat.succ_le_succ (putF_len ..))) (by decide)) ?_
      tm_at "go"
      refine r_put upd_same T.clW T.nK (Nat.lt_of_le_of_lt (Nat.le_trans (putF_len ..) (Nat.succ_le_succ (Nat.le_trans (putF_len ..) (Nat.succ_le_succ (putF_len ..))))) (by decide)) ?_
      tm_at "go"
      show Q .non _
      rw [upd_upd, upd_upd, upd_upd]
      exact k
end
/-! ### the number that a word writes -/
def digitsL (l : List Nat) : Bool := l.all fun c => decide (48 ≤ c ∧ c ≤ 57)
def numOf (x : Str) : Option Nat :=
  if (1 ≤ x.length ∧ x.length ≤ 6) ∧ digitsL x.cps.toList = true ∧ (x = "0" ∨ x.cps.toList.head? ≠ some 48) then some (PySem.NumText.digitsVal x.cps.toList) else none
def optI : Option Nat → V
  | none => .non
  | some n => .int (n : Int)
theorem digits_in (c : Nat) : decide (c ∈ ("0123456789" : Str).cps.toList) = decide (48 ≤ c ∧ c ≤ 57) := by
  have e : ("0123456789" : Str).cps.toList = [48, 49, 50, 51, 52, 53, 54, 55, 56, 57] := by decide +kernel
  rw [e]
  refine decide_eq_decide.mpr ?_
  simp only [List.mem_cons, List.not_mem_nil, or_false]
  omega
theorem all_dig {l : List Nat} (h : digitsL l = true) : PySem.NumText.AllDigits l := fun c hc => by
  have := List.all_eq_true.mp h c hc
  simpa using this
theorem int_dig {x : Str} (h : digitsL x.cps.toList = true) (h1 : 1 ≤ x.length) (h2 : x.length ≤ 6) : PySem.intText? x = some ((PySem.NumText.digitsVal x.cps.toList : Nat) : Int) :=
  PySem.intText_digits (all_dig h) (fun z => by
    have : x.cps.toList.length = x.length := Array.length_toList
    rw [z] at this
    simp at this
    omega) (by omega)
theorem r_nid {c : Prop} [Decidable c] {A B : Prop} (h1 : ¬ c → A) (h2 : c → B) : if (!decide c) = true then A else B := by
  by_cases h : c
  · rw [decide_eq_true h]
    exact h2 h
  · rw [decide_eq_false h]
    exact h1 h
theorem r_nb {b : Bool} {A B : Prop} (h1 : b = false → A) (h2 : b = true → B) : if (!b) = true then A else B := by
  cases b with
  | false => exact h1 rfl
  | true => exact h2 rfl
theorem str_at {x : Str} {i c : Nat} (h : x.cps[i]? = some c) : x.cps.toList[i]? = some c := by rw [Array.getElem?_toList]; exact h
theorem decS (a b : Str) : decide (V.str a = V.str b) = decide (a = b) := by simp
theorem sign_eq (c d : Nat) : ((⟨#[c]⟩ : Str) = ⟨#[d]⟩) ↔ c = d := by simp
theorem r_ninS {K : PySem.W.Frag} {c : Nat} {z : Str} {H : Hp} {Q : VK} (k : Q (.bl (!decide (c ∈ z.cps.toList))) H) : uNotIn K (.str ⟨#[c]⟩) (.str z) H Q := .inr ⟨c, z, rfl, rfl, k⟩
def cpsOk (x : Str) : Prop := ∀ c ∈ x.cps.toList, c < 1114112
def spNumOf : Sp := fun vs H Q _ => ∃ x : Str, vs = [.str x] ∧ x.length ≤ 100000 ∧ cpsOk x ∧ ∀ H', Same H H' → Q (optI (numOf x)) H'
section
variable {K : PySem.W.Frag}
theorem ok_number_of (F : DefAt K mg "number_of" s_number_of) (T : Txt K mg aGround aWord aInvWord aInvText aInvRow) : DefOk P w K mg base CX0 1 "number_of" ["word"] spNumOf := by
  refine F.ok sc_number_of (fun _ _ _ _ _ _ us hl => match us, hl with | [_], _ => rfl) (fun vs H Q E h => ?_) (fun f cdv A outer s H vs Q E hr h => ?_)
  · obtain ⟨x, rfl, _⟩ := h
    rfl
  · obtain ⟨x, rfl, hz, hok, k⟩ := h
    refine ⟨_, (pss_cons (ps_if (PW.pt (pw_or (pt_not (pt_chain o_le o_le pe_int (pe_callB (c_len K) (by rfl) T.n_len (by decide +kernel) (pa_cons (pv 0) pa_nil)) (pe_gI rfl T.m_MOST_DIGITS))) (pw_or1 (pt_not (pt_tr K (pe_callB (c_all K rfl) (by rfl) T.n_all (by decide +kernel) (pa_cons (pe_lc (own := [("letter", 1)]) (g := (gName 1)) rfl sc_number_of.nd (pi_str (pv 0)) (blkOk_by (own := [("letter", 1)]) (N := ["word", "letter"]) (sc := defScope s_number_of) (by decide +kernel)) (fun _ _ _ _ _ => (pg_name (i := 1) sc_number_of.nd rfl (Or.inl rfl) (Or.inr rfl))) (fun _ _ _ _ _ => pts_nil) (fun _ _ _ _ _ => (pe_cmpR (o_in K) (pv 1) (pe_gS rfl T.m_DIGITS) rfl))) pa_nil))))))) (pss_one (ps_ret pe_non))
  pss_nil)
  (pss_one (ps_ret (pe_ifExp (PW.pt (pw_or (pt_cmpR (o_eq K hr.units) (pv 0) pe_str (nomark _)) (pw_or1 (pt_cmpR (o_ne K hr.units) (pe_ix (ix_u K) (pv 0) pe_int (fun _ _ => rfl)) pe_str (nomark _))))) (pe_callTy c_int (by rfl) T.n_int (by decide +kernel) (pa_cons (pv 0) pa_nil)) pe_non)))), ?_⟩
    tm_at "go"
    have hz2 : x.length ≤ sizeLine := sz hz
    have lenx : x.cps.toList.length = x.length := Array.length_toList
    refine r_lenS hz2 ?_
    tm_at "go"
    have no : (¬ ((1 ≤ x.length ∧ x.length ≤ 6) ∧ digitsL x.cps.toList = true ∧ (x = "0" ∨ x.cps.toList.head? ≠ some 48))) → numOf x = none := fun z => if_neg z
    refine r_id (fun c1 => ?_) (fun c1 => ?_)
    rotate_left
    · tm_at "go"
      have k := k H Same.refl
      rw [no (fun z => by omega)] at k
      exact k
    tm_at "go"
    refine r_nid (fun c2 => ?_) (fun c2 => ?_)
    · tm_at "go"
      have k := k H Same.refl
      rw [no (fun z => by omega)] at k
      exact k
    tm_at "go"
    refine ⟨x, rfl, fun D hD => ?_⟩
    refine lc_it (walk_str (z := x)) (fun i H' => Same H H' ∧ H' D = some (.lst (((x.cps.toList.take i).map fun c => decide (48 ≤ c ∧ c ≤ 57)).map V.bl))) ⟨same_new hD, upd_same⟩ (fun i H' _ p => trivial) ?_ ?_
    · rintro i y H1 H2 hi ⟨sm, hd⟩ ⟨rfl, c, hc, rfl⟩
      tm_at "go"
      refine ⟨rfl, ?_⟩
      tm_at "go"
      refine r_inS ?_
      rw [digits_in]
      refine ⟨_, hd, ?_, Same.updF sm hD, ?_⟩
      · rw [List.length_map, List.length_map]
        exact szlt (Nat.ble_eq_true_of_le (Nat.le_trans (List.length_take_le ..) (by have : x.cps.size = x.length := rfl; omega)))
      · rw [upd_same, take_succ (str_at hc), List.map_append, List.map_append]
        rfl
    rintro H1 ⟨sm, hd⟩
    rw [show x.cps.size = x.cps.toList.length from Array.length_toList.symm, List.take_length] at hd
    tm_at "go"
    refine ⟨D, _, rfl, SqL.of hd, ?_⟩
    have eA : (x.cps.toList.map fun c => decide (48 ≤ c ∧ c ≤ 57)).all id = digitsL x.cps.toList := by
      unfold digitsL
      rw [List.all_map]
      rfl
    rw [eA]
    tm_at "go"
    have k := k H1 sm
    refine r_nb (fun c3 => ?_) (fun c3 => ?_)
    · tm_at "go"
      rw [no (fun z => by rw [z.2.1] at c3; exact nomatch c3)] at k
      exact k
    tm_at "go"
    have x0 : x.cps.toList ≠ [] := fun z => by rw [z] at lenx; simp at lenx; omega
    have yes : (x = "0" ∨ x.cps.toList.head? ≠ some 48) → Q (.int ((PySem.NumText.digitsVal x.cps.toList : Nat) : Int)) H1 := fun h => by
      rw [show numOf x = some (PySem.NumText.digitsVal x.cps.toList) from if_pos ⟨⟨by omega, by omega⟩, c3, h⟩] at k
      exact k
    have rd : (x = "0" ∨ x.cps.toList.head? ≠ some 48) → uInt [.str x] H1 Q := fun h => .inr ⟨x, _, rfl, int_dig c3 (by omega) (by omega), by omega, yes h⟩
    refine r_eq rfl ?_
    rw [decS]
    tm_at "go"
    refine r_id (fun e => ?_) (fun e => ?_)
    · tm_at "go"
      exact rd (.inl e)
    · tm_at "go"
      obtain ⟨c, cs, hcs⟩ := List.exists_cons_of_ne_nil x0
      refine r_ixS hz2 (atI_nat (j := 0) (v := c) (by rw [hcs]; rfl)) ?_
      tm_at "go"
      refine r_ne rfl ?_
      rw [decS, show ("0" : Str) = ⟨#[48]⟩ by decide +kernel, show decide ((⟨#[c]⟩ : Str) = ⟨#[48]⟩) = decide (c = 48) from decide_eq_decide.mpr (sign_eq c 48)]
      tm_at "go"
      refine r_nid (fun e2 => ?_) (fun e2 => ?_)
      · tm_at "go"
        exact rd (.inr (by rw [hcs]; intro z; exact e2 (Option.some.inj z)))
      · tm_at "go"
        rw [no (fun z => z.2.2.elim e (fun q => q (by rw [hcs, e2]; rfl)))] at k
        exact k
end
/-! ### lists of texts; the words of a text -/
abbrev strD (l : List Str) : List PyData := l.map PyData.str
theorem dp_strs {K : PySem.W.Frag} {H : Hp} : ∀ l : List Str, DpAll K H (l.map V.str) (strD l)
  | [] => .nil
  | _ :: l => .cons (.str _) (dp_strs l)
theorem eqv_strs : ∀ l m : List Str, PyData.eqvAll (strD l) (strD m) = decide (l = m)
  | [], [] => rfl
  | [], _ :: _ => rfl
  | _ :: _, [] => rfl
  | a :: l, b :: m => by
    have ih := eqv_strs l m
    show ((a == b) && PyData.eqvAll (strD l) (strD m)) = _
    rw [ih, Bool.eq_iff_iff, Bool.and_eq_true, beq_iff_eq, decide_eq_true_eq, decide_eq_true_eq, List.cons.injEq]
theorem eqv_strL (l m : List Str) : PyData.eqv (.list (strD l)) (.list (strD m)) = decide (l = m) := eqv_strs l m
theorem shp_strs {l : List Str} (ok : ∀ w ∈ l, cpsOk w) : SeqAt.shaped (.list (strD l)) = true := by
  have e1 : PyData.canLayAll0 (strD l) = true := by
    induction l with
    | nil => rfl
    | cons w l ih =>
      show (PyData.strOk w && PyData.canLayAll0 (strD l)) = true
      rw [ih fun c hc => ok c (List.mem_cons_of_mem _ hc), Bool.and_true]
      have := ok w (List.mem_cons_self ..)
      unfold PyData.strOk
      rw [← Array.all_toList, List.all_eq_true]
      intro c hc
      exact decide_eq_true (this c hc)
  have e2 : ∀ l : List Str, PyData.depthAll (strD l) = 0 := fun l => by
    induction l with
    | nil => rfl
    | cons n l ih =>
      show max 0 (PyData.depthAll (strD l)) = 0
      rw [ih]; rfl
  unfold SeqAt.shaped
  simp only [PyData.canLay0, PyData.depth, e1, e2]
  decide
theorem flat_strs : ∀ l : List Str, (l.map V.str).all flatV = true
  | [] => rfl
  | n :: l => by
    have := flat_strs l
    show (true && (l.map V.str).all flatV) = true
    rw [this]; rfl
theorem inV_str (r : Str) : ∀ l : List Str, inV (.str r) (l.map V.str) = l.contains r
  | [] => rfl
  | n :: l => by
    have ih := inV_str r l
    show (eqV (.str n) (.str r) || inV (.str r) (l.map V.str)) = _
    rw [ih, List.contains_cons]
    congr 1
    show (n == r) = (r == n)
    rw [Bool.eq_iff_iff, beq_iff_eq, beq_iff_eq]
    exact eq_comm
theorem spl_sub : ∀ (l acc p : List Nat), p ∈ TL.spl [32] 0 acc l → p.length ≤ acc.length + l.length ∧ ∀ c ∈ p, c ∈ acc ∨ c ∈ l
  | [], acc, p, h => by
    rw [TL.spl_nil] at h
    rw [List.mem_singleton.mp h]
    exact ⟨Nat.le_refl _, fun c hc => .inl hc⟩
  | c :: l, acc, p, h => by
    by_cases e : TL.pre [32] (c :: l) = true
    · rw [TL.spl_hit e] at h
      rcases List.mem_cons.mp h with h | h
      · rw [h]
        exact ⟨Nat.le_add_right _ _, fun c hc => .inl hc⟩
      · have z := spl_sub l [] p h
        refine ⟨Nat.le_trans z.1 (by simp; omega), fun d hd => ?_⟩
        rcases z.2 d hd with q | q
        · exact nomatch q
        · exact .inr (List.mem_cons_of_mem _ q)
    · rw [TL.spl_miss (Bool.eq_false_iff.mpr e)] at h
      have z := spl_sub l (acc ++ [c]) p h
      refine ⟨Nat.le_trans z.1 (by simp; omega), fun d hd => ?_⟩
      rcases z.2 d hd with q | q
      · rcases List.mem_append.mp q with q | q
        · exact .inl q
        · rw [List.mem_singleton.mp q]
          exact .inr (List.mem_cons_self ..)
      · exact .inr (List.mem_cons_of_mem _ q)
theorem spl_len : ∀ (l acc : List Nat), (TL.spl [32] 0 acc l).length ≤ l.length + 1
  | [], acc => by rw [TL.spl_nil]; exact Nat.le_refl _
  | c :: l, acc => by
    by_cases e : TL.pre [32] (c :: l) = true
    · rw [TL.spl_hit e, List.length_cons, List.length_cons]
      exact Nat.succ_le_succ (spl_len l [])
    · rw [TL.spl_miss (Bool.eq_false_iff.mpr e), List.length_cons]
      exact Nat.le_succ_of_le (spl_len l _)
theorem split_map (x : Str) : (Txt.split x " ").map TL.tl = TL.spl [32] 0 [] (TL.tl x) := by
  have e : TL.tl (" " : Str) = [32] := by decide +kernel
  have z := TL.split_spl x " " (by rw [e]; exact fun z => nomatch z) (TL.kind_ok (by decide +kernel))
  rw [e] at z
  exact z
theorem split_ok {x w : Str} (h : w ∈ Txt.split x " ") : w.length ≤ x.length ∧ (cpsOk x → cpsOk w) := by
  have m : TL.tl w ∈ TL.spl [32] 0 [] (TL.tl x) := by rw [← split_map]; exact List.mem_map.mpr ⟨w, h, rfl⟩
  have z := spl_sub _ _ _ m
  rw [TL.len_tl, TL.len_tl]
  refine ⟨by simpa using z.1, fun ok c hc => ?_⟩
  rcases z.2 c hc with q | q
  · exact nomatch q
  · exact ok c q
theorem split_len (x : Str) : (Txt.split x " ").length ≤ x.length + 1 := by
  have z := spl_len (TL.tl x) []
  rw [← split_map, List.length_map, ← TL.len_tl] at z
  exact z
/-! ### the law's own number; slots -/
def slotOf (x : Str) : Option Nat := match numOf x with | some n => if n ≤ 2 then some n else none | none => none
def spSlotOf : Sp := fun vs H Q _ => ∃ x : Str, vs = [.str x] ∧ x.length ≤ 100000 ∧ cpsOk x ∧ ∀ H', Same H H' → Q (optI (slotOf x)) H'
theorem dp_signs {K : PySem.W.Frag} {H : Hp} : ∀ l : List Nat, DpAll K H (l.map fun c => V.str ⟨#[c]⟩) (l.map fun c => PyData.str ⟨#[c]⟩)
  | [] => .nil
  | n :: l => .cons (.str _) (dp_signs l)
theorem eqv_signs (l : List Nat) : PyData.eqv (.list (l.map fun c => PyData.str ⟨#[c]⟩)) (.list []) = l.isEmpty := by cases l <;> rfl
theorem shp_signs {l : List Nat} (ok : ∀ c ∈ l, c < 1114112) : SeqAt.shaped (.list (l.map fun c => PyData.str ⟨#[c]⟩)) = true := by
  have e1 : PyData.canLayAll0 (l.map fun c => PyData.str ⟨#[c]⟩) = true := by
    induction l with
    | nil => rfl
    | cons n l ih =>
      show (PyData.strOk ⟨#[n]⟩ && PyData.canLayAll0 (l.map fun c => PyData.str ⟨#[c]⟩)) = true
      rw [ih fun c hc => ok c (List.mem_cons_of_mem _ hc), Bool.and_true]
      have := ok n (List.mem_cons_self ..)
      simp [PyData.strOk]
      omega
  have e2 : ∀ l : List Nat, PyData.depthAll (l.map fun c => PyData.str ⟨#[c]⟩) = 0 := fun l => by
    induction l with
    | nil => rfl
    | cons n l ih =>
      show max 0 (PyData.depthAll (l.map fun c => PyData.str ⟨#[c]⟩)) = 0
      rw [ih]; rfl
  unfold SeqAt.shaped
  simp only [PyData.canLay0, PyData.depth, e1, e2]
  decide
section
variable {K : PySem.W.Frag}
theorem ok_slot_of (F : DefAt K mg "slot_of" s_slot_of) (T : Txt K mg aGround aWord aInvWord aInvText aInvRow) (D_number_of : DefOk P w K mg base CX0 1 "number_of" ["word"] spNumOf) : DefOk P w K mg base CX0 2 "slot_of" ["word"] spSlotOf := by
  refine F.ok sc_slot_of (fun _ _ _ _ _ _ us hl => match us, hl with | [_], _ => rfl) (fun vs H Q E h => ?_) (fun f cdv A outer s H vs Q E hr h => ?_)
  · obtain ⟨x, rfl, _⟩ := h
    rfl
  · obtain ⟨x, rfl, hz, hok, k⟩ := h
    refine ⟨_, (pss_cons (ps_set (i := 1) sc_slot_of.nd rfl (Or.inl rfl) (pe_callD D_number_of (hr.mono (by decide)) pass0 rfl (pa_cons (pv 0) pa_nil)))
  (pss_one (ps_ret (pe_ifExp (PW.pt (pw_and (pt_cmpR o_isNot (pv 1) pe_non (nomark _)) (pw_and1 (pt_cmpR o_le (pv 1) (pe_gI rfl T.m_LAST_SLOT) (nomark _))))) (pv 1) pe_non)))), ?_⟩
    tm_at "go"
    refine ⟨x, rfl, hz, hok, fun H1 sm => ?_⟩
    have k := k H1 sm
    cases h : numOf x with
    | none =>
      rw [show slotOf x = none by unfold slotOf; rw [h]] at k
      rw [show optI none = V.non from rfl]
      tm_at "go"
      exact k
    | some n =>
      rw [show slotOf x = if n ≤ 2 then some n else none by unfold slotOf; rw [h]] at k
      rw [show optI (some n) = V.int (n : Int) from rfl]
      tm_at "go"
      refine r_nid (fun _ => ?_) (fun z => nomatch z)
      tm_at "go"
      rw [show decide ((n : Int) ≤ 2) = decide (n ≤ 2) from decide_eq_decide.mpr (by omega)]
      refine r_id (fun c => ?_) (fun c => ?_)
      · rw [if_pos c] at k
        tm_at "go"
        exact k
      · rw [if_neg c] at k
        tm_at "go"
        exact k
theorem ok_law_number_of (F : DefAt K mg "_law_number_of" s_law_number_of) (T : Txt K mg aGround aWord aInvWord aInvText aInvRow) : DefOk P w K mg base CX0 1 "_law_number_of" ["_law_word"] spNumOf := by
  refine F.ok sc_law_number_of (fun _ _ _ _ _ _ us hl => match us, hl with | [_], _ => rfl) (fun vs H Q E h => ?_) (fun f cdv A outer s H vs Q E hr h => ?_)
  · obtain ⟨x, rfl, _⟩ := h
    rfl
  · obtain ⟨x, rfl, hz, hok, k⟩ := h
    refine ⟨_, (pss_cons (ps_if (PW.pt (pw_or (pt_not (pt_chain o_le o_le pe_int (pe_callB (c_len K) (by rfl) T.n_len (by decide +kernel) (pa_cons (pv 0) pa_nil)) pe_int)) (pw_or1 (pt_cmpR (o_ne K hr.units) (pe_lc (own := [("_law_letter", 1)]) (g := (gName 1)) rfl sc_law_number_of.nd (pi_str (pv 0)) (blkOk_by (own := [("_law_letter", 1)]) (N := ["_law_word", "_law_letter"]) (sc := defScope s_law_number_of) (by decide +kernel)) (fun _ _ _ _ _ => (pg_name (i := 1) sc_law_number_of.nd rfl (Or.inl rfl) (Or.inr rfl))) (fun _ _ _ _ _ => (pts_one (pt_cmpR (o_notIn K) (pv 1) pe_str rfl))) (fun _ _ _ _ _ => (pv 1))) (pe_lst pa_nil) (nomark _))))) (pss_one (ps_ret pe_non))
  pss_nil)
  (pss_one (ps_ret (pe_ifExp (PW.pt (pw_or (pt_cmpR (o_eq K hr.units) (pv 0) pe_str (nomark _)) (pw_or1 (pt_cmpR (o_ne K hr.units) (pe_ix (ix_u K) (pv 0) pe_int (fun _ _ => rfl)) pe_str (nomark _))))) (pe_callTy c_int (by rfl) T.n_int (by decide +kernel) (pa_cons (pv 0) pa_nil)) pe_non)))), ?_⟩
    have hz2 : x.length ≤ sizeLine := sz hz
    have lenx : x.cps.toList.length = x.length := Array.length_toList
    tm_at "go"
    refine r_lenS hz2 ?_
    tm_at "go"
    have no : (¬ ((1 ≤ x.length ∧ x.length ≤ 6) ∧ digitsL x.cps.toList = true ∧ (x = "0" ∨ x.cps.toList.head? ≠ some 48))) → numOf x = none := fun z => if_neg z
    refine r_id (fun c1 => ?_) (fun c1 => ?_)
    rotate_left
    · tm_at "go"
      have k := k H Same.refl
      rw [no (fun z => by omega)] at k
      exact k
    tm_at "go"
    refine r_nid (fun c2 => ?_) (fun c2 => ?_)
    · tm_at "go"
      have k := k H Same.refl
      rw [no (fun z => by omega)] at k
      exact k
    tm_at "go"
    refine ⟨x, rfl, fun D hD => ?_⟩
    refine lc_it (walk_str (z := x)) (fun i H' => Same H H' ∧ H' D = some (.lst (((x.cps.toList.take i).filter fun c => !decide (48 ≤ c ∧ c ≤ 57)).map fun c => V.str ⟨#[c]⟩))) ⟨same_new hD, upd_same⟩ (fun i H' _ p => trivial) ?_ ?_
    · rintro i y H1 H2 hi ⟨sm, hd⟩ ⟨rfl, c, hc, rfl⟩
      tm_at "go"
      refine ⟨rfl, ?_⟩
      tm_at "go"
      refine r_ninS ?_
      rw [digits_in]
      tm_at "go"
      refine r_nid (fun cc => ?_) (fun cc => ?_)
      · tm_at "go"
        refine ⟨_, hd, ?_, Same.updF sm hD, ?_⟩
        · rw [List.length_map]
          exact szlt (Nat.ble_eq_true_of_le (Nat.le_trans (List.length_filter_le ..) (Nat.le_trans (List.length_take_le ..) (by have : x.cps.size = x.length := rfl; omega))))
        · rw [upd_same, take_succ (str_at hc), List.filter_append, List.map_append]
          simp only [List.filter, decide_eq_false cc, Bool.not_false, List.map_cons, List.map_nil]
      · refine ⟨sm, ?_⟩
        rw [take_succ (str_at hc), List.filter_append]
        simp only [List.filter, decide_eq_true cc, Bool.not_true, List.append_nil]
        exact hd
    rintro H1 ⟨sm, hd⟩
    rw [show x.cps.size = x.cps.toList.length from Array.length_toList.symm, List.take_length] at hd
    have nD : H1 D ≠ Option.none := by rw [hd]; exact fun z => nomatch z
    tm_at "go"
    refine ⟨szl rfl, fun q hq => ?_⟩
    tm_at "go"
    have hd2 : (upd H1 q (.lst [])) D = _ := at_upd (ne_of_none hd hq) hd
    refine r_neD (d := .list (((x.cps.toList.filter fun c => !decide (48 ≤ c ∧ c ≤ 57)).map fun c => PyData.str ⟨#[c]⟩))) (e := .list []) (.lst (SqL.of hd2) (dp_signs _)) (.lst (SqL.of upd_same) .nil) (shp_signs fun c hc => hok c (List.mem_filter.mp hc).1) (by decide +kernel) ?_
    rw [eqv_signs]
    have eA : (!((x.cps.toList.filter fun c => !decide (48 ≤ c ∧ c ≤ 57)).isEmpty)) = !digitsL x.cps.toList := by
      unfold digitsL
      congr 1
      rw [Bool.eq_iff_iff, List.isEmpty_iff, List.filter_eq_nil_iff, List.all_eq_true]
      refine forall_congr' fun c => forall_congr' fun _ => ?_
      simp
    rw [eA]
    have k := k _ (Same.new (o := .lst []) sm hq)
    generalize upd H1 q (.lst []) = H2 at k ⊢
    tm_at "go"
    refine r_nb (fun c3 => ?_) (fun c3 => ?_)
    · tm_at "go"
      rw [no (fun z => by rw [z.2.1] at c3; exact nomatch c3)] at k
      exact k
    tm_at "go"
    have x0 : x.cps.toList ≠ [] := fun z => by rw [z] at lenx; simp at lenx; omega
    have yes : (x = "0" ∨ x.cps.toList.head? ≠ some 48) → Q (.int ((PySem.NumText.digitsVal x.cps.toList : Nat) : Int)) H2 := fun h => by
      rw [show numOf x = some (PySem.NumText.digitsVal x.cps.toList) from if_pos ⟨⟨by omega, by omega⟩, c3, h⟩] at k
      exact k
    have rd : (x = "0" ∨ x.cps.toList.head? ≠ some 48) → uInt [.str x] H2 Q := fun h => .inr ⟨x, _, rfl, int_dig c3 (by omega) (by omega), by omega, yes h⟩
    refine r_eq rfl ?_
    rw [decS]
    tm_at "go"
    refine r_id (fun e => ?_) (fun e => ?_)
    · tm_at "go"
      exact rd (.inl e)
    · tm_at "go"
      obtain ⟨c, cs, hcs⟩ := List.exists_cons_of_ne_nil x0
      refine r_ixS hz2 (atI_nat (j := 0) (v := c) (by rw [hcs]; rfl)) ?_
      tm_at "go"
      refine r_ne rfl ?_
      rw [decS, show ("0" : Str) = ⟨#[48]⟩ by decide +kernel, show decide ((⟨#[c]⟩ : Str) = ⟨#[48]⟩) = decide (c = 48) from decide_eq_decide.mpr (sign_eq c 48)]
      tm_at "go"
      refine r_nid (fun e2 => ?_) (fun e2 => ?_)
      · tm_at "go"
        exact rd (.inr (by rw [hcs]; intro z; exact e2 (Option.some.inj z)))
      · tm_at "go"
        rw [no (fun z => z.2.2.elim e (fun q => q (by rw [hcs, e2]; rfl)))] at k
        exact k
end
/-! ### what a text of a word tells -/
theorem dv_ge : ∀ (l : List Nat) (a : Nat), a ≤ l.foldl (fun acc c => acc * 10 + (c - 48)) a
  | [], a => Nat.le_refl _
  | c :: l, a => Nat.le_trans (by omega) (dv_ge l (a * 10 + (c - 48)))
theorem dv_ten {c d : Nat} {l : List Nat} (h : 49 ≤ c) : 10 ≤ PySem.NumText.digitsVal (c :: d :: l) := by
  unfold PySem.NumText.digitsVal
  simp only [List.foldl_cons]
  exact Nat.le_trans (by omega) (dv_ge l _)
theorem str_list {x y : Str} (h : x.cps.toList = y.cps.toList) : x = y := TL.ext_tl h
theorem slot_w {w : Str} {n : Nat} (h : slotOf w = some n) : (w = "0" ∧ n = 0) ∨ (w = "1" ∧ n = 1) ∨ (w = "2" ∧ n = 2) := by
  unfold slotOf at h
  cases e : numOf w with
  | none => rw [e] at h; exact nomatch h
  | some m =>
    rw [e] at h
    have h : (if m ≤ 2 then some m else none) = some n := h
    by_cases c2 : m ≤ 2
    · rw [if_pos c2] at h
      obtain rfl := Option.some.inj h
      unfold numOf at e
      split at e
      · rename_i g
        obtain ⟨⟨l1, l6⟩, dg, z⟩ := g
        have e := Option.some.inj e
        have hlen : w.cps.toList.length = w.length := Array.length_toList
        have e0 : ("0" : Str).cps.toList = [48] := by decide +kernel
        have e1 : ("1" : Str).cps.toList = [49] := by decide +kernel
        have e2 : ("2" : Str).cps.toList = [50] := by decide +kernel
        have ad := all_dig dg
        cases hl : w.cps.toList with
        | nil => rw [hl] at hlen; simp at hlen; omega
        | cons c cs =>
          rw [hl] at e ad
          have hc := ad c (List.mem_cons_self ..)
          cases cs with
          | nil =>
            have e : 0 * 10 + (c - 48) = m := e
            have : c = 48 ∨ c = 49 ∨ c = 50 := by omega
            rcases this with rfl | rfl | rfl
            · exact .inl ⟨str_list (hl.trans e0.symm), by omega⟩
            · exact .inr (.inl ⟨str_list (hl.trans e1.symm), by omega⟩)
            · exact .inr (.inr ⟨str_list (hl.trans e2.symm), by omega⟩)
          | cons d ds =>
            rcases z with z | z
            · rw [z, e0] at hl
              exact nomatch hl
            · rw [hl] at z
              have : c ≠ 48 := fun q => z (by rw [q]; rfl)
              have := dv_ten (d := d) (l := ds) (show 49 ≤ c by omega)
              omega
      · exact nomatch e
    · rw [if_neg c2] at h; exact nomatch h
theorem slot0 : slotOf "0" = some 0 := by decide +kernel
theorem slot1 : slotOf "1" = some 1 := by decide +kernel
theorem slot2 : slotOf "2" = some 2 := by decide +kernel
theorem slot_none : slotOf "none" = none := by decide +kernel
def innerOf (ws : List Str) : List Str := (ws.drop 1).take (ws.length - 3)
def readT (n : Nat) (k : Option Nat) : List Str → Option (Nat × Option (Nat × Nat) × Option Nat)
  | [a, b, c] => if a = "from" then (slotOf b).bind fun s => (numOf c).bind fun g => some (n, some (s, g), k) else none
  | _ => none
/-- number, slot and ground, keep -/
def readW (ws : List Str) : Option (Nat × Option (Nat × Nat) × Option Nat) :=
  if ws.length < 4 ∨ ws[ws.length - 2]? ≠ some "keep" then none
  else (numOf (ws.getD 0 "")).bind fun n =>
    (if ws.getD (ws.length - 1) "" = "none" then some none else (slotOf (ws.getD (ws.length - 1) "")).map some).bind fun k =>
      if innerOf ws = [("whole" : Str)] then some (n, none, k) else readT n k (innerOf ws)
theorem cut_inner {ws : List Str} (h : 4 ≤ ws.length) : cutV (ws.map V.str) (some 1) (some (-2)) = (innerOf ws).map V.str := by
  have s1 : HT.sIx ws.length 0 (some 1) = 1 := by
    show (if (1 : Int) < 0 then ((1 : Int) + (ws.length : Int)).toNat else min (1 : Int).toNat ws.length) = 1
    rw [if_neg (by decide)]
    show min 1 ws.length = 1
    omega
  have s2 : HT.sIx ws.length ws.length (some (-2)) = ws.length - 2 := by
    show (if (-2 : Int) < 0 then ((-2 : Int) + (ws.length : Int)).toNat else min (-2 : Int).toNat ws.length) = _
    rw [if_pos (by decide)]
    omega
  unfold cutV innerOf
  rw [List.length_map, s1, s2, List.map_take, List.map_drop]
  rfl
theorem atI_neg {xs : List V} {j k : Nat} {v : V} (hk : 1 ≤ k) (hj : j + k = xs.length) (h : xs[j]? = some v) : atI xs (-(k : Int)) = some v := by
  unfold atI ixN
  rw [if_neg (by omega), if_pos (by omega), show (-(k : Int) + (xs.length : Int)).toNat = j by omega]
  exact h
def keepW (w : Str) : Option (Option Nat) := if w = "none" then some none else (slotOf w).map some
theorem keep_in {w : Str} : (keepW w).isSome = (["none", "0", "1", "2"] : List Str).contains w := by
  unfold keepW
  by_cases h : w = "none"
  · rw [if_pos h, h]; rfl
  · rw [if_neg h]
    cases e : slotOf w with
    | some n =>
      rcases slot_w e with ⟨rfl, _⟩ | ⟨rfl, _⟩ | ⟨rfl, _⟩ <;> rfl
    | none =>
      symm
      refine Bool.eq_false_iff.mpr fun z => ?_
      have z := List.contains_iff_mem.mp z
      simp only [List.mem_cons, List.not_mem_nil, or_false] at z
      rcases z with z | z | z | z
      · exact h z
      · rw [z, slot0] at e; exact nomatch e
      · rw [z, slot1] at e; exact nomatch e
      · rw [z, slot2] at e; exact nomatch e
theorem slot_in {w : Str} : (slotOf w).isSome = (["0", "1", "2"] : List Str).contains w := by
  cases e : slotOf w with
  | some n => rcases slot_w e with ⟨rfl, _⟩ | ⟨rfl, _⟩ | ⟨rfl, _⟩ <;> rfl
  | none =>
    symm
    refine Bool.eq_false_iff.mpr fun z => ?_
    have z := List.contains_iff_mem.mp z
    simp only [List.mem_cons, List.not_mem_nil, or_false] at z
    rcases z with z | z | z
    · rw [z, slot0] at e; exact nomatch e
    · rw [z, slot1] at e; exact nomatch e
    · rw [z, slot2] at e; exact nomatch e
theorem inner_mem {ws : List Str} {w : Str} (h : w ∈ innerOf ws) : w ∈ ws := List.mem_of_mem_drop (List.mem_of_mem_take h)
theorem readT_no {n : Nat} {k : Option Nat} {l : List Str} (h : l.length ≠ 3) : readT n k l = none := by
  match l, h with
  | [], _ => rfl
  | [_], _ => rfl
  | [_, _], _ => rfl
  | [_, _, _], h => exact absurd rfl h
  | _ :: _ :: _ :: _ :: _, _ => rfl
theorem int_slot {w : Str} {n : Nat} (h : slotOf w = some n) : PySem.intText? w = some (n : Int) ∧ w.length ≤ 640 := by
  rcases slot_w h with ⟨rfl, rfl⟩ | ⟨rfl, rfl⟩ | ⟨rfl, rfl⟩ <;> exact ⟨by decide +kernel, by decide +kernel⟩
theorem readW_eq {ws : List Str} {w0 w1 : Str} (h4 : ¬ ws.length < 4) (h2 : ws[ws.length - 2]? = some "keep") (e0 : ws.getD 0 "" = w0) (e1 : ws.getD (ws.length - 1) "" = w1) :
    readW ws = (numOf w0).bind fun n => (keepW w1).bind fun k => if innerOf ws = [("whole" : Str)] then some (n, none, k) else readT n k (innerOf ws) := by
  unfold readW keepW
  rw [if_neg (by rw [h2]; intro z; rcases z with z | z; exact h4 z; exact z rfl), e0, e1]
theorem dec_int' (a b : Int) : decide (V.int a = V.int b) = decide (a = b) := decide_eq_decide.mpr ⟨fun h => V.int.inj h, fun h => by rw [h]⟩
def spReadP (K : PySem.W.Frag) : Sp := fun vs H Q _ => ∃ x : Str, vs = [.str x] ∧ x.length ≤ 90000 ∧ cpsOk x ∧
  (readW (Txt.split x " ") = none → ∀ H', Same H H' → Q .non H') ∧
  (∀ n b k, readW (Txt.split x " ") = some (n, b, k) → ∀ (t : Addr) (H' : Hp), Same H H' → H' t = some (.tup [.int ((n : Nat) : Int), optI (b.map (·.1)), optI (b.map (·.2)), optI k]) → Q (.ref t) H')
section
variable {K : PySem.W.Frag}
theorem ok_read_parts (F : DefAt K mg "_law_read_parts" s_law_read_parts) (T : Txt K mg aGround aWord aInvWord aInvText aInvRow) (D_law_number_of : DefOk P w K mg base CX0 1 "_law_number_of" ["_law_word"] spNumOf) : DefOk P w K mg base CX0 2 "_law_read_parts" ["_law_line_here"] (spReadP K) := by
  refine F.ok sc_law_read_parts (fun _ _ _ _ _ _ us hl => match us, hl with | [_], _ => rfl) (fun vs H Q E h => ?_) (fun f cdv A outer s H vs Q E hr h => ?_)
  · obtain ⟨x, rfl, _⟩ := h
    rfl
  · obtain ⟨x, rfl, hz, hok, kN, kY⟩ := h
    refine ⟨_, (pss_cons (ps_set (i := 1) sc_law_read_parts.nd rfl (Or.inl rfl) (pe_splitK (pv 0) pe_str))
  (pss_cons (ps_if (PW.pt (pw_or (pt_cmpR o_lt (pe_callB (c_len K) (by rfl) T.n_len (by decide +kernel) (pa_cons (pv 1) pa_nil)) pe_int (nomark _)) (pw_or (pt_cmpR (o_ne K hr.units) (pe_ix (ix_u K) (pv 1) (pe_un un_neg pe_int) (fun _ _ => rfl)) pe_str (nomark _)) (pw_or1 (pt_cmpR (o_notIn K) (pe_ix (ix_u K) (pv 1) (pe_un un_neg pe_int) (fun _ _ => rfl)) (pe_tup (pa_cons pe_str (pa_cons pe_str (pa_cons pe_str (pa_cons pe_str pa_nil))))) rfl))))) (pss_one (ps_ret pe_non))
  pss_nil)
  (pss_cons (ps_set (i := 2) sc_law_read_parts.nd rfl (Or.inl rfl) (pe_cut (pe_ifExp (pt_cmpR (o_eq K hr.units) (pe_ix (ix_u K) (pv 1) (pe_un un_neg pe_int) (fun _ _ => rfl)) pe_str (nomark _)) pe_non (pe_callTy c_int (by rfl) T.n_int (by decide +kernel) (pa_cons (pe_ix (ix_u K) (pv 1) (pe_un un_neg pe_int) (fun _ _ => rfl)) pa_nil)))))
  (pss_cons (ps_par (i := 4) (j := 5) (by rfl) sc_law_read_parts.nd rfl rfl (by decide) rfl rfl (pa_cons (pe_callD D_law_number_of (hr.mono (by decide)) pass0 rfl (pa_cons (pe_ix (ix_u K) (pv 1) pe_int (fun _ _ => rfl)) pa_nil)) (pa_cons (pe_slice (slL K) (pv 1) (po_some pe_int) (po_some (pe_un un_neg pe_int))) pa_nil)) (by rfl))
  (pss_cons (ps_if (pt_cmpR o_is (pv 4) pe_non (nomark _)) (pss_one (ps_ret pe_non))
  pss_nil)
  (pss_cons (ps_if (pt_cmpR (o_eq K hr.units) (pv 5) (pe_lst (pa_cons pe_str pa_nil)) (nomark _)) (pss_one (ps_ret (pe_tup (pa_cons (pv 4) (pa_cons pe_non (pa_cons pe_non (pa_cons (pv 2) pa_nil)))))))
  pss_nil)
  (pss_cons (ps_if (PW.pt (pw_or (pt_cmpR (o_ne K hr.units) (pe_callB (c_len K) (by rfl) T.n_len (by decide +kernel) (pa_cons (pv 5) pa_nil)) pe_int (nomark _)) (pw_or (pt_cmpR (o_ne K hr.units) (pe_ix (ix_u K) (pv 5) pe_int (fun _ _ => rfl)) pe_str (nomark _)) (pw_or1 (pt_cmpR (o_notIn K) (pe_ix (ix_u K) (pv 5) pe_int (fun _ _ => rfl)) (pe_tup (pa_cons pe_str (pa_cons pe_str (pa_cons pe_str pa_nil)))) rfl))))) (pss_one (ps_ret pe_non))
  pss_nil)
  (pss_cons (ps_set (i := 3) sc_law_read_parts.nd rfl (Or.inl rfl) (pe_callD D_law_number_of (hr.mono (by decide)) pass0 rfl (pa_cons (pe_ix (ix_u K) (pv 5) pe_int (fun _ _ => rfl)) pa_nil)))
  (pss_one (ps_ret (pe_ifExp (pt_cmpR o_is (pv 3) pe_non (nomark _)) pe_non (pe_tup (pa_cons (pv 4) (pa_cons (pe_callTy c_int (by rfl) T.n_int (by decide +kernel) (pa_cons (pe_ix (ix_u K) (pv 5) pe_int (fun _ _ => rfl)) pa_nil)) (pa_cons (pv 3) (pa_cons (pv 2) pa_nil)))))))))))))))), ?_⟩
    tm_at "go"
    refine ⟨x, " ", rfl, rfl, by decide +kernel, sz (by omega), fun p hp => ?_⟩
    have wl := split_len x
    have wok : ∀ w ∈ Txt.split x " ", w.length ≤ 90000 ∧ cpsOk w := fun w hw => ⟨Nat.le_trans (split_ok hw).1 hz, (split_ok hw).2 hok⟩
    have sm1 : Same H (upd H p (.lst ((Txt.split x " ").map V.str))) := same_new hp
    have hw1 : (upd H p (.lst ((Txt.split x " ").map V.str))) p = some (.lst ((Txt.split x " ").map V.str)) := upd_same
    generalize Txt.split x " " = ws at wl wok sm1 hw1 kN kY ⊢
    generalize upd H p (.lst (ws.map V.str)) = H1 at sm1 hw1 ⊢
    tm_at "go"
    rw [List.length_map, show decide ((ws.length : Int) < 4) = decide (ws.length < 4) from decide_eq_decide.mpr (by omega)]
    refine r_id (fun c1 => ?_) (fun c1 => ?_)
    · tm_at "go"
      exact kN (if_pos (.inl c1)) _ sm1
    have hj2 : ws[ws.length - 2]? = some (ws[ws.length - 2]'(by omega)) := List.getElem?_eq_getElem _
    generalize (ws[ws.length - 2]'(by omega)) = w2 at hj2
    have hj1 : ws[ws.length - 1]? = some (ws[ws.length - 1]'(by omega)) := List.getElem?_eq_getElem _
    generalize (ws[ws.length - 1]'(by omega)) = w1 at hj1
    have hj0 : ws[0]? = some (ws[0]'(by omega)) := List.getElem?_eq_getElem _
    generalize (ws[0]'(by omega)) = w0 at hj0
    have lw : (ws.map V.str).length = ws.length := List.length_map ..
    have at2 : atI (ws.map V.str) (-2) = some (.str w2) := atI_neg (k := 2) (j := ws.length - 2) (by decide) (by omega) (by rw [List.getElem?_map, hj2]; rfl)
    have at1 : atI (ws.map V.str) (-1) = some (.str w1) := atI_neg (k := 1) (j := ws.length - 1) (by decide) (by omega) (by rw [List.getElem?_map, hj1]; rfl)
    tm_at "go"
    refine r_ixL (SqL.of hw1) at2 ?_
    tm_at "go"
    refine r_ne rfl ?_
    rw [decS]
    tm_at "go"
    refine r_nid (fun c2 => ?_) (fun c2 => ?_)
    · tm_at "go"
      exact kN (if_pos (.inr (by rw [hj2]; exact fun z => c2 (Option.some.inj z)))) _ sm1
    rw [c2] at hj2
    have rW := readW_eq (w0 := w0) (w1 := w1) c1 hj2 (by rw [List.getD_eq_getElem?_getD, hj0]; rfl) (by rw [List.getD_eq_getElem?_getD, hj1]; rfl)
    rw [rW] at kN kY
    tm_at "go"
    refine r_ixL (SqL.of hw1) at1 ?_
    tm_at "go"
    refine ⟨szl rfl, fun q hq => ?_⟩
    have sm2 := Same.new (o := .tup ((["none", "0", "1", "2"] : List Str).map V.str)) sm1 hq
    have hw2 : (upd H1 q (.tup ((["none", "0", "1", "2"] : List Str).map V.str))) p = some (.lst (ws.map V.str)) := at_upd (ne_of_none hw1 hq) hw1
    refine r_ninQ (xs := (["none", "0", "1", "2"] : List Str).map V.str) (.inr (SqT.of upd_same)) rfl (flat_strs _) ?_
    rw [inV_str, ← keep_in]
    have sm2 : Same H (upd H1 q (.tup [V.str "none", .str "0", .str "1", .str "2"])) := sm2
    have hw2 : (upd H1 q (.tup [V.str "none", .str "0", .str "1", .str "2"])) p = some (.lst (ws.map V.str)) := hw2
    generalize upd H1 q (.tup [V.str "none", .str "0", .str "1", .str "2"]) = H2 at sm2 hw2 ⊢
    clear hq hw1 sm1
    tm_at "go"
    refine r_nb (fun c3 => ?_) (fun c3 => ?_)
    · tm_at "go"
      refine kN ?_ _ sm2
      cases ek : keepW w1 with
      | some k => rw [ek] at c3; exact nomatch c3
      | none => cases numOf w0 <;> rfl
    obtain ⟨k, ek⟩ := Option.isSome_iff_exists.mp c3
    tm_at "go"
    refine r_cutE (fun v H' => v = optI k ∧ H' = H2) ?_ ?_
    · tm_at "go"
      refine r_ixL (SqL.of hw2) at1 ?_
      tm_at "go"
      refine r_eq rfl ?_
      rw [decS]
      tm_at "go"
      unfold keepW at ek
      refine r_id (fun c4 => ?_) (fun c4 => ?_)
      · rw [if_pos c4] at ek
        obtain rfl := Option.some.inj ek
        tm_at "go"
        exact ⟨rfl, rfl⟩
      · rw [if_neg c4] at ek
        obtain ⟨n, en, e⟩ := Option.map_eq_some_iff.mp ek
        subst e
        tm_at "go"
        refine r_ixL (SqL.of hw2) at1 ?_
        tm_at "go"
        exact .inr ⟨w1, _, rfl, (int_slot en).1, (int_slot en).2, rfl, rfl⟩
    rintro v H3 ⟨rfl, rfl⟩
    tm_at "go"
    refine r_ixL (SqL.of hw2) (atI_nat (j := 0) (v := .str w0) (by rw [List.getElem?_map, hj0]; rfl)) ?_
    tm_at "go"
    refine ⟨w0, rfl, Nat.le_trans (wok w0 (List.mem_of_getElem? hj0)).1 (by decide), (wok w0 (List.mem_of_getElem? hj0)).2, fun H4 sm4 => ?_⟩
    tm_at "go"
    refine r_slL (SqL.of (sm4 _ _ hw2)) fun q hq => ?_
    rw [cut_inner (by omega)]
    have sm5 := Same.new (o := .lst ((innerOf ws).map V.str)) (sm2.trans sm4) hq
    have hi : (upd H4 q (.lst ((innerOf ws).map V.str))) q = some (.lst ((innerOf ws).map V.str)) := upd_same
    generalize upd H4 q (.lst ((innerOf ws).map V.str)) = H5 at sm5 hi ⊢
    clear hq sm4 hw2 sm2
    have iok : ∀ w ∈ innerOf ws, w.length ≤ 90000 ∧ cpsOk w := fun w hw => wok w (inner_mem hw)
    tm_at "go"
    cases en : numOf w0 with
    | none =>
      rw [show optI none = V.non from rfl]
      tm_at "go"
      exact kN (by rw [en]; rfl) _ sm5
    | some n =>
      rw [en, ek] at kN kY
      have kN : (if innerOf ws = [("whole" : Str)] then some (n, none, k) else readT n k (innerOf ws)) = none → ∀ H', Same H H' → Q .non H' := kN
      have kY : ∀ n' b k', (if innerOf ws = [("whole" : Str)] then some (n, none, k) else readT n k (innerOf ws)) = some (n', b, k') → ∀ (t : Addr) (H' : Hp), Same H H' → H' t = some (.tup [.int ((n' : Nat) : Int), optI (b.map (·.1)), optI (b.map (·.2)), optI k']) → Q (.ref t) H' := kY
      generalize innerOf ws = inn at kN kY hi iok ⊢
      rw [show optI (some n) = V.int (n : Int) from rfl]
      tm_at "go"
      refine r_id (fun z => nomatch z) (fun _ => ?_)
      tm_at "go"
      refine ⟨szl rfl, fun q2 hq2 => ?_⟩
      tm_at "go"
      have hi2 : (upd H5 q2 (.lst [V.str "whole"])) q = some (.lst (inn.map V.str)) := at_upd (ne_of_none hi hq2) hi
      refine r_eqD (d := .list (strD inn)) (e := .list (strD ["whole"])) (.lst (SqL.of hi2) (dp_strs _)) (.lst (SqL.of upd_same) (dp_strs ["whole"])) (shp_strs fun w hw => (iok w hw).2) (by decide +kernel) ?_
      rw [eqv_strL]
      have sm6 := Same.new (o := .lst [V.str "whole"]) sm5 hq2
      generalize upd H5 q2 (.lst [V.str "whole"]) = H6 at sm6 hi2 ⊢
      clear sm5 hi hq2
      tm_at "go"
      refine r_id (fun c5 => ?_) (fun c5 => ?_)
      · tm_at "go"
        refine ⟨szl rfl, fun t ht => ?_⟩
        exact kY n none k (if_pos c5) t _ (Same.new sm6 ht) upd_same
      rw [if_neg c5] at kN kY
      tm_at "go"
      refine r_ne rfl ?_
      rw [List.length_map, show decide (V.int ((inn.length : Nat) : Int) = V.int 3) = decide (inn.length = 3) from by rw [dec_int']; exact decide_eq_decide.mpr (by omega)]
      tm_at "go"
      refine r_nid (fun c6 => ?_) (fun c6 => ?_)
      · tm_at "go"
        exact kN (readT_no c6) _ sm6
      match inn, c6, kN, kY, hi2, iok with
      | [a, b, c], _, kN, kY, hi2, iok =>
        have kN : (if a = "from" then (slotOf b).bind fun s => (numOf c).bind fun g => some (n, some (s, g), k) else none) = none → ∀ H', Same H H' → Q .non H' := kN
        have kY : ∀ n' b' k', (if a = "from" then (slotOf b).bind fun s => (numOf c).bind fun g => some (n, some (s, g), k) else none) = some (n', b', k') → ∀ (t : Addr) (H' : Hp), Same H H' → H' t = some (.tup [.int ((n' : Nat) : Int), optI (b'.map (·.1)), optI (b'.map (·.2)), optI k']) → Q (.ref t) H' := kY
        have hi2 : H6 q = some (.lst [V.str a, .str b, .str c]) := hi2
        tm_at "go"
        refine r_ne rfl ?_
        rw [decS]
        tm_at "go"
        refine r_nid (fun c7 => ?_) (fun c7 => ?_)
        · tm_at "go"
          exact kN (if_neg c7) _ sm6
        rw [if_pos c7] at kN kY
        tm_at "go"
        refine ⟨szl rfl, fun q3 hq3 => ?_⟩
        have sm7 := Same.new (o := .tup ((["0", "1", "2"] : List Str).map V.str)) sm6 hq3
        have hi3 : (upd H6 q3 (.tup ((["0", "1", "2"] : List Str).map V.str))) q = some (.lst [V.str a, .str b, .str c]) := at_upd (ne_of_none hi2 hq3) hi2
        refine r_ninQ (xs := (["0", "1", "2"] : List Str).map V.str) (.inr (SqT.of upd_same)) rfl (flat_strs _) ?_
        rw [inV_str, ← slot_in]
        have sm7 : Same H (upd H6 q3 (.tup [V.str "0", .str "1", .str "2"])) := sm7
        have hi3 : (upd H6 q3 (.tup [V.str "0", .str "1", .str "2"])) q = some (.lst [V.str a, .str b, .str c]) := hi3
        generalize upd H6 q3 (.tup [V.str "0", .str "1", .str "2"]) = H7 at sm7 hi3 ⊢
        clear hq3 hi2 sm6
        tm_at "go"
        refine r_nb (fun c8 => ?_) (fun c8 => ?_)
        · tm_at "go"
          refine kN ?_ _ sm7
          cases es : slotOf b with
          | some k => rw [es] at c8; exact nomatch c8
          | none => rfl
        obtain ⟨s8, es⟩ := Option.isSome_iff_exists.mp c8
        rw [es] at kN kY
        have cm := iok c (List.mem_cons_of_mem _ (List.mem_cons_of_mem _ (List.mem_cons_self ..)))
        tm_at "go"
        refine ⟨c, rfl, Nat.le_trans cm.1 (by decide), cm.2, fun H8 sm8 => ?_⟩
        have sm9 := sm7.trans sm8
        have hi4 := sm8 _ _ hi3
        tm_at "go"
        cases eg : numOf c with
        | none =>
          rw [show optI none = V.non from rfl]
          tm_at "go"
          exact kN (by rw [eg]; rfl) _ sm9
        | some g =>
          rw [eg] at kN kY
          rw [show optI (some g) = V.int (g : Int) from rfl]
          tm_at "go"
          refine r_id (fun z => nomatch z) (fun _ => ?_)
          tm_at "go"
          refine .inr ⟨b, _, rfl, (int_slot es).1, (int_slot es).2, ?_⟩
          tm_at "go"
          refine ⟨szl rfl, fun t ht => ?_⟩
          exact kY n (some (s8, g)) k rfl t _ (Same.new sm9 ht) upd_same
end
/-! ### Word.read -/
def wordsOf (v : V) : List Str := match v with | .str x => Txt.split x " " | _ => []
def TextArg (K : PySem.W.Frag) (H : Hp) (v : V) : Prop := (∃ x : Str, v = .str x ∧ x.length ≤ 90000 ∧ cpsOk x) ∨ (Kd K H v ∧ isS v = false)
theorem TextArg.mono {K : PySem.W.Frag} {H H' : Hp} {v : V} (s : Same H H') (h : TextArg K H v) : TextArg K H' v := h.imp id fun z => ⟨z.1.mono s, z.2⟩
theorem slot_le {w : Str} {n : Nat} (h : slotOf w = some n) : n ≤ 2 := by
  rcases slot_w h with ⟨_, rfl⟩ | ⟨_, rfl⟩ | ⟨_, rfl⟩ <;> decide
theorem fromV_le {n : Nat} (h : n ≤ 2) : fromV (.int (n : Int)) 0 2 = true := by
  show (decide ((0 : Int) ≤ (n : Int)) && decide ((n : Int) ≤ 2)) = true
  rw [decide_eq_true (by omega), decide_eq_true (by omega)]
  rfl
theorem keep_good {w : Str} {k : Option Nat} (h : keepW w = some k) : (decide (optI k = .non) || fromV (optI k) 0 2) = true := by
  unfold keepW at h
  split at h
  · cases h
    rfl
  · obtain ⟨n, hn, rfl⟩ := Option.map_eq_some_iff.mp h
    rw [show optI (some n) = V.int (n : Int) from rfl, fromV_le (slot_le hn), Bool.or_true]
theorem numV_nat (n : Nat) : numV (.int (n : Int)) = true := by
  show decide ((0 : Int) ≤ (n : Int)) = true
  exact decide_eq_true (by omega)
def spRead (K : PySem.W.Frag) (aWord aInvWord : Addr) : Sp := fun vs H Q E => ∃ v, vs = [.ref aWord, v] ∧ TextArg K H v ∧
  (readW (wordsOf v) = none → ∀ H', Same H H' → E (.ref aInvWord) none H') ∧
  (∀ n b k, readW (wordsOf v) = some (n, b, k) → ∀ (y dy : Addr) (H' : Hp), Same H H' → H y = none → H' y = some (.ins aWord dy (wordF (.int ((n : Nat) : Int)) (optI (b.map (·.1))) (optI (b.map (·.2))) (optI k))) → Q (.ref y) H')
section
variable {K : PySem.W.Frag}
theorem ok_read (F : CmAt K aWord "read" "Word.read" s_Word_read) (T : Txt K mg aGround aWord aInvWord aInvText aInvRow) (D_number_of : DefOk P w K mg base CX0 1 "number_of" ["word"] spNumOf) (D_slot_of : DefOk P w K mg base CX0 2 "slot_of" ["word"] spSlotOf)
    (R_InvalidWord : ErrOk P w K mg base 1 "InvalidWord" aInvWord ["self"] (spInitN K aInvWord)) (M_Word : MakeOk P w K mg base (L2.CX P w) 4 "Word" aWord ["self", "number", "slot", "ground", "keep"] [] (spWord K aWord aInvWord)) :
    CmOk P w K mg base (L2.CX P w) 6 aWord "read" "Word.read" s_Word_read ["cls", "text"] (spRead K aWord aInvWord) := by
  refine F.okX sc_Word_read (fun _ _ _ _ _ _ us hl => match us, hl with | [_, _], _ => rfl) (fun vs H Q E h => ?_) (fun f cdv A outer s H vs Q E hr h => ?_)
  · obtain ⟨v, rfl, _⟩ := h
    rfl
  · obtain ⟨v, rfl, hv, kN, kY⟩ := h
    refine ⟨_, (pss_cons (ps_set (i := 2) sc_Word_read.nd rfl (Or.inl rfl) (pe_cut (pe_ifExp (pt_tr K (pe_callB (c_isi K) (by rfl) T.n_isinstance (by decide +kernel) (pa_cons (pv 1) (pa_cons (pe_bT (T := "str") (by rfl) T.n_str (by decide +kernel)) pa_nil)))) (pe_splitK (pv 1) pe_str) (pe_lst pa_nil))))
  (pss_cons (ps_if (PW.pt (pw_or (pt_cmpR o_lt (pe_callB (c_len K) (by rfl) T.n_len (by decide +kernel) (pa_cons (pv 2) pa_nil)) pe_int (nomark _)) (pw_or1 (pt_cmpR (o_ne K hr.units) (pe_ix (ix_u K) (pv 2) (pe_un un_neg pe_int) (fun _ _ => rfl)) pe_str (nomark _))))) (pss_one (ps_raise rfl (takes_of rfl rfl rfl rfl) (pmkN R_InvalidWord (hr.mono (by decide)) rfl)))
  pss_nil)
  (pss_cons (ps_set (i := 3) sc_Word_read.nd rfl (Or.inl rfl) (pe_cut (pe_ifExp (pt_cmpR (o_eq K hr.units) (pe_ix (ix_u K) (pv 2) (pe_un un_neg pe_int) (fun _ _ => rfl)) (pe_gS rfl T.m_NOWHERE) (nomark _)) pe_non (pe_callD D_slot_of (hr.mono (by decide)) pass0 rfl (pa_cons (pe_ix (ix_u K) (pv 2) (pe_un un_neg pe_int) (fun _ _ => rfl)) pa_nil)))))
  (pss_cons (ps_par (i := 4) (j := 5) (by rfl) sc_Word_read.nd rfl rfl (by decide) rfl rfl (pa_cons (pe_callD D_number_of (hr.mono (by decide)) pass0 rfl (pa_cons (pe_ix (ix_u K) (pv 2) pe_int (fun _ _ => rfl)) pa_nil)) (pa_cons (pe_slice (slL K) (pv 2) (po_some pe_int) (po_some (pe_un un_neg pe_int))) pa_nil)) (by rfl))
  (pss_cut (ps_if (PW.pt (pw_or (pt_cmpR o_is (pv 4) pe_non (nomark _)) (pw_or1 (PW.pt (pw_and (pt_cmpR o_is (pv 3) pe_non (nomark _)) (pw_and1 (pt_cmpR (o_ne K hr.units) (pe_ix (ix_u K) (pv 2) (pe_un un_neg pe_int) (fun _ _ => rfl)) (pe_gS rfl T.m_NOWHERE) (nomark _)))))))) (pss_one (ps_raise rfl (takes_of rfl rfl rfl rfl) (pmkN R_InvalidWord (hr.mono (by decide)) rfl)))
  pss_nil)
  (pss_cons (ps_if (pt_cmpR (o_eq K hr.units) (pv 5) (pe_lst (pa_cons pe_str pa_nil)) (nomark _)) (pss_one (ps_ret (pe_makeL (i := 0) (y := "cls") M_Word (hr.mono (by decide)) (passT (takes_of rfl rfl rfl rfl)) rfl (Or.inl rfl) (pa_cons (pv 4) (pa_cons pe_non (pa_cons pe_non (pa_cons (pv 3) pa_nil)))))))
  pss_nil)
  (pss_cons (ps_if (PW.pt (pw_or (pt_cmpR (o_ne K hr.units) (pe_callB (c_len K) (by rfl) T.n_len (by decide +kernel) (pa_cons (pv 5) pa_nil)) pe_int (nomark _)) (pw_or1 (pt_cmpR (o_ne K hr.units) (pe_ix (ix_u K) (pv 5) pe_int (fun _ _ => rfl)) pe_str (nomark _))))) (pss_one (ps_raise rfl (takes_of rfl rfl rfl rfl) (pmkN R_InvalidWord (hr.mono (by decide)) rfl)))
  pss_nil)
  (pss_cons (ps_par (i := 6) (j := 7) (by rfl) sc_Word_read.nd rfl rfl (by decide) rfl rfl (pa_cons (pe_callD D_slot_of (hr.mono (by decide)) pass0 rfl (pa_cons (pe_ix (ix_u K) (pv 5) pe_int (fun _ _ => rfl)) pa_nil)) (pa_cons (pe_callD D_number_of (hr.mono (by decide)) pass0 rfl (pa_cons (pe_ix (ix_u K) (pv 5) pe_int (fun _ _ => rfl)) pa_nil)) pa_nil)) (by rfl))
  (pss_cons (ps_if (PW.pt (pw_or (pt_cmpR o_is (pv 6) pe_non (nomark _)) (pw_or1 (pt_cmpR o_is (pv 7) pe_non (nomark _))))) (pss_one (ps_raise rfl (takes_of rfl rfl rfl rfl) (pmkN R_InvalidWord (hr.mono (by decide)) rfl)))
  pss_nil)
  (pss_one (ps_ret (pe_makeL (i := 0) (y := "cls") M_Word (hr.mono (by decide)) (passT (takes_of rfl rfl rfl rfl)) rfl (Or.inl rfl) (pa_cons (pv 4) (pa_cons (pv 6) (pa_cons (pv 7) (pa_cons (pv 3) pa_nil)))))))))))))))), ?_⟩
    tm_at "go"
    have wok : ∀ w ∈ wordsOf v, w.length ≤ 90000 ∧ cpsOk w := by
      rcases hv with ⟨x, rfl, hz, hok⟩ | ⟨hk, hs⟩
      · exact fun w hw => ⟨Nat.le_trans (split_ok hw).1 hz, (split_ok hw).2 hok⟩
      · intro w hw
        have e : wordsOf v = [] := by cases v <;> first | rfl | exact Bool.noConfusion (show true = false from hs)
        rw [e] at hw
        exact nomatch hw
    refine r_cutE (fun u H' => ∃ p, u = .ref p ∧ Same H H' ∧ H' p = some (.lst ((wordsOf v).map V.str))) ?_ ?_
    · tm_at "go"
      have kd : Kd K H v := by
        rcases hv with ⟨x, rfl, hz, hok⟩ | ⟨hk, hs⟩
        · exact .str x
        · exact hk
      obtain ⟨t, ty, kt⟩ := kd.isi_str
      refine r_isi (.ty _) ty kt ?_
      tm_at "go"
      rcases hv with ⟨x, rfl, hz, hok⟩ | ⟨hk, hs⟩
      · refine r_T ?_
        tm_at "go"
        exact ⟨x, " ", rfl, rfl, by decide +kernel, sz (by omega), fun p hp => ⟨p, rfl, same_new hp, upd_same⟩⟩
      · rw [hs]
        refine r_F ?_
        tm_at "go"
        refine ⟨szl rfl, fun p hp => ⟨p, rfl, same_new hp, ?_⟩⟩
        cases v <;> first | exact upd_same | exact nomatch hs
    rintro u H1 ⟨p, rfl, sm1, hw1⟩
    generalize wordsOf v = ws at wok hw1 kN kY ⊢
    have rz : ∀ {σ' : St} {H' : Hp}, readW ws = none → Same H H' → tMkN aInvWord (spInitN K aInvWord) σ' H' (fun cls d H'' => E cls d H'') := fun h sm => r_mkN R_InvalidWord.2.1 (kN h _ sm)
    tm_at "go"
    rw [List.length_map, show decide ((ws.length : Int) < 4) = decide (ws.length < 4) from decide_eq_decide.mpr (by omega)]
    refine r_id (fun c1 => ?_) (fun c1 => ?_)
    · tm_at "go"
      exact rz (if_pos (.inl c1)) sm1
    have hj2 : ws[ws.length - 2]? = some (ws[ws.length - 2]'(by omega)) := List.getElem?_eq_getElem _
    generalize (ws[ws.length - 2]'(by omega)) = w2 at hj2
    have hj1 : ws[ws.length - 1]? = some (ws[ws.length - 1]'(by omega)) := List.getElem?_eq_getElem _
    generalize (ws[ws.length - 1]'(by omega)) = w1 at hj1
    have hj0 : ws[0]? = some (ws[0]'(by omega)) := List.getElem?_eq_getElem _
    generalize (ws[0]'(by omega)) = w0 at hj0
    have lw : (ws.map V.str).length = ws.length := List.length_map ..
    have at2 : atI (ws.map V.str) (-2) = some (.str w2) := atI_neg (k := 2) (j := ws.length - 2) (by decide) (by omega) (by rw [List.getElem?_map, hj2]; rfl)
    have at1 : atI (ws.map V.str) (-1) = some (.str w1) := atI_neg (k := 1) (j := ws.length - 1) (by decide) (by omega) (by rw [List.getElem?_map, hj1]; rfl)
    tm_at "go"
    refine r_ixL (SqL.of hw1) at2 ?_
    tm_at "go"
    refine r_ne rfl ?_
    rw [decS]
    tm_at "go"
    refine r_nid (fun c2 => ?_) (fun c2 => ?_)
    · tm_at "go"
      exact rz (if_pos (.inr (by rw [hj2]; exact fun z => c2 (Option.some.inj z)))) sm1
    rw [c2] at hj2
    have rW := readW_eq (w0 := w0) (w1 := w1) c1 hj2 (by rw [List.getD_eq_getElem?_getD, hj0]; rfl) (by rw [List.getD_eq_getElem?_getD, hj1]; rfl)
    rw [rW] at kN kY
    clear rz
    have rz : ∀ {σ' : St} {H' : Hp}, ((numOf w0).bind fun n => (keepW w1).bind fun k => if innerOf ws = [("whole" : Str)] then some (n, none, k) else readT n k (innerOf ws)) = none → Same H H' → tMkN aInvWord (spInitN K aInvWord) σ' H' (fun cls d H'' => E cls d H'') := fun h sm => r_mkN R_InvalidWord.2.1 (kN h _ sm)
    have ok1 := wok w1 (List.mem_of_getElem? hj1)
    have ok0 := wok w0 (List.mem_of_getElem? hj0)
    tm_at "go"
    refine r_cutE (fun u H' => Same H1 H' ∧ u = (if w1 = "none" then .non else optI (slotOf w1))) ?_ ?_
    · tm_at "go"
      refine r_ixL (SqL.of hw1) at1 ?_
      tm_at "go"
      refine r_eq rfl ?_
      rw [decS]
      tm_at "go"
      refine r_id (fun c4 => ?_) (fun c4 => ?_)
      · tm_at "go"
        exact ⟨Same.refl, (if_pos c4).symm⟩
      · tm_at "go"
        refine r_ixL (SqL.of hw1) at1 ?_
        tm_at "go"
        exact ⟨w1, rfl, Nat.le_trans ok1.1 (by decide), ok1.2, fun H' sm => ⟨sm, (if_neg c4).symm⟩⟩
    rintro u H2 ⟨sm2, rfl⟩
    have hw2 := sm2 _ _ hw1
    have sm2 := sm1.trans sm2
    tm_at "go"
    refine r_ixL (SqL.of hw2) (atI_nat (j := 0) (v := .str w0) (by rw [List.getElem?_map, hj0]; rfl)) ?_
    tm_at "go"
    refine ⟨w0, rfl, Nat.le_trans ok0.1 (by decide), ok0.2, fun H4 sm4 => ?_⟩
    tm_at "go"
    refine r_slL (SqL.of (sm4 _ _ hw2)) fun q hq => ?_
    rw [cut_inner (by omega)]
    have sm5 := Same.new (o := .lst ((innerOf ws).map V.str)) (sm2.trans sm4) hq
    have hi : (upd H4 q (.lst ((innerOf ws).map V.str))) q = some (.lst ((innerOf ws).map V.str)) := upd_same
    have hw3 : (upd H4 q (.lst ((innerOf ws).map V.str))) p = some (.lst (ws.map V.str)) := at_upd (ne_of_none (sm4 _ _ hw2) hq) (sm4 _ _ hw2)
    generalize upd H4 q (.lst ((innerOf ws).map V.str)) = H5 at sm5 hi hw3 ⊢
    clear hq sm4 hw2 sm2
    have iok : ∀ w ∈ innerOf ws, w.length ≤ 90000 ∧ cpsOk w := fun w hw => wok w (inner_mem hw)
    tm_at "go"
    refine r_cut (fun σ' H' => H' = H5 ∧ ∃ n k, numOf w0 = some n ∧ keepW w1 = some k ∧ σ' = [some (.ref aWord), some v, some (.ref p), some (optI k), some (.int ((n : Nat) : Int)), some (.ref q), none, none]) ?_ ?_
    · tm_at "go"
      cases en : numOf w0 with
      | none =>
        rw [show optI none = V.non from rfl]
        tm_at "go"
        refine rz (σ' := []) ?_ sm5
        rw [en]
        rfl
      | some n =>
        rw [show optI (some n) = V.int (n : Int) from rfl]
        tm_at "go"
        refine r_id (fun z => nomatch z) (fun _ => ?_)
        tm_at "go"
        by_cases c4 : w1 = "none"
        · rw [if_pos c4]
          refine r_Td rfl ?_
          tm_at "go"
          refine r_ixL (SqL.of hw3) at1 ?_
          tm_at "go"
          refine r_ne rfl ?_
          rw [decS]
          tm_at "go"
          refine r_nid (fun z => absurd c4 z) (fun _ => ?_)
          tm_at "go"
          exact ⟨rfl, n, none, rfl, if_pos c4, rfl⟩
        · rw [if_neg c4]
          cases es : slotOf w1 with
          | none =>
            rw [show optI none = V.non from rfl]
            refine r_Td rfl ?_
            tm_at "go"
            refine r_ixL (SqL.of hw3) at1 ?_
            tm_at "go"
            refine r_ne rfl ?_
            rw [decS]
            tm_at "go"
            refine r_nid (fun _ => ?_) (fun z => absurd z c4)
            tm_at "go"
            refine rz ?_ sm5
            rw [en, show keepW w1 = none by unfold keepW; rw [if_neg c4, es]; rfl]
            rfl
          | some m =>
            rw [show optI (some m) = V.int (m : Int) from rfl]
            refine r_Fd (fun z => nomatch z) ?_
            tm_at "go"
            exact ⟨rfl, n, some m, rfl, by unfold keepW; rw [if_neg c4, es]; rfl, rfl⟩
    rintro σ' H' ⟨rfl, n, k, en, ek, rfl⟩
    rw [en, ek] at kN kY
    have kN : (if innerOf ws = [("whole" : Str)] then some (n, none, k) else readT n k (innerOf ws)) = none → ∀ H'', Same H H'' → E (.ref aInvWord) none H'' := kN
    have kY : ∀ n' b k', (if innerOf ws = [("whole" : Str)] then some (n, none, k) else readT n k (innerOf ws)) = some (n', b, k') → ∀ (y dy : Addr) (H'' : Hp), Same H H'' → H y = none → H'' y = some (.ins aWord dy (wordF (.int ((n' : Nat) : Int)) (optI (b.map (·.1))) (optI (b.map (·.2))) (optI k'))) → Q (.ref y) H'' := kY
    clear rz
    generalize innerOf ws = inn at kN kY hi iok ⊢
    tm_at "go"
    refine ⟨szl rfl, fun q2 hq2 => ?_⟩
    tm_at "go"
    have hi2 : (upd H' q2 (.lst [V.str "whole"])) q = some (.lst (inn.map V.str)) := at_upd (ne_of_none hi hq2) hi
    refine r_eqD (d := .list (strD inn)) (e := .list (strD ["whole"])) (.lst (SqL.of hi2) (dp_strs _)) (.lst (SqL.of upd_same) (dp_strs ["whole"])) (shp_strs fun w hw => (iok w hw).2) (by decide +kernel) ?_
    rw [eqv_strL]
    have sm6 := Same.new (o := .lst [V.str "whole"]) sm5 hq2
    generalize upd H' q2 (.lst [V.str "whole"]) = H6 at sm6 hi2 ⊢
    clear sm5 hi hq2 hw3
    have kg := keep_good ek
    have kk : ∀ H'', Kd K H'' (optI k) := fun H'' => by
      cases k with
      | none => exact .non
      | some n => exact .int _
    tm_at "go"
    refine r_id (fun c5 => ?_) (fun c5 => ?_)
    · tm_at "go"
      intro y dy hy hdy ney
      refine ⟨y, dy, .int ((n : Nat) : Int), .non, .non, optI k, rfl, .int _, .non, .non, kk _, upd_same, fun _ => ⟨rfl, ?_⟩, fun z => ?_⟩
      · have n2 : upd H6 dy (.own y) y = none := (upd_ne (Ne.symm ney)).trans hy
        refine kY n none k (if_pos c5) y dy _ ?_ (Same.free sm6 hy) upd_same
        rw [upd_upd]
        exact Same.new (Same.new sm6 hdy) n2
      · unfold goodW at z
        rw [numV_nat, kg] at z
        exact nomatch z
    rw [if_neg c5] at kN kY
    tm_at "go"
    refine r_ne rfl ?_
    rw [List.length_map, show decide (V.int ((inn.length : Nat) : Int) = V.int 3) = decide (inn.length = 3) from by rw [dec_int']; exact decide_eq_decide.mpr (by omega)]
    tm_at "go"
    refine r_nid (fun c6 => ?_) (fun c6 => ?_)
    · tm_at "go"
      exact r_mkN R_InvalidWord.2.1 (kN (readT_no c6) _ sm6)
    match inn, c6, kN, kY, hi2, iok with
    | [a, b, c], _, kN, kY, hi2, iok =>
      have kN : (if a = "from" then (slotOf b).bind fun s => (numOf c).bind fun g => some (n, some (s, g), k) else none) = none → ∀ H'', Same H H'' → E (.ref aInvWord) none H'' := kN
      have kY : ∀ n' b' k', (if a = "from" then (slotOf b).bind fun s => (numOf c).bind fun g => some (n, some (s, g), k) else none) = some (n', b', k') → ∀ (y dy : Addr) (H'' : Hp), Same H H'' → H y = none → H'' y = some (.ins aWord dy (wordF (.int ((n' : Nat) : Int)) (optI (b'.map (·.1))) (optI (b'.map (·.2))) (optI k'))) → Q (.ref y) H'' := kY
      have hi2 : H6 q = some (.lst [V.str a, .str b, .str c]) := hi2
      tm_at "go"
      refine r_ne rfl ?_
      rw [decS]
      tm_at "go"
      refine r_nid (fun c7 => ?_) (fun c7 => ?_)
      · tm_at "go"
        exact r_mkN R_InvalidWord.2.1 (kN (if_neg c7) _ sm6)
      rw [if_pos c7] at kN kY
      have bm := iok b (List.mem_cons_of_mem _ (List.mem_cons_self ..))
      have cm := iok c (List.mem_cons_of_mem _ (List.mem_cons_of_mem _ (List.mem_cons_self ..)))
      tm_at "go"
      refine ⟨b, rfl, Nat.le_trans bm.1 (by decide), bm.2, fun H7 sm7 => ?_⟩
      have hi3 := sm7 _ _ hi2
      tm_at "go"
      refine ⟨c, rfl, Nat.le_trans cm.1 (by decide), cm.2, fun H8 sm8 => ?_⟩
      have sm9 := (sm6.trans sm7).trans sm8
      tm_at "go"
      cases es : slotOf b with
      | none =>
        rw [show optI none = V.non from rfl]
        tm_at "go"
        exact r_mkN (σ := []) R_InvalidWord.2.1 (kN (by rw [es]; rfl) _ sm9)
      | some s8 =>
        rw [show optI (some s8) = V.int (s8 : Int) from rfl]
        tm_at "go"
        refine r_Fd (fun z => nomatch z) ?_
        tm_at "go"
        cases eg : numOf c with
        | none =>
          rw [show optI none = V.non from rfl]
          tm_at "go"
          exact r_mkN (σ := []) R_InvalidWord.2.1 (kN (by rw [es, eg]; rfl) _ sm9)
        | some g =>
          rw [es, eg] at kY
          rw [show optI (some g) = V.int (g : Int) from rfl]
          tm_at "go"
          refine r_Fd (fun z => nomatch z) ?_
          tm_at "go"
          intro y dy hy hdy ney
          refine ⟨y, dy, .int ((n : Nat) : Int), .int ((s8 : Nat) : Int), .int ((g : Nat) : Int), optI k, rfl, .int _, .int _, .int _, kk _, upd_same, fun _ => ⟨rfl, ?_⟩, fun z => ?_⟩
          · have n2 : upd H8 dy (.own y) y = none := (upd_ne (Ne.symm ney)).trans hy
            refine kY n (some (s8, g)) k rfl y dy _ ?_ (Same.free sm9 hy) upd_same
            rw [upd_upd]
            exact Same.new (Same.new sm9 hdy) n2
          · unfold goodW at z
            rw [numV_nat, numV_nat, kg, fromV_le (slot_le es)] at z
            rw [Bool.and_self, Bool.or_true] at z
            exact nomatch z
end
/-! ### what a word has, and is read as -/
def WordAt (aWord : Addr) (H : Hp) (x : Addr) (a b c d : V) : Prop := ∃ dx, H x = some (.ins aWord dx (wordF a b c d))
theorem WordAt.mono {aWord : Addr} {H H' : Hp} {x : Addr} {a b c d : V} (s : Same H H') (h : WordAt aWord H x a b c d) : WordAt aWord H' x a b c d := let ⟨dx, e⟩ := h; ⟨dx, s _ _ e⟩
def spPartsOf (aWord : Addr) : Sp := fun vs H Q _ => ∃ (x : Addr) (a b c d : V), vs = [.ref x] ∧ WordAt aWord H x a b c d ∧ ∀ t H', Same H H' → H' t = some (.tup [a, b, c, d]) → Q (.ref t) H'
def spHeard7 (K : PySem.W.Frag) : Sp := fun vs H Q _ => ∃ v, vs = [v] ∧ TextArg K H v ∧ (readW (wordsOf v) = none → ∀ H', Same H H' → Q .non H') ∧
  (∀ n b k, readW (wordsOf v) = some (n, b, k) → ∀ (t : Addr) (H' : Hp), Same H H' → H' t = some (.tup [.int ((n : Nat) : Int), optI (b.map (·.1)), optI (b.map (·.2)), optI k]) → Q (.ref t) H')
section
variable {K : PySem.W.Frag}
theorem ok_parts_of (F : DefAt K mg "_law_parts_of" s_law_parts_of) (T : Txt K mg aGround aWord aInvWord aInvText aInvRow) : DefOk P w K mg base CX0 1 "_law_parts_of" ["_law_word"] (spPartsOf aWord) := by
  refine F.ok sc_law_parts_of (fun _ _ _ _ _ _ us hl => match us, hl with | [_], _ => rfl) (fun vs H Q E h => ?_) (fun f cdv A outer s H vs Q E hr h => ?_)
  · obtain ⟨x, a, b, c, d, rfl, _⟩ := h
    rfl
  · obtain ⟨x, a, b, c, d, rfl, ⟨dx, hx⟩, k⟩ := h
    refine ⟨_, (pss_one (ps_ret (pe_tup (pa_cons (pe_fl K (pv 0)) (pa_cons (pe_fl K (pv 0)) (pa_cons (pe_fl K (pv 0)) (pa_cons (pe_fl K (pv 0)) pa_nil))))))), ?_⟩
    tm_at "go"
    refine r_get hx T.clW T.nN (wordF_number ..) ?_
    tm_at "go"
    refine r_get hx T.clW T.nS (wordF_slot ..) ?_
    tm_at "go"
    refine r_get hx T.clW T.nG (wordF_ground ..) ?_
    tm_at "go"
    refine r_get hx T.clW T.nK (wordF_keep ..) ?_
    tm_at "go"
    exact ⟨szl rfl, fun t ht => k t _ (same_new ht) upd_same⟩
theorem ok_heard7 (F : DefAt K mg "_law_heard" s_law_heard) (T : Txt K mg aGround aWord aInvWord aInvText aInvRow) (D_law_parts_of : DefOk P w K mg base CX0 1 "_law_parts_of" ["_law_word"] (spPartsOf aWord)) (M_Word_read : CmOk P w K mg base (L2.CX P w) 6 aWord "read" "Word.read" s_Word_read ["cls", "text"] (spRead K aWord aInvWord)) :
    DefOk P w K mg base CX0 7 "_law_heard" ["_law_value"] (spHeard7 K) := by
  refine F.ok sc_law_heard (fun _ _ _ _ _ _ us hl => match us, hl with | [_], _ => rfl) (fun vs H Q E h => ?_) (fun f cdv A outer s H vs Q E hr h => ?_)
  · obtain ⟨v, rfl, _⟩ := h
    rfl
  · obtain ⟨v, rfl, hv, kN, kY⟩ := h
    refine ⟨_, (pss_cons (ps_set (i := 1) sc_law_heard.nd rfl (Or.inl rfl) pe_str)
  (pss_cons (ps_try_as (i := 2) rfl rfl sc_law_heard.nd rfl rfl ⟨rfl, by decide, .inl T.m_InvalidWord⟩ takes0
  (fun W pn xe tk po => (pss_one (ps_set (i := 1) sc_law_heard.nd rfl (Or.inl rfl) (pe_callD D_law_parts_of (hr.mono (by decide)) pass0 rfl (pa_cons (pe_cmS M_Word_read (hr.mono (by decide)) (fun σ => passAt tk σ) (pe_gR rfl T.m_Word) (pa_cons (pv 0) pa_nil)) pa_nil)))))
  (fun a oe cls d pn hz hf => (pss_one (ps_set (i := 1) sc_law_heard.nd rfl (Or.inl rfl) (pe_ifExp (PW.pt (pw_and (pt_tr K (pe_callB (c_isG K hz hf) (by rfl) T.n_isinstance (by decide +kernel) (pa_cons (pv 2) (pa_cons (pe_gR rfl T.m_GroundError) pa_nil)))) (pw_and1 (pt_not (pt_tr K (pe_callB (c_isGT K hz hf) (by rfl) T.n_isinstance (by decide +kernel) (pa_cons (pv 2) (pa_cons (pe_tup (pa_cons (pe_gR rfl T.m_InvalidText) (pa_cons (pe_gR rfl T.m_InvalidRow) pa_nil))) pa_nil)))))))) pe_non pe_str)))))
  (pss_one (ps_ret (pv 1))))), ?_⟩
    tm_at "go"
    refine ⟨v, rfl, hv, fun hno H1 sm => ?_, fun n b k hk y dy H1 sm hy0 hy => ?_⟩
    · refine ⟨true, T.exm, fun _ e he => ?_, fun q => Bool.noConfusion q⟩
      tm_at "go"
      refine r_isG T.xc T.isG ?_
      tm_at "go"
      refine ⟨szl rfl, fun t ht => ?_⟩
      refine ⟨aInvWord, t, _, [.ref aInvText, .ref aInvRow], false, rfl, rfl, T.xc, rfl, upd_same, .cons (.own _) (.cons (.own _) .nil), kitAny2 T.isT T.isR, ?_⟩
      tm_at "go"
      exact kN hno _ (Same.new sm ht)
    · tm_at "go"
      refine ⟨y, _, _, _, _, rfl, ⟨dy, hy⟩, fun t H2 sm2 ht => ?_⟩
      tm_at "go"
      exact kY n b k hk t H2 (sm.trans sm2) ht
end
/-! ### the text of a number -/
def numS (n : Nat) : Str := Str.ofString (toString ((n : Nat) : Int))
theorem numS_log {n : Nat} (h : n < 10 ^ 38) : ((n : Nat) : Int).natAbs.log2 < 1920 := by
  have e : ((n : Nat) : Int).natAbs = n := rfl
  rw [e]
  by_cases h0 : n = 0
  · rw [h0]; decide
  · exact (Nat.log2_lt h0).mpr (Nat.lt_trans h (by decide +kernel))
theorem numS_len {n : Nat} (h : n < 10 ^ 38) : (numS n).length ≤ 40 := by
  have e := int_text_length_le10 (k := 38) (a := ((n : Nat) : Int)) (by decide) h
  refine Nat.le_trans ?_ (Nat.le_trans e (by decide))
  exact Nat.le_of_eq (PySem.ofString_length _)
theorem app_len (a b : Str) : (a ++ b).length = a.length + b.length := by
  rw [TL.len_tl, TL.len_tl, TL.len_tl, TL.tl_append, List.length_append]
/-! ### the parts of a word, and their text -/
def innerS : Option (Nat × Nat) → Str
  | none => "whole"
  | some (s, g) => "from " ++ numS s ++ " " ++ numS g
def keepS : Option Nat → Str
  | none => "none"
  | some k => numS k
def lineOf (n : Nat) (b : Option (Nat × Nat)) (k : Option Nat) : Str := numS n ++ " " ++ innerS b ++ " keep " ++ keepS k
def partV (n : Nat) (b : Option (Nat × Nat)) (k : Option Nat) : List V := [.int ((n : Nat) : Int), optI (b.map (·.1)), optI (b.map (·.2)), optI k]
def PartOk (n : Nat) (b : Option (Nat × Nat)) (k : Option Nat) : Prop := n < 10 ^ 20 ∧ (∀ s g, b = some (s, g) → s < 3 ∧ g < 10 ^ 20) ∧ ∀ j, k = some j → j < 3
theorem le38 {n : Nat} (h : n < 10 ^ 20) : n < 10 ^ 38 := Nat.lt_of_lt_of_le h (Nat.le_of_ble_eq_true (by decide +kernel))
theorem inner_len {b : Option (Nat × Nat)} (h : ∀ s g, b = some (s, g) → s < 3 ∧ g < 10 ^ 20) : (innerS b).length ≤ 90 := by
  cases b with
  | none => decide +kernel
  | some p =>
    obtain ⟨s, g⟩ := p
    have := h s g rfl
    have h1 := numS_len (le38 this.2)
    have h2 := numS_len (n := s) (Nat.lt_of_lt_of_le this.1 (by decide))
    show ("from " ++ numS s ++ " " ++ numS g).length ≤ 90
    rw [app_len, app_len, app_len, show ("from " : Str).length = 5 by decide +kernel, show (" " : Str).length = 1 by decide +kernel]
    omega
theorem keep_len {k : Option Nat} (h : ∀ j, k = some j → j < 3) : (keepS k).length ≤ 40 := by
  cases k with
  | none => decide +kernel
  | some j => exact numS_len (n := j) (Nat.lt_of_lt_of_le (h j rfl) (by decide))
theorem line_len {n : Nat} {b : Option (Nat × Nat)} {k : Option Nat} (h : PartOk n b k) : (lineOf n b k).length ≤ 180 := by
  have h1 := numS_len (le38 h.1)
  have h2 := inner_len h.2.1
  have h3 := keep_len h.2.2
  unfold lineOf
  rw [app_len, app_len, app_len, app_len, show (" keep " : Str).length = 6 by decide +kernel, show (" " : Str).length = 1 by decide +kernel]
  omega
def spParts : Sp := fun vs H Q _ => ∃ (b : Addr) (g : Bool), vs = [.ref b, .bl g] ∧ BoxAt H b ∧ ∀ n bb k, PartOk n bb k → ∀ (t : Addr) (H1 : Hp), Bx b H H1 → H1 t = none → Q (.ref t) (upd H1 t (.tup (partV n bb k)))
def spLine : Sp := fun vs H Q _ => ∃ (t : Addr) (n : Nat) (b : Option (Nat × Nat)) (k : Option Nat), vs = [.ref t] ∧ H t = some (.tup (partV n b k)) ∧ PartOk n b k ∧ Q (.str (lineOf n b k)) H
section
variable {K : PySem.W.Frag}
theorem ok_law_parts (F : DefAt K mg "_law_parts" s_law_parts) (T : Txt K mg aGround aWord aInvWord aInvText aInvRow) (D_law_take : DefOk P w K mg base CX0 1 "_law_take" ["_law_box_here", "_law_many"] spTake) (D_law_pick : DefOk P w K mg base CX0 2 "_law_pick" ["_law_box_here", "_law_items"] (spPick K)) :
    DefOk P w K mg base CX0 3 "_law_parts" ["_law_box_here", "_law_is_great"] spParts := by
  refine F.ok sc_law_parts (fun _ _ _ _ _ _ us hl => match us, hl with | [_, _], _ => rfl) (fun vs H Q E h => ?_) (fun f cdv A outer s H vs Q E hr h => ?_)
  · obtain ⟨b, g, rfl, _⟩ := h
    rfl
  · obtain ⟨b, g, rfl, hb, k⟩ := h
    refine ⟨_, (pss_cons (ps_set (i := 2) sc_law_parts.nd rfl (Or.inl rfl) (pe_callD D_law_pick (hr.mono (by decide)) pass0 rfl (pa_cons (pv 0) (pa_cons (pe_lst (pa_cons pe_non (pa_cons pe_int (pa_cons pe_int (pa_cons pe_int pa_nil))))) pa_nil))))
  (pss_cons (ps_set (i := 3) sc_law_parts.nd rfl (Or.inl rfl) (pe_cut (pe_ifExp (PW.pt (pw_and (pt_tr K (pv 1)) (pw_and1 (pt_cmpR (o_eq K hr.units) (pe_callD D_law_take (hr.mono (by decide)) pass0 rfl (pa_cons (pv 0) (pa_cons pe_int pa_nil))) pe_int (nomark _))))) (pe_op o_pow pe_int pe_int) (pe_op o_pow pe_int pe_int))))
  (pss_cons (ps_if (pt_cmpR (o_eq K hr.units) (pe_callD D_law_take (hr.mono (by decide)) pass0 rfl (pa_cons (pv 0) (pa_cons pe_int pa_nil))) pe_int (nomark _)) (pss_one (ps_ret (pe_tup (pa_cons (pe_callD D_law_take (hr.mono (by decide)) pass0 rfl (pa_cons (pv 0) (pa_cons (pv 3) pa_nil))) (pa_cons pe_non (pa_cons pe_non (pa_cons (pv 2) pa_nil)))))))
  pss_nil)
  (pss_one (ps_ret (pe_tup (pa_cons (pe_callD D_law_take (hr.mono (by decide)) pass0 rfl (pa_cons (pv 0) (pa_cons (pv 3) pa_nil))) (pa_cons (pe_callD D_law_take (hr.mono (by decide)) pass0 rfl (pa_cons (pv 0) (pa_cons pe_int pa_nil))) (pa_cons (pe_callD D_law_take (hr.mono (by decide)) pass0 rfl (pa_cons (pv 0) (pa_cons (pv 3) pa_nil))) (pa_cons (pv 2) pa_nil)))))))))), ?_⟩
    tm_at "go"
    refine ⟨szl rfl, fun p hp => ?_⟩
    refine r_pickN (E := E0) hb hp (Nat.le_of_ble_eq_true rfl) (Nat.le_of_ble_eq_true rfl) fun v H1 hv hx1 => ?_
    obtain ⟨kk, rfl, hk⟩ : ∃ kk : Option Nat, v = optI kk ∧ ∀ j, kk = some j → j < 3 := by
      rcases List.mem_cons.mp hv with rfl | hv
      · exact ⟨none, rfl, fun j z => nomatch z⟩
      rcases List.mem_cons.mp hv with rfl | hv
      · exact ⟨some 0, rfl, fun j z => by cases z; decide⟩
      rcases List.mem_cons.mp hv with rfl | hv
      · exact ⟨some 1, rfl, fun j z => by cases z; decide⟩
      · rw [List.mem_singleton.mp hv]
        exact ⟨some 2, rfl, fun j z => by cases z; decide⟩
    tm_at "go"
    refine r_cutE (fun u H' => ∃ m : Int, u = .int m ∧ 1 ≤ m ∧ m < 100000000000000000000 ∧ Bx b H H') ?_ ?_
    · tm_at "go"
      cases g with
      | false =>
        tm_at "go"
        exact ⟨by decide +kernel, by decide +kernel, hx1⟩
      | true =>
        tm_at "go"
        refine r_take hx1.box (by decide) (by decide) fun d H2 d0 d1 hx2 => ?_
        tm_at "go"
        refine r_eq rfl ?_
        tm_at "go"
        refine r_id (fun _ => ?_) (fun _ => ?_)
        · tm_at "go"
          exact ⟨by decide +kernel, by decide +kernel, hx1.trans hx2⟩
        · tm_at "go"
          exact ⟨by decide +kernel, by decide +kernel, hx1.trans hx2⟩
    rintro u H2 ⟨m, rfl, m1, m2, hx2⟩
    tm_at "go"
    refine r_take hx2.box (by decide) (by decide) fun d H3 d0 d1 hx3 => ?_
    tm_at "go"
    refine r_eq rfl ?_
    tm_at "go"
    refine r_id (fun _ => ?_) (fun _ => ?_)
    · tm_at "go"
      refine r_take hx3.box m1 m2 fun n H4 n0 n1 hx4 => ?_
      obtain ⟨n, rfl⟩ : ∃ j : Nat, n = j := ⟨n.toNat, by omega⟩
      tm_at "go"
      exact ⟨szl rfl, fun t ht => k n none kk ⟨by omega, (fun s g z => nomatch z), hk⟩ t _ ((hx2.trans hx3).trans hx4) ht⟩
    · tm_at "go"
      refine r_take hx3.box m1 m2 fun n H4 n0 n1 hx4 => ?_
      obtain ⟨n, rfl⟩ : ∃ j : Nat, n = j := ⟨n.toNat, by omega⟩
      tm_at "go"
      refine r_take hx4.box (by decide) (by decide) fun s H5 s0 s1 hx5 => ?_
      obtain ⟨s, rfl⟩ : ∃ j : Nat, s = j := ⟨s.toNat, by omega⟩
      tm_at "go"
      refine r_take hx5.box m1 m2 fun g H6 g0 g1 hx6 => ?_
      obtain ⟨g, rfl⟩ : ∃ j : Nat, g = j := ⟨g.toNat, by omega⟩
      tm_at "go"
      exact ⟨szl rfl, fun t ht => k n (some (s, g)) kk ⟨by omega, fun s' g' z => by cases z; exact ⟨by omega, by omega⟩, hk⟩ t _ ((((hx2.trans hx3).trans hx4).trans hx5).trans hx6) ht⟩
theorem ok_law_line (F : DefAt K mg "_law_line" s_law_line) (T : Txt K mg aGround aWord aInvWord aInvText aInvRow) : DefOk P w K mg base CX0 1 "_law_line" ["_law_parts_here"] spLine := by
  refine F.ok sc_law_line (fun _ _ _ _ _ _ us hl => match us, hl with | [_], _ => rfl) (fun vs H Q E h => ?_) (fun f cdv A outer s H vs Q E hr h => ?_)
  · obtain ⟨t, n, b, k, rfl, _⟩ := h
    rfl
  · obtain ⟨t, n, b, k, rfl, ht, ok, q⟩ := h
    refine ⟨_, (pss_cons (ps_set (i := 1) sc_law_line.nd rfl (Or.inl rfl) (pe_cut (pe_ifExp (pt_cmpR o_is (pe_ix (ix_u K) (pv 0) pe_int (fun _ _ => rfl)) pe_non (nomark _)) pe_str (pe_op (o_add K) (pe_op (o_add K) (pe_op (o_add K) pe_str (pe_callTy c_str (by rfl) T.n_str (by decide +kernel) (pa_cons (pe_ix (ix_u K) (pv 0) pe_int (fun _ _ => rfl)) pa_nil))) pe_str) (pe_callTy c_str (by rfl) T.n_str (by decide +kernel) (pa_cons (pe_ix (ix_u K) (pv 0) pe_int (fun _ _ => rfl)) pa_nil))))))
  (pss_one (ps_ret (pe_op (o_add K) (pe_op (o_add K) (pe_op (o_add K) (pe_op (o_add K) (pe_callTy c_str (by rfl) T.n_str (by decide +kernel) (pa_cons (pe_ix (ix_u K) (pv 0) pe_int (fun _ _ => rfl)) pa_nil)) pe_str) (pv 1)) pe_str) (pe_cut (pe_ifExp (pt_cmpR o_is (pe_ix (ix_u K) (pv 0) pe_int (fun _ _ => rfl)) pe_non (nomark _)) pe_str (pe_callTy c_str (by rfl) T.n_str (by decide +kernel) (pa_cons (pe_ix (ix_u K) (pv 0) pe_int (fun _ _ => rfl)) pa_nil)))))))), ?_⟩
    have h1 := numS_len (le38 ok.1)
    have h2 := inner_len ok.2.1
    have h3 := keep_len ok.2.2
    have l1 := numS_log (le38 ok.1)
    have e1 : (" " : Str).length = 1 := by decide +kernel
    have e5 : ("from " : Str).length = 5 := by decide +kernel
    have e6 : (" keep " : Str).length = 6 := by decide +kernel
    have hS : SqT K H t [.int ((n : Nat) : Int), optI (b.map (·.1)), optI (b.map (·.2)), optI k] := SqT.of ht
    tm_at "go"
    refine r_cutE (fun u H' => u = .str (innerS b) ∧ H' = H) ?_ ?_
    · tm_at "go"
      cases b with
      | none =>
        tm_at "go"
        refine r_Td rfl ?_
        tm_at "go"
        exact ⟨rfl, rfl⟩
      | some p =>
        obtain ⟨s, g⟩ := p
        have sg := ok.2.1 s g rfl
        have hs := numS_len (n := s) (Nat.lt_of_lt_of_le sg.1 (by decide))
        have hg := numS_len (le38 sg.2)
        tm_at "go"
        refine r_Fd (fun z => nomatch z) ?_
        tm_at "go"
        refine r_strI (numS_log (n := s) (Nat.lt_of_lt_of_le sg.1 (by decide))) ?_
        tm_at "go"
        refine r_addS (by show _ + (numS s).length ≤ _; rw [e5]; exact sz (by omega)) ?_
        tm_at "go"
        refine r_addS (by show ("from " ++ numS s).length + _ ≤ _; rw [app_len, e5, e1]; exact sz (by omega)) ?_
        tm_at "go"
        refine r_strI (numS_log (le38 sg.2)) ?_
        refine r_addS (by show ("from " ++ numS s ++ " ").length + (numS g).length ≤ _; rw [app_len, app_len, e5, e1]; exact sz (by omega)) ?_
        exact ⟨rfl, rfl⟩
    rintro u H' ⟨rfl, rfl⟩
    tm_at "go"
    refine r_strI l1 ?_
    tm_at "go"
    refine r_addS (by show (numS n).length + _ ≤ _; rw [e1]; exact sz (by omega)) ?_
    tm_at "go"
    refine r_addS (by show (numS n ++ " ").length + _ ≤ _; rw [app_len, e1]; exact sz (by omega)) ?_
    tm_at "go"
    refine r_addS (by show (numS n ++ " " ++ innerS b).length + _ ≤ _; rw [app_len, app_len, e1, e6]; exact sz (by omega)) ?_
    tm_at "go"
    refine r_cutE (fun u H'' => u = .str (keepS k) ∧ H'' = H') ?_ ?_
    · tm_at "go"
      cases k with
      | none =>
        tm_at "go"
        refine r_Td rfl ?_
        tm_at "go"
        exact ⟨rfl, rfl⟩
      | some j =>
        have hj := ok.2.2 j rfl
        tm_at "go"
        refine r_Fd (fun z => nomatch z) ?_
        tm_at "go"
        exact r_strI (numS_log (n := j) (Nat.lt_of_lt_of_le hj (by decide))) ⟨rfl, rfl⟩
    rintro u H'' ⟨rfl, rfl⟩
    refine r_addS (by show (numS n ++ " " ++ innerS b ++ " keep ").length + _ ≤ _; rw [app_len, app_len, app_len, e1, e6]; exact sz (by omega)) ?_
    exact q
end
/-! ### a line with one thing otherwise -/
theorem cps_app {a b : Str} (ha : cpsOk a) (hb : cpsOk b) : cpsOk (a ++ b) := by
  have e : (a ++ b).cps.toList = a.cps.toList ++ b.cps.toList := TL.tl_append a b
  intro c hc
  rw [e] at hc
  exact (List.mem_append.mp hc).elim (ha c) (hb c)
theorem cps_sp : cpsOk " " := by
  have e : (" " : Str).cps.toList = [32] := by decide +kernel
  intro c hc
  rw [e] at hc
  rw [List.mem_singleton.mp hc]
  decide
theorem join_bd {m : Nat} : ∀ {ys : List Str}, (∀ w ∈ ys, w.length ≤ m ∧ cpsOk w) → (Str.join " " ys).length ≤ ys.length * (m + 1) ∧ cpsOk (Str.join " " ys) ∧ (ys.map (·.length)).sum ≤ ys.length * m
  | [], _ => ⟨Nat.zero_le _, (fun c hc => nomatch hc), Nat.zero_le _⟩
  | [a], h => by
    have := h a (List.mem_cons_self ..)
    refine ⟨?_, this.2, ?_⟩
    · show a.length ≤ 1 * (m + 1)
      omega
    · show a.length + 0 ≤ 1 * m
      omega
  | a :: b :: l, h => by
    have h1 := h a (List.mem_cons_self ..)
    obtain ⟨i1, i2, i3⟩ := join_bd (ys := b :: l) fun w hw => h w (List.mem_cons_of_mem _ hw)
    have e : Str.join " " (a :: b :: l) = a ++ " " ++ Str.join " " (b :: l) := rfl
    have e1 : (" " : Str).length = 1 := by decide +kernel
    have s1 : (a :: b :: l).length = (b :: l).length + 1 := rfl
    rw [e]
    refine ⟨?_, cps_app (cps_app h1.2 cps_sp) i2, ?_⟩
    · rw [app_len, app_len, e1, s1, Nat.succ_mul]
      omega
    · rw [List.map_cons, List.sum_cons, s1, Nat.succ_mul]
      omega
theorem cut_map (ws : List Str) (lo hi : Option Int) : ∃ us : List Str, cutV (ws.map V.str) lo hi = us.map V.str ∧ us.length ≤ ws.length ∧ ∀ u ∈ us, u ∈ ws :=
  ⟨(ws.drop (HT.sIx (ws.map V.str).length 0 lo)).take (HT.sIx (ws.map V.str).length (ws.map V.str).length hi - HT.sIx (ws.map V.str).length 0 lo), by
    unfold cutV
    rw [List.map_take, List.map_drop], by
    rw [List.length_take, List.length_drop]
    omega, fun u hu => List.mem_of_mem_drop (List.mem_of_mem_take hu)⟩
theorem cut_two (xs : List V) {n : Int} (h : 0 ≤ n) : (cutV xs (some n) (some (n + 2))).length ≤ 2 := by
  unfold cutV HT.sIx
  have h1 : ¬ (n < 0) := by omega
  have h2 : ¬ (n + 2 < 0) := by omega
  simp only [if_neg h1, if_neg h2]
  rw [List.length_take, List.length_drop]
  omega
theorem cutS_cps {z : Str} {lo hi : Option Int} (h : cpsOk z) : cpsOk (cutS z lo hi) := fun c hc => h c (by
  have hc : c ∈ ((z.cps.toList.drop (HT.sIx z.length 0 lo)).take (HT.sIx z.length z.length hi - HT.sIx z.length 0 lo)).toArray.toList := hc
  exact List.mem_of_mem_drop (List.mem_of_mem_take hc))
def someW : List Str := ["whole", "from", "keep", "none", "0", "2", "3", "01", "1000000", "", "-1", "a", "999999", "None"]
def wOkB (m : Nat) (w : Str) : Bool := decide (w.length ≤ m) && w.cps.toList.all fun c => decide (c < 1114112)
theorem wOk_of {m : Nat} {w : Str} (h : wOkB m w = true) : w.length ≤ m ∧ cpsOk w := by
  rw [wOkB, Bool.and_eq_true, List.all_eq_true] at h
  exact ⟨of_decide_eq_true h.1, fun c hc => of_decide_eq_true (h.2 c hc)⟩
theorem some_ok : ∀ u ∈ someW, u.length ≤ 180 ∧ cpsOk u := fun u hu => wOk_of (List.all_eq_true.mp (show someW.all (wOkB 180) = true by decide +kernel) u hu)
def spPickS : Sp := fun vs H Q _ => ∃ (b : Addr) (z : Str), vs = [.ref b, .str z] ∧ BoxAt H b ∧ 1 ≤ z.length ∧ z.length < 1000 ∧ ∀ (c : Nat) (H' : Hp), c ∈ z.cps.toList → Bx b H H' → Q (.str ⟨#[c]⟩) H'
def spSpoilt : Sp := fun vs H Q _ => ∃ (b : Addr) (x : Str), vs = [.ref b, .str x] ∧ BoxAt H b ∧ x.length ≤ 180 ∧ cpsOk x ∧ ∀ (y : Str) (H' : Hp), y.length ≤ 90000 → cpsOk y → Bx b H H' → Q (.str y) H'
section
variable {K : PySem.W.Frag}
theorem ok_pickS (F : DefAt K mg "_law_pick" s_law_pick) (T : Txt K mg aGround aWord aInvWord aInvText aInvRow) (D_law_take : DefOk P w K mg base CX0 1 "_law_take" ["_law_box_here", "_law_many"] spTake) :
    DefOk P w K mg base CX0 2 "_law_pick" ["_law_box_here", "_law_items"] spPickS := by
  refine F.ok sc_law_pick (fun _ _ _ _ _ _ us hl => match us, hl with | [_, _], _ => rfl) (fun vs H Q E h => ?_) (fun f cdv A outer s H vs Q E hr h => ?_)
  · obtain ⟨b, z, rfl, _⟩ := h
    rfl
  · obtain ⟨b, z, rfl, hb, m1, m2, k⟩ := h
    refine ⟨_, (pss_one (ps_ret (pe_ix (ix_u K) (pv 1) (pe_callD D_law_take (hr.mono (by decide)) pass0 rfl (pa_cons (pv 0) (pa_cons (pe_callB (c_len K) (by rfl) T.n_len (by decide +kernel) (pa_cons (pv 1) pa_nil)) pa_nil))) (fun _ _ => rfl)))), ?_⟩
    have lz : z.cps.toList.length = z.length := Array.length_toList
    tm_at "go"
    refine r_lenS (sz (by omega)) ?_
    tm_at "go"
    refine r_take hb (by omega) (by omega) fun d H' d0 d1 hx => ?_
    obtain ⟨j, rfl⟩ : ∃ j : Nat, d = j := ⟨d.toNat, by omega⟩
    have hj : j < z.cps.toList.length := by omega
    exact r_ixS (sz (by omega)) (atI_nat (List.getElem?_eq_getElem hj)) (k _ _ (List.getElem_mem hj) hx)
theorem ok_law_spoilt (F : DefAt K mg "_law_spoilt" s_law_spoilt) (T : Txt K mg aGround aWord aInvWord aInvText aInvRow) (D_law_take : DefOk P w K mg base CX0 1 "_law_take" ["_law_box_here", "_law_many"] spTake) (D_law_pick : DefOk P w K mg base CX0 2 "_law_pick" ["_law_box_here", "_law_items"] (spPick K))
    (D_law_pickS : DefOk P w K mg base CX0 2 "_law_pick" ["_law_box_here", "_law_items"] spPickS) :
    DefOk P w K mg base CX0 3 "_law_spoilt" ["_law_box_here", "_law_line_here"] spSpoilt := by
  refine F.ok sc_law_spoilt (fun _ _ _ _ _ _ us hl => match us, hl with | [_, _], _ => rfl) (fun vs H Q E h => ?_) (fun f cdv A outer s H vs Q E hr h => ?_)
  · obtain ⟨b, x, rfl, _⟩ := h
    rfl
  · obtain ⟨b, x, rfl, hb, hz, hok, k⟩ := h
    refine ⟨_, (pss_cons (ps_par (i := 5) (j := 6) (by rfl) sc_law_spoilt.nd rfl rfl (by decide) rfl rfl (pa_cons (pe_splitK (pv 1) pe_str) (pa_cons (pe_callD D_law_take (hr.mono (by decide)) pass0 rfl (pa_cons (pv 0) (pa_cons pe_int pa_nil))) pa_nil)) (by rfl))
  (pss_cons (ps_set (i := 2) sc_law_spoilt.nd rfl (Or.inl rfl) (pe_callD D_law_take (hr.mono (by decide)) pass0 rfl (pa_cons (pv 0) (pa_cons (pe_op (o_add K) (pe_callB (c_len K) (by rfl) T.n_len (by decide +kernel) (pa_cons (pv 5) pa_nil)) pe_int) pa_nil))))
  (pss_cons (ps_set (i := 3) sc_law_spoilt.nd rfl (Or.inl rfl) (pe_lst (pa_cons pe_str (pa_cons pe_str (pa_cons pe_str (pa_cons pe_str (pa_cons pe_str (pa_cons pe_str (pa_cons pe_str (pa_cons pe_str (pa_cons pe_str (pa_cons pe_str (pa_cons pe_str (pa_cons pe_str (pa_cons pe_str (pa_cons pe_str pa_nil))))))))))))))))
  (pss_cons (ps_if (pt_cmpR (o_eq K hr.units) (pv 6) pe_int (nomark _)) (pss_one (ps_ret (pe_joinK K pe_str (pe_op (o_add K) (pe_slice (slL K) (pv 5) po_none (po_some (pv 2))) (pe_slice (slL K) (pv 5) (po_some (pe_op (o_add K) (pv 2) pe_int)) po_none)))))
  pss_nil)
  (pss_cons (ps_if (pt_cmpR o_lt (pv 6) pe_int (nomark _)) (pss_one (ps_ret (pe_joinK K pe_str (pe_op (o_add K) (pe_op (o_add K) (pe_slice (slL K) (pv 5) po_none (po_some (pv 2))) (pe_lst (pa_cons (pe_callD D_law_pick (hr.mono (by decide)) pass0 rfl (pa_cons (pv 0) (pa_cons (pv 3) pa_nil))) pa_nil))) (pe_slice (slL K) (pv 5) (po_some (pe_op o_sub (pe_op (o_add K) (pv 2) (pv 6)) pe_int)) po_none)))))
  pss_nil)
  (pss_cons (ps_if (pt_cmpR (o_eq K hr.units) (pv 6) pe_int (nomark _)) (pss_one (ps_ret (pe_joinK K pe_str (pe_op (o_add K) (pe_op (o_add K) (pe_slice (slL K) (pv 5) po_none (po_some (pv 2))) (pe_revK K (pe_slice (slL K) (pv 5) (po_some (pv 2)) (po_some (pe_op (o_add K) (pv 2) pe_int))))) (pe_slice (slL K) (pv 5) (po_some (pe_op (o_add K) (pv 2) pe_int)) po_none)))))
  pss_nil)
  (pss_cons (ps_set (i := 4) sc_law_spoilt.nd rfl (Or.inl rfl) (pe_callD D_law_take (hr.mono (by decide)) pass0 rfl (pa_cons (pv 0) (pa_cons (pe_op (o_add K) (pe_callB (c_len K) (by rfl) T.n_len (by decide +kernel) (pa_cons (pv 1) pa_nil)) pe_int) pa_nil))))
  (pss_one (ps_ret (pe_op (o_add K) (pe_op (o_add K) (pe_slice sl_str (pv 1) po_none (po_some (pv 4))) (pe_callD D_law_pickS (hr.mono (by decide)) pass0 rfl (pa_cons (pv 0) (pa_cons pe_str pa_nil)))) (pe_slice sl_str (pv 1) (po_some (pv 4)) po_none))))))))))), ?_⟩
    have gw : ∀ w ∈ Txt.split x " ", w.length ≤ 180 ∧ cpsOk w := fun w hw => ⟨Nat.le_trans (split_ok hw).1 hz, (split_ok hw).2 hok⟩
    have lw := split_len x
    have e1 : (" " : Str).length = 1 := by decide +kernel
    have fin : ∀ (us : List Str) (q : Addr) (H' : Hp), us.length ≤ 480 → (∀ w ∈ us, w.length ≤ 180 ∧ cpsOk w) → Bx b H H' → SqL K H' q (us.map V.str) → rJoin K (.str " ") [.ref q] H' Q := fun us q H' h1 h2 h3 h4 => by
      have z := join_bd h2
      have : us.length * 181 ≤ 480 * 181 := Nat.mul_le_mul_right _ h1
      have : us.length * 180 ≤ 480 * 180 := Nat.mul_le_mul_right _ h1
      refine r_join (.inl h4) (by rw [e1]; omega) (k _ _ ?_ ?_ h3)
      · rw [TL.join_eq]
        omega
      · rw [TL.join_eq]
        exact z.2.1
    tm_at "go"
    refine ⟨x, " ", rfl, rfl, by decide +kernel, sz (by omega), fun p hp => ?_⟩
    generalize Txt.split x " " = ws at gw lw ⊢
    tm_at "go"
    refine r_take (hb.upd hp) (by decide) (by decide) fun fm H1 f0 f1 hx1 => ?_
    have nb : p ≠ b := Ne.symm (hb.fresh hp)
    have hp1 : H1 p = some (.lst (ws.map V.str)) := hx1.keep p _ nb upd_same
    have hx1 := ((Bx.refl hb).upd hp).trans hx1
    tm_at "go"
    refine r_take hx1.box (by rw [List.length_map]; omega) (by rw [List.length_map]; omega) fun sp H2 s0 s1 hx2 => ?_
    have hp2 := hx2.keep p _ nb hp1
    have hx2 := hx1.trans hx2
    clear hp1 hx1
    tm_at "go"
    refine ⟨szl rfl, fun q hq => ?_⟩
    have hx3 := hx2.upd (o := .lst (someW.map V.str)) hq
    have hp3 := at_upd (u := .lst (someW.map V.str)) (ne_of_none hp2 hq) hp2
    have hq3 : upd H2 q (.lst (someW.map V.str)) q = some (.lst (someW.map V.str)) := upd_same
    have nq := Ne.symm (hx2.box.fresh hq)
    have eH : upd H2 q (.lst [.str "whole", .str "from", .str "keep", .str "none", .str "0", .str "2", .str "3", .str "01", .str "1000000", .str "", .str "-1", .str "a", .str "999999", .str "None"]) = upd H2 q (.lst (someW.map V.str)) := rfl
    rw [eH]
    clear eH
    generalize upd H2 q (.lst (someW.map V.str)) = H3 at hx3 hp3 hq3 ⊢
    clear hq hx2 hp2
    tm_at "go"
    refine r_eq rfl ?_
    tm_at "go"
    refine r_id (fun _ => ?_) (fun _ => ?_)
    · tm_at "go"
      refine r_slL (SqL.of hp3) fun q1 hq1 => ?_
      obtain ⟨u1, c1, l1, m1⟩ := cut_map ws none (some sp)
      rw [c1]
      tm_at "go"
      refine r_slL (SqL.of (by tm_at "hs")) fun q2 hq2 => ?_
      obtain ⟨u2, c2, l2, m2⟩ := cut_map ws (some (sp + 1)) none
      rw [c2]
      refine r_addL (by tm_at "hs") upd_same (sz (by rw [List.length_map, List.length_map]; omega)) fun q4 hq4 => ?_
      rw [← List.map_append]
      refine fin (u1 ++ u2) q4 _ (by rw [List.length_append]; omega) (fun w hw => (List.mem_append.mp hw).elim (fun z => gw w (m1 w z)) (fun z => gw w (m2 w z))) (((hx3.upd hq1).upd hq2).upd hq4) (SqL.of upd_same)
    tm_at "go"
    refine r_id (fun _ => ?_) (fun _ => ?_)
    · tm_at "go"
      refine r_slL (SqL.of hp3) fun q1 hq1 => ?_
      obtain ⟨u1, c1, l1, m1⟩ := cut_map ws none (some sp)
      rw [c1]
      have hx4 := hx3.upd (o := .lst (u1.map V.str)) hq1
      have hp4 := at_upd (u := .lst (u1.map V.str)) (ne_of_none hp3 hq1) hp3
      have hq4 := at_upd (u := .lst (u1.map V.str)) (ne_of_none hq3 hq1) hq3
      have h14 : upd H3 q1 (.lst (u1.map V.str)) q1 = some (.lst (u1.map V.str)) := upd_same
      have n1 := Ne.symm (hx3.box.fresh hq1)
      generalize upd H3 q1 (.lst (u1.map V.str)) = H4 at hx4 hp4 hq4 h14 ⊢
      clear hq1 c1 hp3 hq3 hx3
      tm_at "go"
      refine ⟨b, q, someW.map V.str, rfl, hx4.box, .inl (SqL.of hq4), nq, by decide, by decide, fun v H5 hv hx5 => ?_⟩
      obtain ⟨u, hu, rfl⟩ := List.mem_map.mp hv
      have gu := some_ok u hu
      have hp5 := hx5.keep p _ nb hp4
      have h15 := hx5.keep q1 _ n1 h14
      have hx5 := hx4.trans hx5
      clear hp4 hq4 h14 hx4 hv
      tm_at "go"
      refine ⟨szl rfl, fun q2 hq2 => ?_⟩
      refine r_addL (by tm_at "hs") upd_same (sz (by rw [List.length_map]; show _ + 1 ≤ _; omega)) fun q3 hq3 => ?_
      tm_at "go"
      refine r_slL (SqL.of (by tm_at "hs")) fun q4 hq4 => ?_
      obtain ⟨u2, c2, l2, m2⟩ := cut_map ws (some (sp + fm - 1)) none
      rw [c2]
      refine r_addL (by tm_at "hs") upd_same (sz (by rw [List.length_append, List.length_map, List.length_map]; show _ + 1 + _ ≤ _; omega)) fun q6 hq6 => ?_
      refine fin (u1 ++ [u] ++ u2) q6 _ (by rw [List.length_append, List.length_append]; show _ + 1 + _ ≤ _; omega) (fun w hw => ?_) ((((hx5.upd hq2).upd hq3).upd hq4).upd hq6) (SqL.of (by rw [upd_same, List.map_append, List.map_append]; rfl))
      rcases List.mem_append.mp hw with hw | hw
      · rcases List.mem_append.mp hw with hw | hw
        · exact gw w (m1 w hw)
        · rw [List.mem_singleton.mp hw]
          exact gu
      · exact gw w (m2 w hw)
    tm_at "go"
    refine r_eq rfl ?_
    tm_at "go"
    refine r_id (fun _ => ?_) (fun _ => ?_)
    · tm_at "go"
      refine r_slL (SqL.of hp3) fun q1 hq1 => ?_
      obtain ⟨u1, c1, l1, m1⟩ := cut_map ws none (some sp)
      rw [c1]
      tm_at "go"
      refine r_slL (SqL.of (by tm_at "hs")) fun q2 hq2 => ?_
      obtain ⟨u2, c2, l2, m2⟩ := cut_map ws (some sp) (some (sp + 2))
      rw [c2]
      refine r_rev (SqL.of upd_same) fun q3 hq3 => ?_
      rw [← List.map_reverse]
      refine r_addL (by tm_at "hs") upd_same (sz (by rw [List.length_map, List.length_map, List.length_reverse]; omega)) fun q4 hq4 => ?_
      tm_at "go"
      refine r_slL (SqL.of (by tm_at "hs")) fun q5 hq5 => ?_
      obtain ⟨u3, c3, l3, m3⟩ := cut_map ws (some (sp + 2)) none
      rw [c3]
      have l2' : u2.length ≤ 2 := by
        have z := cut_two (ws.map V.str) s0
        rw [c2, List.length_map] at z
        exact z
      refine r_addL (by tm_at "hs") upd_same (sz (by rw [List.length_append, List.length_map, List.length_map, List.length_map, List.length_reverse]; omega)) fun q6 hq6 => ?_
      refine fin (u1 ++ u2.reverse ++ u3) q6 _ (by rw [List.length_append, List.length_append, List.length_reverse]; omega) (fun w hw => ?_) ((((((hx3.upd hq1).upd hq2).upd hq3).upd hq4).upd hq5).upd hq6) (SqL.of (by rw [upd_same, List.map_append, List.map_append]))
      rcases List.mem_append.mp hw with hw | hw
      · rcases List.mem_append.mp hw with hw | hw
        · exact gw w (m1 w hw)
        · exact gw w (m2 w (List.mem_reverse.mp hw))
      · exact gw w (m3 w hw)
    tm_at "go"
    refine r_lenS (sz (by omega)) ?_
    tm_at "go"
    refine r_take hx3.box (by omega) (by omega) fun pl H4 p0 p1 hx4 => ?_
    have hx4 := hx3.trans hx4
    tm_at "go"
    refine ⟨x, rfl, sz (by omega), ?_⟩
    tm_at "go"
    refine ⟨b, _, rfl, hx4.box, by decide +kernel, by decide +kernel, fun c H5 hc hx5 => ?_⟩
    have hx5 := hx4.trans hx5
    have cc : c < 1114112 := by
      have e : (" 0a-." : Str).cps.toList = [32, 48, 97, 45, 46] := by decide +kernel
      rw [e] at hc
      simp only [List.mem_cons, List.not_mem_nil, or_false] at hc
      omega
    have c1 := cutS_length x none (some pl)
    have c2 := cutS_length x (some pl) none
    have lc : (⟨#[c]⟩ : Str).length = 1 := rfl
    tm_at "go"
    refine r_addS (by rw [lc]; exact sz (by omega)) ?_
    tm_at "go"
    refine ⟨x, rfl, sz (by omega), ?_⟩
    refine r_addS (by rw [app_len, lc]; exact sz (by omega)) ?_
    refine k _ _ (by rw [app_len, app_len, lc]; omega) (cps_app (cps_app (cutS_cps hok) fun d hd => ?_) (cutS_cps hok)) hx5
    rw [List.mem_singleton.mp hd]
    exact cc
end
/-! ### words compared, and their text -/
def optD : Option Nat → PyData
  | none => .none
  | some n => .int ((n : Nat) : Int)
abbrev partD (n : Nat) (b : Option (Nat × Nat)) (k : Option Nat) : PyData := .tuple [.int ((n : Nat) : Int), optD (b.map (·.1)), optD (b.map (·.2)), optD k]
theorem sh_opt {K : PySem.W.Frag} {H : Hp} {o : Option Nat} (h : ∀ n, o = some n → n < 10 ^ 38) : Sh K H (optI o) (optD o) 0 40 := by
  cases o with
  | none => exact sh_non.up (Nat.le_refl _) (by decide)
  | some n => exact sh_int (h n rfl)
theorem sh_part {K : PySem.W.Frag} {H : Hp} {t : Addr} {n : Nat} {b : Option (Nat × Nat)} {k : Option Nat} (ok : PartOk n b k) (ht : H t = some (.tup (partV n b k))) : Sh K H (.ref t) (partD n b k) 1 200 := by
  refine sh_tup (k := 0) (n := 40) (SqT.of ht) (.cons (sh_int (le38 ok.1)) (.cons (sh_opt fun m hm => ?_) (.cons (sh_opt fun m hm => ?_) (.cons (sh_opt fun m hm => ?_) .nil)))) (Nat.le_of_ble_eq_true rfl)
  · obtain ⟨⟨s, g⟩, e, rfl⟩ := Option.map_eq_some_iff.mp hm
    exact Nat.lt_of_lt_of_le (ok.2.1 s g e).1 (by decide)
  · obtain ⟨⟨s, g⟩, e, rfl⟩ := Option.map_eq_some_iff.mp hm
    exact le38 (ok.2.1 s g e).2
  · exact Nat.lt_of_lt_of_le (ok.2.2 m hm) (by decide)
theorem emp_app (a : Str) : Str.empty ++ a = a := TL.ext_tl (by rw [TL.tl_append]; rfl)
abbrev WordP (aWord : Addr) (H : Hp) (x : Addr) (n : Nat) (b : Option (Nat × Nat)) (k : Option Nat) : Prop := WordAt aWord H x (.int ((n : Nat) : Int)) (optI (b.map (·.1))) (optI (b.map (·.2))) (optI k)
def spEqW (K : PySem.W.Frag) (aWord : Addr) : Sp := fun vs H Q _ => (∃ (x y : Addr) (n n' : Nat) (b b' : Option (Nat × Nat)) (k k' : Option Nat), vs = [.ref x, .ref y] ∧ WordP aWord H x n b k ∧ WordP aWord H y n' b' k' ∧ PartOk n b k ∧ PartOk n' b' k' ∧
  ∀ H', Same H H' → Q (.bl (PyData.eqv (partD n b k) (partD n' b' k'))) H') ∨ ∃ (x : V) (v : V) (t : Value), vs = [x, v] ∧ TyX K H v t ∧ PySem.W.kitOne K t (.ref aWord) = some false ∧ Q (.bl false) H
def spStrW (aWord : Addr) : Sp := fun vs H Q _ => ∃ (x : Addr) (n : Nat) (b : Option (Nat × Nat)) (k : Option Nat), vs = [.ref x] ∧ WordP aWord H x n b k ∧ PartOk n b k ∧ Q (.str (lineOf n b k)) H
section
variable {K : PySem.W.Frag}
theorem ok_eqW (F : MetAt K aWord "__eq__" "Word.__eq__" s_Word__eq) (T : Txt K mg aGround aWord aInvWord aInvText aInvRow) : MetOk P w K mg base CX0 1 aWord "__eq__" ["self", "other"] (spEqW K aWord) := by
  refine F.ok sc_Word__eq (fun _ _ _ _ _ _ us hl => match us, hl with | [_, _], _ => rfl) (fun vs H Q E h => ?_) (fun f cdv A outer s H vs Q E hr h => ?_)
  · rcases h with ⟨x, y, n, n', b, b', k, k', rfl, _⟩ | ⟨x, v, t, rfl, _⟩ <;> rfl
  · refine ⟨_, (pss_cons (ps_if (pt_not (pt_tr K (pe_callB (c_isi K) (by rfl) T.n_isinstance (by decide +kernel) (pa_cons (pv 1) (pa_cons (pe_gR rfl T.m_Word) pa_nil))))) (pss_one (ps_ret pe_bl))
  pss_nil)
  (pss_cons (ps_set (i := 2) sc_Word__eq.nd rfl (Or.inl rfl) (pe_tup (pa_cons (pe_fl K (pv 0)) (pa_cons (pe_fl K (pv 0)) (pa_cons (pe_fl K (pv 0)) (pa_cons (pe_fl K (pv 0)) pa_nil))))))
  (pss_one (ps_ret (pe_cmpR (o_eq K hr.units) (pv 2) (pe_tup (pa_cons (pe_fl K (pv 1)) (pa_cons (pe_fl K (pv 1)) (pa_cons (pe_fl K (pv 1)) (pa_cons (pe_fl K (pv 1)) pa_nil))))) (nomark _)))))), ?_⟩
    rcases h with ⟨x, y, n, n', b, b', kk, kk', rfl, ⟨dx, hx⟩, ⟨dy, hy⟩, ok, ok', k⟩ | ⟨x, v, t, rfl, ty, kt, k⟩
    rotate_left
    · tm_at "go"
      refine r_isi (.own aWord) ty kt ?_
      tm_at "go"
      exact k
    tm_at "go"
    refine r_isi (.own aWord) (T.tyW _ _ _ _ hy) (if_pos (beq_self_eq_true _)) ?_
    tm_at "go"
    refine r_get hx T.clW T.nN (wordF_number ..) ?_
    tm_at "go"
    refine r_get hx T.clW T.nS (wordF_slot ..) ?_
    tm_at "go"
    refine r_get hx T.clW T.nG (wordF_ground ..) ?_
    tm_at "go"
    refine r_get hx T.clW T.nK (wordF_keep ..) ?_
    tm_at "go"
    refine ⟨szl rfl, fun t1 ht1 => ?_⟩
    have s1 : Same H (upd H t1 (.tup (partV n b kk))) := same_new ht1
    have hq1 : (upd H t1 (.tup (partV n b kk))) t1 = some (.tup (partV n b kk)) := upd_same
    rw [show upd H t1 (.tup [.int ((n : Nat) : Int), optI (b.map (·.1)), optI (b.map (·.2)), optI kk]) = upd H t1 (.tup (partV n b kk)) from rfl]
    generalize upd H t1 (.tup (partV n b kk)) = H1 at s1 hq1 ⊢
    have hy1 := s1 _ _ hy
    tm_at "go"
    refine r_get hy1 T.clW T.nN (wordF_number ..) ?_
    tm_at "go"
    refine r_get hy1 T.clW T.nS (wordF_slot ..) ?_
    tm_at "go"
    refine r_get hy1 T.clW T.nG (wordF_ground ..) ?_
    tm_at "go"
    refine r_get hy1 T.clW T.nK (wordF_keep ..) ?_
    tm_at "go"
    refine ⟨szl rfl, fun t2 ht2 => ?_⟩
    have s2 : Same H1 (upd H1 t2 (.tup (partV n' b' kk'))) := same_new ht2
    have hq2 : (upd H1 t2 (.tup (partV n' b' kk'))) t2 = some (.tup (partV n' b' kk')) := upd_same
    rw [show upd H1 t2 (.tup [.int ((n' : Nat) : Int), optI (b'.map (·.1)), optI (b'.map (·.2)), optI kk']) = upd H1 t2 (.tup (partV n' b' kk')) from rfl]
    generalize upd H1 t2 (.tup (partV n' b' kk')) = H2 at s2 hq2 ⊢
    have sA := s1.trans s2
    have d1 := sh_part (K := K) ok (s2 _ _ hq1)
    have d2 := sh_part (K := K) ok' hq2
    tm_at "go"
    exact r_eqD d1.dp d2.dp (d1.shaped (by decide)) (d2.shaped (by decide)) (k _ sA)
theorem ok_strW (F : MetAt K aWord "__str__" "Word.__str__" s_Word__str) (T : Txt K mg aGround aWord aInvWord aInvText aInvRow) : MetOk P w K mg base CX0 1 aWord "__str__" ["self"] (spStrW aWord) := by
  refine F.ok sc_Word__str (fun _ _ _ _ _ _ us hl => match us, hl with | [_], _ => rfl) (fun vs H Q E h => ?_) (fun f cdv A outer s H vs Q E hr h => ?_)
  · obtain ⟨x, n, b, k, rfl, _⟩ := h
    rfl
  · obtain ⟨x, n, b, k, rfl, ⟨dx, hx⟩, ok, q⟩ := h
    refine ⟨_, (pss_cons (ps_set (i := 1) sc_Word__str.nd rfl (Or.inl rfl) (pe_cut (pe_ifExp (pt_cmpR o_is (pe_fl K (pv 0)) pe_non (nomark _)) pe_str (pe_fs (.cons pe_str (.cons (pe_fmt (pe_fl K (pv 0))) (.cons pe_str (.cons (pe_fmt (pe_fl K (pv 0))) .nil))))))))
  (pss_one (ps_ret (pe_fs (.cons (pe_fmt (pe_fl K (pv 0))) (.cons pe_str (.cons (pe_fmt (pv 1)) (.cons pe_str (.cons (pe_fmt (pe_cut (pe_ifExp (pt_cmpR o_is (pe_fl K (pv 0)) pe_non (nomark _)) (pe_gS rfl T.m_NOWHERE) (pe_fl K (pv 0))))) .nil))))))))), ?_⟩
    have h1 := numS_len (le38 ok.1)
    have h2 := inner_len ok.2.1
    have h3 := keep_len ok.2.2
    have e0 : Str.empty.length = 0 := by decide +kernel
    have e1 : (" " : Str).length = 1 := by decide +kernel
    have e5 : ("from " : Str).length = 5 := by decide +kernel
    have e6 : (" keep " : Str).length = 6 := by decide +kernel
    tm_at "go"
    refine r_cutE (fun u H' => u = .str (innerS b) ∧ H' = H) ?_ ?_
    · tm_at "go"
      refine r_get hx T.clW T.nS (wordF_slot ..) ?_
      tm_at "go"
      cases b with
      | none =>
        refine r_Td rfl ?_
        tm_at "go"
        exact ⟨rfl, rfl⟩
      | some p =>
        obtain ⟨s, g⟩ := p
        have sg := ok.2.1 s g rfl
        have hs := numS_len (n := s) (Nat.lt_of_lt_of_le sg.1 (by decide))
        have hg := numS_len (le38 sg.2)
        refine r_Fd (fun z => nomatch z) ?_
        tm_at "go"
        refine r_jy (by rw [emp_app, e5]; exact sz (by decide)) ?_
        rw [emp_app]
        tm_at "go"
        refine r_get hx T.clW T.nS (wordF_slot ..) ?_
        refine r_fmI (numS_log (n := s) (Nat.lt_of_lt_of_le sg.1 (by decide))) ?_
        refine r_jy (by show ("from " ++ numS s).length ≤ _; rw [app_len, e5]; exact sz (by omega)) ?_
        tm_at "go"
        refine r_jy (by show ("from " ++ numS s ++ " ").length ≤ _; rw [app_len, app_len, e1, e5]; exact sz (by omega)) ?_
        tm_at "go"
        refine r_get hx T.clW T.nG (wordF_ground ..) ?_
        refine r_fmI (numS_log (le38 sg.2)) ?_
        refine r_jy (by show ("from " ++ numS s ++ " " ++ numS g).length ≤ _; rw [app_len, app_len, app_len, e1, e5]; exact sz (by omega)) ?_
        tm_at "go"
        exact ⟨rfl, rfl⟩
    rintro u H' ⟨rfl, rfl⟩
    tm_at "go"
    refine r_get hx T.clW T.nN (wordF_number ..) ?_
    refine r_fmI (numS_log (le38 ok.1)) ?_
    rw [show Str.ofString (toString ((n : Nat) : Int)) = numS n from rfl]
    refine r_jy (by rw [emp_app]; exact sz (by omega)) ?_
    rw [emp_app]
    tm_at "go"
    refine r_jy (by rw [app_len, e1]; exact sz (by omega)) ?_
    tm_at "go"
    refine r_fmS (sz (by omega)) ?_
    refine r_jy (by rw [app_len, app_len, e1]; exact sz (by omega)) ?_
    tm_at "go"
    refine r_jy (by rw [app_len, app_len, app_len, e1, e6]; exact sz (by omega)) ?_
    tm_at "go"
    refine r_cutE (fun u H'' => u = (match k with | none => .str "none" | some j => .int ((j : Nat) : Int)) ∧ H'' = H') ?_ ?_
    · tm_at "go"
      refine r_get hx T.clW T.nK (wordF_keep ..) ?_
      tm_at "go"
      cases k with
      | none =>
        refine r_Td rfl ?_
        tm_at "go"
        exact ⟨rfl, rfl⟩
      | some j =>
        refine r_Fd (fun z => nomatch z) ?_
        tm_at "go"
        exact r_get hx T.clW T.nK (wordF_keep ..) ⟨rfl, rfl⟩
    rintro u H'' ⟨rfl, rfl⟩
    have fin : tJs [] (numS n ++ " " ++ innerS b ++ " keep " ++ keepS k) [some (.ref x), some (.str (innerS b))] H'' fun out H1 => Q (.str out) H1 := r_js0 q
    have lf : (numS n ++ " " ++ innerS b ++ " keep " ++ keepS k).length ≤ sizeLine := by rw [app_len, app_len, app_len, app_len, e1, e6]; exact sz (by omega)
    cases k with
    | none => exact r_fmS (sz (by decide +kernel)) (r_jy lf fin)
    | some j => exact r_fmI (numS_log (n := j) (Nat.lt_of_lt_of_le (ok.2.2 j rfl) (by decide))) (r_jy lf fin)
end
/-! ### plain facts for the law -/
theorem dvf_lt : ∀ (l : List Nat) (a : Nat), PySem.NumText.AllDigits l → l.foldl (fun acc c => acc * 10 + (c - 48)) a < (a + 1) * 10 ^ l.length
  | [], a, _ => by
    show a < (a + 1) * 10 ^ 0
    omega
  | c :: l, a, h => by
    have ih := dvf_lt l (a * 10 + (c - 48)) fun d hd => h d (List.mem_cons_of_mem _ hd)
    have hc := h c (List.mem_cons_self ..)
    have hc : 48 ≤ c ∧ c ≤ 57 := by simpa using hc
    rw [List.foldl_cons, List.length_cons, Nat.pow_succ]
    refine Nat.lt_of_lt_of_le ih ?_
    have : a * 10 + (c - 48) + 1 ≤ (a + 1) * 10 := by omega
    have := Nat.mul_le_mul_right (10 ^ l.length) this
    rw [Nat.mul_assoc, Nat.mul_comm 10 (10 ^ l.length)] at this
    exact this
theorem numOf_lt {w : Str} {n : Nat} (h : numOf w = some n) : n < 10 ^ 20 := by
  unfold numOf at h
  split at h
  · rename_i g
    have h := Option.some.inj h
    have z := dvf_lt w.cps.toList 0 (all_dig g.2.1)
    have e : w.cps.toList.length = w.length := Array.length_toList
    rw [← h]
    refine Nat.lt_of_lt_of_le z ?_
    rw [Nat.zero_add, Nat.one_mul]
    exact Nat.pow_le_pow_right (by decide) (by omega)
  · exact nomatch h
theorem readW_ok {ws : List Str} {n : Nat} {b : Option (Nat × Nat)} {k : Option Nat} (h : readW ws = some (n, b, k)) : PartOk n b k := by
  unfold readW at h
  split at h
  · exact nomatch h
  obtain ⟨n', e1, h⟩ := Option.bind_eq_some_iff.mp h
  obtain ⟨k', e2, h⟩ := Option.bind_eq_some_iff.mp h
  have hk : ∀ j, k' = some j → j < 3 := fun j hj => by
    split at e2
    · cases e2
      exact nomatch hj
    · obtain ⟨m, e3, e4⟩ := Option.map_eq_some_iff.mp e2
      rw [← e4] at hj
      cases hj
      have := slot_le e3
      omega
  split at h
  · cases h
    exact ⟨numOf_lt e1, (fun s g z => nomatch z), hk⟩
  · unfold readT at h
    split at h
    · split at h
      · obtain ⟨s, e5, h⟩ := Option.bind_eq_some_iff.mp h
        obtain ⟨g, e6, h⟩ := Option.bind_eq_some_iff.mp h
        cases h
        refine ⟨numOf_lt e1, fun s' g' z => ?_, hk⟩
        cases z
        have := slot_le e5
        exact ⟨by omega, numOf_lt e6⟩
      · exact nomatch h
    · exact nomatch h
theorem cps_ofs (s : String) : cpsOk (Str.ofString s) := by
  intro c hc
  rw [PySem.Str.ofString_eq_toList] at hc
  have hc : c ∈ s.toList.map Char.toNat := by simpa using hc
  obtain ⟨d, _, rfl⟩ := List.mem_map.mp hc
  have := d.valid
  have e : d.toNat = d.val.toNat := rfl
  rcases this with h | h
  · have h : d.val.toNat < 55296 := h
    omega
  · have h := h.2
    have h : d.val.toNat < 1114112 := h
    omega
theorem cps_line (n : Nat) (b : Option (Nat × Nat)) (k : Option Nat) : cpsOk (lineOf n b k) := by
  have hi : cpsOk (innerS b) := by
    cases b with
    | none => exact cps_ofs _
    | some p =>
      obtain ⟨s, g⟩ := p
      exact cps_app (cps_app (cps_app (cps_ofs _) (cps_ofs _)) (cps_ofs _)) (cps_ofs _)
  have hk : cpsOk (keepS k) := by cases k <;> exact cps_ofs _
  exact cps_app (cps_app (cps_app (cps_app (cps_ofs _) (cps_ofs _)) hi) (cps_ofs _)) hk
theorem good_part {n : Nat} {b : Option (Nat × Nat)} {k : Option Nat} (ok : PartOk n b k) : goodW (.int ((n : Nat) : Int)) (optI (b.map (·.1))) (optI (b.map (·.2))) (optI k) = true := by
  have kg : (decide (optI k = .non) || fromV (optI k) 0 2) = true := by
    cases k with
    | none => rfl
    | some j =>
      have := ok.2.2 j rfl
      rw [show optI (some j) = V.int (j : Int) from rfl, fromV_le (show j ≤ 2 by omega), Bool.or_true]
  unfold goodW
  rw [numV_nat, kg]
  cases b with
  | none => rfl
  | some p =>
    obtain ⟨s, g⟩ := p
    have := ok.2.1 s g rfl
    rw [show optI ((some (s, g)).map (·.1)) = V.int (s : Int) from rfl, show optI ((some (s, g)).map (·.2)) = V.int (g : Int) from rfl, numV_nat, fromV_le (show s ≤ 2 by omega), Bool.and_self, Bool.or_true]
    rfl
theorem kd_opt {K : PySem.W.Frag} {H : Hp} (o : Option Nat) : Kd K H (optI o) := by
  cases o with
  | none => exact .non
  | some n => exact .int _
theorem r_word {K : PySem.W.Frag} {aWord aInvWord : Addr} {H : Hp} {Q : Addr → Hp → Prop} {E : XK} {n : Nat} {b : Option (Nat × Nat)} {k : Option Nat} (ok : PartOk n b k) (q : ∀ (x : Addr) (H' : Hp), Same H H' → H x = none → WordP aWord H' x n b k → Q x H') :
    ∀ x dx, H x = none → H dx = none → dx ≠ x → spWord K aWord aInvWord [.ref x, .int ((n : Nat) : Int), optI (b.map (·.1)), optI (b.map (·.2)), optI k] (upd (upd H dx (.own x)) x (.ins aWord dx [])) (fun v H2 => v = .non ∧ Q x H2) E := by
  intro x dx hx hdx hne
  have n2 : upd H dx (.own x) x = none := (upd_ne (Ne.symm hne)).trans hx
  refine ⟨x, dx, _, _, _, _, rfl, .int _, kd_opt _, kd_opt _, kd_opt _, upd_same, fun _ => ⟨rfl, ?_⟩, fun z => ?_⟩
  · rw [upd_upd]
    exact q x _ (Same.new (Same.new Same.refl hdx) n2) hx ⟨dx, upd_same⟩
  · rw [good_part ok] at z
    exact nomatch z
abbrev PT := Nat × Option (Nat × Nat) × Option Nat
abbrev PtOk (p : PT) : Prop := PartOk p.1 p.2.1 p.2.2
abbrev ptV (p : PT) : List V := partV p.1 p.2.1 p.2.2
abbrev ptD (p : PT) : PyData := partD p.1 p.2.1 p.2.2
/-- a list of tuples of parts -/
def Tups (H : Hp) (vs : List V) (ps : List PT) : Prop := vs.length = ps.length ∧ ∀ (i : Nat) (p : PT), ps[i]? = some p → PtOk p ∧ ∃ t : Addr, vs[i]? = some (V.ref t) ∧ H t = some (.tup (ptV p))
/-- a list of words -/
def Words (aWord : Addr) (H : Hp) (vs : List V) (ps : List PT) : Prop := vs.length = ps.length ∧ ∀ (i : Nat) (p : PT), ps[i]? = some p → PtOk p ∧ ∃ x : Addr, vs[i]? = some (V.ref x) ∧ WordP aWord H x p.1 p.2.1 p.2.2
theorem Tups.tk {H H' : Hp} {vs : List V} {ps : List PT} (s : Tk H H') (h : Tups H vs ps) : Tups H' vs ps := ⟨h.1, fun i p e => by
  obtain ⟨ok, t, h1, h2⟩ := h.2 i p e
  exact ⟨ok, t, h1, s _ _ h2⟩⟩
theorem Words.mono {aWord : Addr} {H H' : Hp} {vs : List V} {ps : List PT} (s : Same H H') (h : Words aWord H vs ps) : Words aWord H' vs ps := ⟨h.1, fun i p e => by
  obtain ⟨ok, t, h1, h2⟩ := h.2 i p e
  exact ⟨ok, t, h1, h2.mono s⟩⟩
theorem snoc_at {α β : Type} {R : α → β → Prop} {vs : List α} {ps : List β} {v : α} {p : β} (hl : vs.length = ps.length) (h : ∀ (i : Nat) (q : β), ps[i]? = some q → ∃ u, vs[i]? = some u ∧ R u q) (hv : R v p) :
    ∀ (i : Nat) (q : β), (ps ++ [p])[i]? = some q → ∃ u, (vs ++ [v])[i]? = some u ∧ R u q := by
  intro i q e
  by_cases c : i < ps.length
  · rw [List.getElem?_append_left c] at e
    rw [List.getElem?_append_left (by omega)]
    exact h i q e
  · rw [List.getElem?_append_right (by omega)] at e
    rw [List.getElem?_append_right (by omega), hl]
    generalize i - ps.length = j at e
    match j, e with
    | 0, e =>
      cases e
      exact ⟨v, rfl, hv⟩
theorem Tups.snoc {H : Hp} {vs : List V} {ps : List PT} {t : Addr} {p : PT} (h : Tups H vs ps) (ok : PtOk p) (ht : H t = some (.tup (ptV p))) : Tups H (vs ++ [.ref t]) (ps ++ [p]) := by
  refine ⟨by rw [List.length_append, List.length_append, h.1]; rfl, fun i q e => ?_⟩
  obtain ⟨u, e1, ok, t, rfl, e2⟩ := snoc_at (R := fun u q => PtOk q ∧ ∃ t, u = V.ref t ∧ H t = some (.tup (ptV q))) h.1 (fun i q e => by
    obtain ⟨ok, t, e1, e2⟩ := h.2 i q e
    exact ⟨_, e1, ok, t, rfl, e2⟩) ⟨ok, t, rfl, ht⟩ i q e
  exact ⟨ok, t, e1, e2⟩
theorem Words.snoc {aWord : Addr} {H : Hp} {vs : List V} {ps : List PT} {x : Addr} {p : PT} (h : Words aWord H vs ps) (ok : PtOk p) (hx : WordP aWord H x p.1 p.2.1 p.2.2) : Words aWord H (vs ++ [.ref x]) (ps ++ [p]) := by
  refine ⟨by rw [List.length_append, List.length_append, h.1]; rfl, fun i q e => ?_⟩
  obtain ⟨u, e1, ok, t, rfl, e2⟩ := snoc_at (R := fun u q => PtOk q ∧ ∃ t, u = V.ref t ∧ WordP aWord H t q.1 q.2.1 q.2.2) h.1 (fun i q e => by
    obtain ⟨ok, t, e1, e2⟩ := h.2 i q e
    exact ⟨_, e1, ok, t, rfl, e2⟩) ⟨ok, x, rfl, hx⟩ i q e
  exact ⟨ok, t, e1, e2⟩
theorem Tups.at {H : Hp} {vs : List V} {ps : List PT} {i : Nat} {y : V} (h : Tups H vs ps) (hy : vs[i]? = some y) : ∃ (p : PT) (t : Addr), ps[i]? = some p ∧ PtOk p ∧ y = V.ref t ∧ H t = some (.tup (ptV p)) := by
  have hi : i < ps.length := by rw [← h.1]; exact (List.getElem?_eq_some_iff.mp hy).1
  obtain ⟨ok, t, e1, e2⟩ := h.2 i _ (List.getElem?_eq_getElem hi)
  exact ⟨_, t, List.getElem?_eq_getElem hi, ok, Option.some.inj (hy.symm.trans e1), e2⟩
theorem Words.at {aWord : Addr} {H : Hp} {vs : List V} {ps : List PT} {i : Nat} {y : V} (h : Words aWord H vs ps) (hy : vs[i]? = some y) : ∃ (p : PT) (x : Addr), ps[i]? = some p ∧ PtOk p ∧ y = V.ref x ∧ WordP aWord H x p.1 p.2.1 p.2.2 := by
  have hi : i < ps.length := by rw [← h.1]; exact (List.getElem?_eq_some_iff.mp hy).1
  obtain ⟨ok, t, e1, e2⟩ := h.2 i _ (List.getElem?_eq_getElem hi)
  exact ⟨_, t, List.getElem?_eq_getElem hi, ok, Option.some.inj (hy.symm.trans e1), e2⟩
theorem dp_bls {K : PySem.W.Frag} {H : Hp} : ∀ l : List Bool, DpAll K H (l.map V.bl) (l.map PyData.bool)
  | [] => .nil
  | _ :: l => .cons (.bl _) (dp_bls l)
theorem eqv_bls : ∀ l : List Bool, PyData.eqv (.list (l.map PyData.bool)) (.list (l.map PyData.bool)) = true
  | [] => rfl
  | a :: l => by
    have ih : PyData.eqvAll (l.map PyData.bool) (l.map PyData.bool) = true := eqv_bls l
    show ((PyData.eqv (.bool a) (.bool a)) && PyData.eqvAll (l.map PyData.bool) (l.map PyData.bool)) = true
    rw [ih]
    cases a <;> rfl
theorem lay_bls : ∀ l : List Bool, PyData.canLayAll0 (l.map PyData.bool) = true
  | [] => rfl
  | a :: l => by
    show (true && PyData.canLayAll0 (l.map PyData.bool)) = true
    rw [lay_bls l]
    rfl
theorem dep_bls : ∀ l : List Bool, PyData.depthAll (l.map PyData.bool) = 0
  | [] => rfl
  | a :: l => by
    show max 0 (PyData.depthAll (l.map PyData.bool)) = 0
    rw [dep_bls l]
    rfl
theorem shp_bls (l : List Bool) : SeqAt.shaped (.list (l.map PyData.bool)) = true := by
  unfold SeqAt.shaped
  simp only [PyData.canLay0, PyData.depth, lay_bls, dep_bls]
  decide
theorem eqv_pt (p : PT) : PyData.eqv (ptD p) (ptD p) = true := by
  obtain ⟨n, b, k⟩ := p
  have h : ∀ o : Option Nat, PyData.eqv (optD o) (optD o) = true := fun o => by
    cases o with
    | none => rfl
    | some n => exact beq_self_eq_true (n : Int)
  show (((n : Int) == (n : Int)) && (PyData.eqv (optD (b.map (·.1))) (optD (b.map (·.1))) && (PyData.eqv (optD (b.map (·.2))) (optD (b.map (·.2))) && (PyData.eqv (optD k) (optD k) && true)))) = true
  rw [h, h, h, beq_self_eq_true]
  rfl
theorem neSelf (v : V) : (!decide (v = v)) = false := by rw [decide_eq_true rfl] <;> rfl
theorem rep_str {K : PySem.W.Frag} {H : Hp} {Q : VK} {x : Str} (h1 : x.length ≤ 1000) (h2 : cpsOk x) (q : Q (.str (PyData.shown (.str x))) H) : rRepr K [.str x] H Q := by
  have z := StrLaws.reprText_len x fun c hc => Nat.lt_trans (h2 c hc) (by decide)
  exact r_repr (.str x) rfl rfl (Nat.zero_le _) (by show (reprText x).length ≤ _; exact sz (by omega)) q
/-! ### the law -/
def spLaw (K : PySem.W.Frag) : Sp := fun vs H Q _ => ∃ (a : Addr) (ns : List Int), vs = [.ref a] ∧ SqL K H a (ns.map V.int) ∧ ns.length ≤ 63 ∧ ∀ H', Q (.bl true) H'
def oddB (v : V) : Bool := readW (wordsOf v) == none
theorem r_zip {K : PySem.W.Frag} {ta : TA} {σ : St} {H : Hp} {R : It → Hp → Prop} (k : ta σ H fun vs H1 => ∃ (a b : Addr) (xs ys : List V), vs = [.ref a, .ref b] ∧ SqL K H1 a xs ∧ SqL K H1 b ys ∧ R (Itz K a b) H1) : iZip K ta σ H R := k
theorem r_both {K : PySem.W.Frag} {σ : St} {H : Hp} {x : Str} (hv : σ[9]? = some (some (.str x))) (hl : x.length ≤ 90000) (hc : cpsOk x) :
    tTest (tOp (uNe K) (tCB (rRepr K) (tCons (tCall (spHeard7 K) [] E0 (tCons (tVar 9) tNil)) tNil)) (tCB (rRepr K) (tCons (tCall (spReadP K) [] E0 (tCons (tVar 9) tNil)) tNil))) σ H fun c H' => c = false ∧ Same H H' := by
  refine r_test (r_op (r_cb (r_cons (r_call (r_cons (r_var hv ?_))))))
  tm_at "go"
  refine ⟨.str x, rfl, .inl ⟨x, rfl, hl, hc⟩, fun e H1 s1 => ?_, fun n b k e t H1 s1 ht => ?_⟩
  · have e : readW (Txt.split x " ") = none := e
    tm_at "go"
    refine Sh.repr sh_non (by decide) (by decide) ?_
    refine r_cb (r_cons (r_call (r_cons (r_var hv ?_))))
    tm_at "go"
    refine ⟨x, rfl, hl, hc, fun _ H2 s2 => ?_, fun n b k e2 => ?_⟩
    · tm_at "go"
      refine Sh.repr sh_non (by decide) (by decide) ?_
      refine r_ne rfl ?_
      rw [neSelf]
      exact ⟨false, rfl, rfl, s1.trans s2⟩
    · rw [e] at e2
      exact nomatch e2
  · have e : readW (Txt.split x " ") = some (n, b, k) := e
    tm_at "go"
    refine Sh.repr (sh_part (readW_ok e) ht) (by decide) (by decide) ?_
    refine r_cb (r_cons (r_call (r_cons (r_var hv ?_))))
    tm_at "go"
    refine ⟨x, rfl, hl, hc, fun e2 H2 s2 => ?_, fun n' b' k' e2 t2 H2 s2 ht2 => ?_⟩
    · rw [e] at e2
      exact nomatch e2
    · rw [e] at e2
      cases e2
      tm_at "go"
      refine Sh.repr (sh_part (readW_ok e) ht2) (by decide) (by decide) ?_
      refine r_ne rfl ?_
      rw [neSelf]
      exact ⟨false, rfl, rfl, s1.trans s2⟩
section
variable {K : PySem.W.Frag}
theorem ok_law (F : DefAt K mg "law" s_law) (T : Txt K mg aGround aWord aInvWord aInvText aInvRow) (D_law_box : DefOk P w K mg base CX0 1 "_law_box" ["_law_script", "_law_k", "_law_own"] (spBox K)) (D_law_take : DefOk P w K mg base CX0 1 "_law_take" ["_law_box_here", "_law_many"] spTake)
    (D_law_parts : DefOk P w K mg base CX0 3 "_law_parts" ["_law_box_here", "_law_is_great"] spParts) (D_law_line : DefOk P w K mg base CX0 1 "_law_line" ["_law_parts_here"] spLine)
    (D_law_parts_of : DefOk P w K mg base CX0 1 "_law_parts_of" ["_law_word"] (spPartsOf aWord)) (D_law_heard : DefOk P w K mg base CX0 7 "_law_heard" ["_law_value"] (spHeard7 K)) (D_law_read_parts : DefOk P w K mg base CX0 2 "_law_read_parts" ["_law_line_here"] (spReadP K))
    (D_law_spoilt : DefOk P w K mg base CX0 3 "_law_spoilt" ["_law_box_here", "_law_line_here"] spSpoilt)
    (M_Word : MakeOk P w K mg base (L2.CX P w) 4 "Word" aWord ["self", "number", "slot", "ground", "keep"] [] (spWord K aWord aInvWord)) (M_Word_1 : MakeOk P w K mg base (L2.CX P w) 4 "Word" aWord ["self", "number", "slot", "ground", "keep"] [.non, .non, .non] (spWord K aWord aInvWord))
    (M_Word_3 : MakeOk P w K mg base (L2.CX P w) 4 "Word" aWord ["self", "number", "slot", "ground", "keep"] [.non] (spWord K aWord aInvWord))
    (M_Word__eq : MetOk P w K mg base CX0 1 aWord "__eq__" ["self", "other"] (spEqW K aWord)) (M_Word__str : MetOk P w K mg base CX0 1 aWord "__str__" ["self"] (spStrW aWord)) :
    DefG P w K mg base CX0 8 "law" ["_law_script"] (spLaw K) := by
  refine F.okG sc_law (fun _ _ _ _ _ _ us hl => match us, hl with | [_], _ => rfl) (fun vs H Q E h => ?_) (fun f cdv A outer s H vs Q E hgd hr h => ?_)
  · obtain ⟨a, ns, rfl, _⟩ := h
    rfl
  · obtain ⟨a, ns, rfl, hS, nl, k⟩ := h
    refine ⟨_, (pss_cons (ps_for PassesOwn.never rfl (pi_range1 (by rfl) T.n_range (pa_cons (pe_callB (c_max2 rfl) (by rfl) T.n_max (by decide +kernel) (pa_cons pe_int (pa_cons (pe_callB (c_min2 rfl) (by rfl) T.n_min (by decide +kernel) (pa_cons pe_int (pa_cons (pe_callB (c_len K) (by rfl) T.n_len (by decide +kernel) (pa_cons (pv 0) pa_nil)) pa_nil))) pa_nil))) pa_nil)) (pg_name (i := 1) sc_law.nd rfl (Or.inl rfl))
  (pss_cons (ps_set (i := 2) sc_law.nd rfl (Or.inr rfl) (pe_callD D_law_box (hr.mono (by decide)) pass0 rfl (pa_cons (pv 0) (pa_cons (pv 1) (pa_cons pe_int pa_nil)))))
  (pss_cons (ps_setLc (i := 3) rfl sc_law.nd rfl rfl (sw_true rfl rfl rfl (by decide +kernel)) (own := [("_law_turn", 5)]) (g := (gName 5)) (pi_range1 (by rfl) T.n_range (pa_cons pe_int pa_nil)) (blkOk_by (own := [("_law_turn", 5)]) (N := ["_law_script", "_law_k", "_law_box_here", "_law_parts_here", "_law_made", "_law_turn", "_law_value", "_law_word", "_law_one", "_law_line_here", "_law_other", "_law_its"]) (sc := defScope s_law) (by decide +kernel)) (fun _ _ _ _ _ => (pg_name (i := 5) sc_law.nd rfl (Or.inl rfl) (Or.inr rfl))) (fun _ _ _ _ _ => pts_nil) (fun _ _ _ _ _ => (pe_callD D_law_parts (hr.mono (by decide)) pass0 rfl (pa_cons (pv 2) (pa_cons pe_bl pa_nil)))))
  (pss_cons (ps_expr (pe_bm PySem.F.plainAttrs_list PySem.F.slot_list_append PySem.F.type_list_append mt_append (pv 3) (pa_cons (pe_ix (ix_u K) (pv 3) (pe_callD D_law_take (hr.mono (by decide)) pass0 rfl (pa_cons (pv 2) (pa_cons pe_int pa_nil))) (fun _ _ => rfl)) pa_nil)))
  (pss_cons (ps_setLc (i := 4) rfl sc_law.nd rfl rfl (sw_true rfl rfl rfl (by decide +kernel)) (own := [("_law_one", 8)]) (g := (gName 8)) (pi_l K (pv 3)) (blkOk_by (own := [("_law_one", 8)]) (N := ["_law_script", "_law_k", "_law_box_here", "_law_parts_here", "_law_made", "_law_turn", "_law_value", "_law_word", "_law_one", "_law_line_here", "_law_other", "_law_its"]) (sc := defScope s_law) (by decide +kernel)) (fun _ _ _ _ _ => (pg_name (i := 8) sc_law.nd rfl (Or.inl rfl) (Or.inr rfl))) (fun _ _ _ _ _ => pts_nil) (fun _ _ _ _ _ => (pe_makeD M_Word (hr.mono (by decide)) passF rfl (pa_cons (pe_ix (ix_u K) (pv 8) pe_int (fun _ _ => rfl)) (pa_cons (pe_ix (ix_u K) (pv 8) pe_int (fun _ _ => rfl)) (pa_cons (pe_ix (ix_u K) (pv 8) pe_int (fun _ _ => rfl)) (pa_cons (pe_ix (ix_u K) (pv 8) pe_int (fun _ _ => rfl)) pa_nil)))))))
  (pss_cons (ps_for PassesOwn.never rfl (pi_zip (by rfl) T.n_zip (pa_cons (pv 4) (pa_cons (pv 3) pa_nil))) (pg_t (n := 2) K rfl (pgs_cons (pg_name (i := 7) sc_law.nd rfl (Or.inr rfl)) (pgs_cons (pg_name (i := 8) sc_law.nd rfl (Or.inr rfl)) pgs_nil)))
  (pss_cons (ps_if (PW.pt (pw_or (pt_cmpR (o_ne K hr.units) (pe_callB (c_repr K hgd hr.units) (by rfl) T.n_repr (by decide +kernel) (pa_cons (pe_callD D_law_parts_of (hr.mono (by decide)) pass0 rfl (pa_cons (pv 7) pa_nil)) pa_nil)) (pe_callB (c_repr K hgd hr.units) (by rfl) T.n_repr (by decide +kernel) (pa_cons (pv 8) pa_nil)) (nomark _)) (pw_or1 (pt_cmpR (o_ne K hr.units) (pe_callB (c_repr K hgd hr.units) (by rfl) T.n_repr (by decide +kernel) (pa_cons (pe_callTy (c_strOwn M_Word__str hr.units (hr.mono (by decide))) (by rfl) T.n_str (by decide +kernel) (pa_cons (pv 7) pa_nil)) pa_nil)) (pe_callB (c_repr K hgd hr.units) (by rfl) T.n_repr (by decide +kernel) (pa_cons (pe_callD D_law_line (hr.mono (by decide)) pass0 rfl (pa_cons (pv 8) pa_nil)) pa_nil)) (nomark _))))) (pss_one (ps_ret pe_bl))
  pss_nil)
  (pss_cons (ps_if (PW.pt (pw_or (pt_cmpR (o_cmpAny M_Word__eq K (hu0_of hr) (hr.mono (by decide)) pass0) (pv 7) (pe_callTy (c_strOwn M_Word__str hr.units (hr.mono (by decide))) (by rfl) T.n_str (by decide +kernel) (pa_cons (pv 7) pa_nil)) (nomark _)) (pw_or1 (pt_cmpR (o_cmpAny M_Word__eq K (hu0_of hr) (hr.mono (by decide)) pass0) (pv 7) (pv 8) (nomark _))))) (pss_one (ps_ret pe_bl))
  pss_nil)
  (pss_cons (ps_if (pt_cmpR (o_ne K hr.units) (pe_lc (own := [("_law_other", 10)]) (g := (gName 10)) rfl sc_law.nd (pi_l K (pv 4)) (blkOk_by (own := [("_law_other", 10)]) (N := ["_law_script", "_law_k", "_law_box_here", "_law_parts_here", "_law_made", "_law_turn", "_law_value", "_law_word", "_law_one", "_law_line_here", "_law_other", "_law_its"]) (sc := defScope s_law) (by decide +kernel)) (fun _ _ _ _ _ => (pg_name (i := 10) sc_law.nd rfl (Or.inl rfl) (Or.inr rfl))) (fun _ _ _ _ _ => pts_nil) (fun _ _ _ _ _ => (pe_cmpR (o_cmpAny M_Word__eq K (hu0_of hr) (hr.mono (by decide)) pass0) (pv 7) (pv 10) (nomark _)))) (pe_lc (own := [("_law_its", 11)]) (g := (gName 11)) rfl sc_law.nd (pi_l K (pv 3)) (blkOk_by (own := [("_law_its", 11)]) (N := ["_law_script", "_law_k", "_law_box_here", "_law_parts_here", "_law_made", "_law_turn", "_law_value", "_law_word", "_law_one", "_law_line_here", "_law_other", "_law_its"]) (sc := defScope s_law) (by decide +kernel)) (fun _ _ _ _ _ => (pg_name (i := 11) sc_law.nd rfl (Or.inl rfl) (Or.inr rfl))) (fun _ _ _ _ _ => pts_nil) (fun _ _ _ _ _ => (pe_cmpR (o_eq K hr.units) (pv 8) (pv 11) (nomark _)))) (nomark _)) (pss_one (ps_ret pe_bl))
  pss_nil)
  (pss_one (ps_if (pt_cmpR (o_ne K hr.units) (pe_lc (own := [("_law_other", 10)]) (g := (gName 10)) rfl sc_law.nd (pi_l K (pv 4)) (blkOk_by (own := [("_law_other", 10)]) (N := ["_law_script", "_law_k", "_law_box_here", "_law_parts_here", "_law_made", "_law_turn", "_law_value", "_law_word", "_law_one", "_law_line_here", "_law_other", "_law_its"]) (sc := defScope s_law) (by decide +kernel)) (fun _ _ _ _ _ => (pg_name (i := 10) sc_law.nd rfl (Or.inl rfl) (Or.inr rfl))) (fun _ _ _ _ _ => pts_nil) (fun _ _ _ _ _ => (pe_cmpR (o_neOwn M_Word__eq T.ne_Word T.ob_Word hr.units (hr.mono (by decide))) (pv 7) (pv 10) (nomark _)))) (pe_lc (own := [("_law_its", 11)]) (g := (gName 11)) rfl sc_law.nd (pi_l K (pv 3)) (blkOk_by (own := [("_law_its", 11)]) (N := ["_law_script", "_law_k", "_law_box_here", "_law_parts_here", "_law_made", "_law_turn", "_law_value", "_law_word", "_law_one", "_law_line_here", "_law_other", "_law_its"]) (sc := defScope s_law) (by decide +kernel)) (fun _ _ _ _ _ => (pg_name (i := 11) sc_law.nd rfl (Or.inl rfl) (Or.inr rfl))) (fun _ _ _ _ _ => pts_nil) (fun _ _ _ _ _ => (pe_cmpR (o_ne K hr.units) (pv 8) (pv 11) (nomark _)))) (nomark _)) (pss_one (ps_ret pe_bl))
  pss_nil))))))
  (pss_cons (ps_for PassesOwn.never rfl (pi_range1 (by rfl) T.n_range (pa_cons pe_int pa_nil)) (pg_name (i := 5) sc_law.nd rfl (Or.inl rfl))
  (pss_cons (ps_set (i := 9) sc_law.nd rfl (Or.inl rfl) (pe_callD D_law_line (hr.mono (by decide)) pass0 rfl (pa_cons (pe_callD D_law_parts (hr.mono (by decide)) pass0 rfl (pa_cons (pv 2) (pa_cons pe_bl pa_nil))) pa_nil)))
  (pss_cons (ps_if (pt_cut (pt_cmpR (o_ne K hr.units) (pe_callB (c_repr K hgd hr.units) (by rfl) T.n_repr (by decide +kernel) (pa_cons (pe_callD D_law_heard (hr.mono (by decide)) pass0 rfl (pa_cons (pv 9) pa_nil)) pa_nil)) (pe_callB (c_repr K hgd hr.units) (by rfl) T.n_repr (by decide +kernel) (pa_cons (pe_callD D_law_read_parts (hr.mono (by decide)) pass0 rfl (pa_cons (pv 9) pa_nil)) pa_nil)) (nomark _))) (pss_one (ps_ret pe_bl))
  pss_nil)
  (pss_cons (ps_set (i := 9) sc_law.nd rfl (Or.inl rfl) (pe_callD D_law_spoilt (hr.mono (by decide)) pass0 rfl (pa_cons (pv 2) (pa_cons (pv 9) pa_nil))))
  (pss_one (ps_if (pt_cut (pt_cmpR (o_ne K hr.units) (pe_callB (c_repr K hgd hr.units) (by rfl) T.n_repr (by decide +kernel) (pa_cons (pe_callD D_law_heard (hr.mono (by decide)) pass0 rfl (pa_cons (pv 9) pa_nil)) pa_nil)) (pe_callB (c_repr K hgd hr.units) (by rfl) T.n_repr (by decide +kernel) (pa_cons (pe_callD D_law_read_parts (hr.mono (by decide)) pass0 rfl (pa_cons (pv 9) pa_nil)) pa_nil)) (nomark _))) (pss_one (ps_ret pe_bl))
  pss_nil))))))
  (pss_one (ps_for PassesOwn.never rfl (pi_t K (pe_tup (pa_cons pe_non (pa_cons pe_int (pa_cons pe_bl (pa_cons pe_str (pa_cons pe_str (pa_cons (pe_lst (pa_cons pe_str pa_nil)) (pa_cons (pe_tup (pa_cons pe_str (pa_cons pe_str pa_nil))) (pa_cons pe_str pa_nil)))))))))) (pg_name (i := 6) sc_law.nd rfl (Or.inl rfl))
  (pss_one (ps_if (pt_cmpR o_isNot (pe_callD D_law_heard (hr.mono (by decide)) pass0 rfl (pa_cons (pv 6) pa_nil)) pe_non (nomark _)) (pss_one (ps_ret pe_bl))
  pss_nil)))))))))))
  (pss_cons (ps_if (PW.pt (pw_or (pt_cmpR (o_ne K hr.units) (pe_callD D_law_parts_of (hr.mono (by decide)) pass0 rfl (pa_cons (pe_makeD M_Word_1 (hr.mono (by decide)) passF rfl (pa_cons pe_int pa_nil)) pa_nil)) (pe_tup (pa_cons pe_int (pa_cons pe_non (pa_cons pe_non (pa_cons pe_non pa_nil))))) (nomark _)) (pw_or1 (pt_cmpR (o_ne K hr.units) (pe_callD D_law_parts_of (hr.mono (by decide)) pass0 rfl (pa_cons (pe_makeD M_Word_3 (hr.mono (by decide)) passF rfl (pa_cons pe_int (pa_cons pe_int (pa_cons pe_int pa_nil)))) pa_nil)) (pe_tup (pa_cons pe_int (pa_cons pe_int (pa_cons pe_int (pa_cons pe_non pa_nil))))) (nomark _))))) (pss_one (ps_ret pe_bl))
  pss_nil)
  (pss_one (ps_ret (pe_and (pe_cmpR (o_cmpAny M_Word__eq K (hu0_of hr) (hr.mono (by decide)) pass0) (pe_makeD M_Word_1 (hr.mono (by decide)) passF rfl (pa_cons pe_int pa_nil)) (pe_makeD M_Word_3 (hr.mono (by decide)) passF rfl (pa_cons pe_int (pa_cons pe_non (pa_cons pe_non pa_nil)))) (nomark _)) (pe_one (pe_cmpR (o_eq K hr.units) (pe_callTy (c_strOwn M_Word__str hr.units (hr.mono (by decide))) (by rfl) T.n_str (by decide +kernel) (pa_cons (pe_makeD M_Word_1 (hr.mono (by decide)) passF rfl (pa_cons pe_int pa_nil)) pa_nil)) pe_str (nomark _)))))))), ?_⟩
    tm_at "go"
    refine ⟨_, rfl, by split <;> split <;> omega, by split <;> split <;> omega, for_range (lo := 0) (n := _)
      (fun i σ H' => (∃ o1 o2 o3 o4 o5 o6 o7 o8 o9 o10 o11 : Option V, σ = [some (.ref a), o1, o2, o3, o4, o5, o6, o7, o8, o9, o10, o11]) ∧ Same H H') ⟨⟨_, _, _, _, _, _, _, _, _, _, _, rfl⟩, Same.refl⟩ ?_ ?_⟩
    · rintro i σ H0 hi ⟨⟨o1, o2, o3, o4, o5, o6, o7, o8, o9, o10, o11, rfl⟩, sm0⟩
      have hi4 : i < 64 := by
        have : (if (if (↑(List.map V.int ns).length : Int) < 4 then (↑(List.map V.int ns).length : Int) else 4) > 1 then
              if (↑(List.map V.int ns).length : Int) < 4 then (↑(List.map V.int ns).length : Int) else 4 else 1) ≤ 4 := by split <;> split <;> omega
        omega
      tm_at "go"
      refine ⟨a, ns, _, 73, rfl, Same.seqL sm0 hS, by omega, by omega, by decide, by decide, by omega, fun b H1 hb0 hx1 => ?_⟩
      have hb : H b = Option.none := Same.free sm0 hb0
      have sm1 := Same.bx sm0 hx1 hb
      have bx1 := hx1.box
      clear hx1 hb0 sm0
      tm_at "go"
      refine ⟨_, rfl, by decide, by decide, fun D hD => ?_⟩
      have nD : D ≠ b := Ne.symm (bx1.fresh hD)
      have hD0 : H D = Option.none := Same.free sm1 hD
      refine lc_range (fun j H' => Same H H' ∧ BoxAt H' b ∧ ∃ vs ps, H' D = some (.lst vs) ∧ vs.length = j ∧ Tups H' vs ps) ⟨Same.new sm1 hD, bx1.upd hD, [], [], upd_same, rfl, rfl, fun i p z => nomatch z⟩ ?_ ?_
      · rintro j H2 hj ⟨sm2, bx2, vs, ps, hl, hv, tu⟩
        tm_at "go"
        refine ⟨rfl, ?_⟩
        tm_at "go"
        refine ⟨b, true, rfl, bx2, fun n bb kk ok t H3 hx3 ht => ?_⟩
        have hl3 := hx3.keep _ _ nD hl
        have tu3 := tu.tk (hx3.tk bx2)
        refine ⟨vs, at_upd (ne_of_none hl3 ht) hl3, szlt (Nat.ble_eq_true_of_le (by have : j < 4 := hj; omega)), ?_⟩
        have sm3 := Same.updF (o := .lst (vs ++ [.ref t])) (Same.new (o := .tup (partV n bb kk)) (Same.bx sm2 hx3 hb) ht) hD0
        have tk3 : Tk H3 (upd (upd H3 t (.tup (partV n bb kk))) D (.lst (vs ++ [.ref t]))) := Tk.setL (Tk.new Tk.refl ht) (at_upd (ne_of_none hl3 ht) hl3)
        refine ⟨sm3, BoxAt.at (hx3.box.upd ht) (Ne.symm nD), vs ++ [.ref t], ps ++ [(n, bb, kk)], upd_same, by rw [List.length_append, hv]; rfl, (tu3.tk tk3).snoc ok (at_upd (Ne.symm (ne_of_none hl3 ht)) upd_same)⟩
      rintro H2 ⟨sm2, bx2, vs, ps, hl, hv, tu⟩
      have hv : vs.length = 4 := hv
      clear sm1 bx1 hD
      tm_at "go"
      refine ⟨.inl ⟨rfl, _, SqL.of hl⟩, ?_⟩
      tm_at "go"
      refine r_take bx2 (by decide) (by decide) fun d H3 d0 d1 hx3 => ?_
      obtain ⟨d, rfl⟩ : ∃ j : Nat, d = j := ⟨d.toNat, by omega⟩
      have hd : d < vs.length := by omega
      have hl3 := hx3.keep _ _ nD hl
      have tu3 := tu.tk (hx3.tk bx2)
      obtain ⟨p0, t0, hp0, ok0, et0, ht0⟩ := tu3.at (List.getElem?_eq_getElem hd)
      tm_at "go"
      refine r_ixL (SqL.of hl3) (atI_nat (List.getElem?_eq_getElem hd)) ?_
      rw [et0]
      tm_at "go"
      refine r_append hl3 (szlt (Nat.ble_eq_true_of_le (by omega))) ?_
      have sm4 := Same.updF (o := .lst (vs ++ [.ref t0])) (Same.bx sm2 hx3 hb) hD0
      have bx4 := BoxAt.at (o := .lst (vs ++ [.ref t0])) hx3.box (Ne.symm nD)
      have tk4 : Tk H3 (upd H3 D (.lst (vs ++ [.ref t0]))) := Tk.setL Tk.refl hl3
      have tu4 := (tu3.tk tk4).snoc ok0 (tk4 _ _ ht0)
      have hl4 : upd H3 D (.lst (vs ++ [.ref t0])) D = some (.lst (vs ++ [.ref t0])) := upd_same
      have hv4 : (vs ++ [V.ref t0]).length = 5 := by rw [List.length_append, hv]; rfl
      generalize upd H3 D (.lst (vs ++ [.ref t0])) = H4 at sm4 bx4 tu4 hl4 ⊢
      generalize vs ++ [V.ref t0] = us at tu4 hl4 hv4
      generalize ps ++ [p0] = ps at tu4
      clear hx3 hl3 tu3 tk4 hl tu sm2 bx2 hp0 ok0 et0 ht0 hd d0 d1 hv
      have hps : ps.length = 5 := by rw [← tu4.1, hv4]
      tm_at "go"
      refine ⟨D, rfl, ⟨_, SqL.of hl4⟩, fun D2 hD2 => ?_⟩
      refine lc_it (walk_list (xs := us)) (fun j H' => Same H4 H' ∧ ∃ ws, H' D2 = some (.lst ws) ∧ Words aWord H' ws (ps.take j)) ⟨same_new hD2, [], upd_same, rfl, fun i p z => nomatch z⟩ (fun j H' _ p => SqL.of (p.1 _ _ hl4)) ?_ ?_
      · rintro j y H5 H6 hj ⟨sm5, ws, hw, wo⟩ ⟨rfl, hy⟩
        obtain ⟨p, t, hp, ok, rfl, ht⟩ := (tu4.tk (Same.tk sm5)).at hy
        have hST : SqT K H6 t [.int ((p.1 : Nat) : Int), optI (p.2.1.map (·.1)), optI (p.2.1.map (·.2)), optI p.2.2] := SqT.of ht
        tm_at "go"
        refine ⟨rfl, ?_⟩
        tm_at "go"
        refine r_word (Q := fun x H' => ∃ acc, H' D2 = some (.lst acc) ∧ acc.length < sizeLine ∧ _) ok fun x H7 sm7 hx0 hx => ?_
        have hw7 := sm7 _ _ hw
        have nx : x ≠ D2 := Ne.symm (ne_of_none hw hx0)
        have wl : ws.length ≤ 5 := by rw [wo.1, List.length_take]; omega
        refine ⟨ws, hw7, szlt (Nat.ble_eq_true_of_le (by omega)), Same.updF (sm5.trans sm7) hD2, ws ++ [.ref x], upd_same, ?_⟩
        rw [take_succ hp]
        refine Words.snoc ⟨wo.1, fun i q e => ?_⟩ ok ?_
        · obtain ⟨ok, z, e1, dz, e2⟩ := wo.2 i q e
          have nz : z ≠ D2 := ne_kind e2 hw fun z => nomatch z
          exact ⟨ok, z, e1, dz, at_upd nz (sm7 _ _ e2)⟩
        · obtain ⟨dx, hx⟩ := hx
          exact ⟨dx, at_upd nx hx⟩
      rintro H5 ⟨sm5, ws, hw, wo⟩
      rw [List.take_of_length_le (Nat.le_of_eq (hps.trans hv4.symm))] at wo
      have hl5 := sm5 _ _ hl4
      have tu5 := tu4.tk (Same.tk sm5)
      have sm5 := sm4.trans sm5
      have bx5 := bx4.same ‹Same H4 H5›
      clear hD2 sm4 bx4 hl4 tu4
      have hws : ws.length = 5 := by rw [wo.1, hps]
      tm_at "go"
      refine r_zip ?_
      tm_at "go"
      refine ⟨D2, D, ws, us, rfl, SqL.of hw, SqL.of hl5, ?_⟩
      refine for_it (walk_zip (xs := ws) (ys := us) (n := 5) (by rw [hws, hv4]; rfl)) (fun j σ H' => (∃ o5 o6 o7 o8 o9 o10 o11 : Option V, σ = [some (.ref a), some (.int (0 + (i : Int))), some (.ref b), some (.ref D), some (.ref D2), o5, o6, o7, o8, o9, o10, o11]) ∧ Same H5 H') ⟨⟨_, _, _, _, _, _, _, rfl⟩, Same.refl⟩ (fun j σ H' _ p => ⟨SqL.of (p.2 _ _ hw), SqL.of (p.2 _ _ hl5)⟩) ?_ ?_
      · clear o5 o6 o7 o8 o9 o10 o11
        rintro j y σ H6 H7 hj ⟨⟨o5, o6, o7, o8, o9, o10, o11, rfl⟩, sm6⟩ ⟨t9, v1, v2, rfl, ht9, rfl, hv1, hv2⟩
        obtain ⟨p, x, hp, ok, rfl, hx⟩ := (wo.mono sm6).at hv1
        obtain ⟨p', t, hp', _, rfl, ht⟩ := (tu5.tk (Same.tk sm6)).at hv2
        obtain rfl : p = p' := Option.some.inj (hp.symm.trans hp')
        have sm7 := Same.new (o := .tup [.ref x, .ref t]) sm6 ht9
        have hx := hx.mono (Same.new (o := .tup [V.ref x, .ref t]) Same.refl ht9)
        have ht := at_upd (u := .tup [V.ref x, .ref t]) (ne_of_none ht ht9) ht
        refine r_gT (SqT.of upd_same) rfl ?_
        generalize upd H6 t9 (.tup [V.ref x, .ref t]) = H7 at sm7 hx ht ⊢
        clear sm6 ht9 hp'
        tm_at "go"
        refine ⟨x, _, _, _, _, rfl, hx, fun t2 H8 sm8 ht2 => ?_⟩
        tm_at "go"
        refine Sh.repr (sh_part ok ht2) (by decide) (by decide) ?_
        tm_at "go"
        refine Sh.repr (sh_part ok (sm8 _ _ ht)) (by decide) (by decide) ?_
        refine r_ne rfl ?_
        rw [neSelf]
        tm_at "go"
        obtain ⟨dx, hx8⟩ := hx.mono sm8
        refine r_strOwn hx8 ⟨x, p.1, p.2.1, p.2.2, rfl, ⟨dx, hx8⟩, ok, _, rfl, ?_⟩
        tm_at "go"
        refine rep_str (Nat.le_trans (line_len ok) (by decide)) (cps_line _ _ _) ?_
        tm_at "go"
        refine ⟨t, p.1, p.2.1, p.2.2, rfl, sm8 _ _ ht, ok, ?_⟩
        tm_at "go"
        refine rep_str (Nat.le_trans (line_len ok) (by decide)) (cps_line _ _ _) ?_
        refine r_ne rfl ?_
        rw [neSelf]
        tm_at "go"
        refine r_strOwn hx8 ⟨x, p.1, p.2.1, p.2.2, rfl, ⟨dx, hx8⟩, ok, _, rfl, ?_⟩
        refine r_cmpA hx8 (.base (.str _)) T.fS (.inr ⟨_, _, _, rfl, .base (.str _), T.kS, ?_⟩)
        tm_at "go"
        refine r_cmpA hx8 (tyx_tup (SqT.of (sm8 _ _ ht))) T.fT (.inr ⟨_, _, _, rfl, tyx_tup (SqT.of (sm8 _ _ ht)), T.kT, ?_⟩)
        tm_at "go"
        have ht8 := sm8 _ _ ht
        have sm9 := sm7.trans sm8
        clear sm7 sm8 hx ht ht2
        -- the lists of ==
        refine ⟨D2, rfl, ⟨_, SqL.of (sm9 _ _ hw)⟩, fun D3 hD3 => ?_⟩
        refine lc_it (walk_list (xs := ws)) (fun j H' => Same H8 H' ∧ H' D3 = some (.lst (((ps.take j).map fun q => PyData.eqv (ptD p) (ptD q)).map V.bl))) ⟨same_new hD3, upd_same⟩ (fun j H' _ q => SqL.of ((sm9.trans q.1) _ _ hw)) ?_ ?_
        · rintro j y Ha Hb hj ⟨sma, hla⟩ ⟨rfl, hy⟩
          obtain ⟨q, z, hq, okq, rfl, ⟨dz, hz⟩⟩ := (wo.mono (sm9.trans sma)).at hy
          have hxa := sma _ _ hx8
          tm_at "go"
          refine ⟨rfl, ?_⟩
          tm_at "go"
          refine r_cmpA hxa (T.tyW _ _ _ _ hz) nf_self (.inl ⟨x, z, _, _, _, _, _, _, rfl, ⟨dx, hxa⟩, ⟨dz, hz⟩, ok, okq, fun Hc smc => ?_⟩)
          refine ⟨_, smc _ _ hla, szlt (by rw [List.length_map, List.length_map]; exact Nat.ble_eq_true_of_le (Nat.le_trans (List.length_take_le ..) (by omega))), Same.updF (sma.trans smc) hD3, ?_⟩
          rw [upd_same, take_succ hq, List.map_append, List.map_append]
          rfl
        rintro Ha ⟨sma, hla⟩
        rw [List.take_of_length_le (Nat.le_of_eq (hps.trans hws.symm))] at hla
        have sm10 := sm9.trans sma
        have hta := sma _ _ ht8
        tm_at "go"
        refine ⟨D, rfl, ⟨_, SqL.of (sm10 _ _ hl5)⟩, fun D4 hD4 => ?_⟩
        refine lc_it (walk_list (xs := us)) (fun j H' => Same Ha H' ∧ H' D4 = some (.lst (((ps.take j).map fun q => PyData.eqv (ptD p) (ptD q)).map V.bl))) ⟨same_new hD4, upd_same⟩ (fun j H' _ q => SqL.of ((sm10.trans q.1) _ _ hl5)) ?_ ?_
        · rintro j y Hb Hc hj ⟨smb, hlb⟩ ⟨rfl, hy⟩
          obtain ⟨q, z, hq, okq, rfl, hz⟩ := (tu5.tk (Same.tk (sm10.trans smb))).at hy
          have d1 := sh_part (K := K) ok (smb _ _ hta)
          have d2 := sh_part (K := K) okq hz
          tm_at "go"
          refine ⟨rfl, ?_⟩
          tm_at "go"
          refine r_eqD d1.dp d2.dp (d1.shaped (by decide)) (d2.shaped (by decide)) ?_
          refine ⟨_, hlb, szlt (by rw [List.length_map, List.length_map]; exact Nat.ble_eq_true_of_le (Nat.le_trans (List.length_take_le ..) (by omega))), Same.updF smb hD4, ?_⟩
          rw [upd_same, take_succ hq, List.map_append, List.map_append]
          rfl
        rintro Hb ⟨smb, hlb⟩
        rw [List.take_of_length_le (Nat.le_of_eq (hps.trans hv4.symm))] at hlb
        refine r_neD (.lst (SqL.of (smb _ _ hla)) (dp_bls _)) (.lst (SqL.of hlb) (dp_bls _)) (shp_bls _) (shp_bls _) ?_
        rw [eqv_bls]
        have smB := sma.trans smb
        clear sma smb hla hlb hD3 hD4 sm10 hta
        have sm10 := sm9.trans smB
        have htb := smB _ _ ht8
        have hxb := smB _ _ hx8
        clear smB sm9 ht8 hx8
        tm_at "go"
        -- the lists of !=
        refine ⟨D2, rfl, ⟨_, SqL.of (sm10 _ _ hw)⟩, fun D3 hD3 => ?_⟩
        refine lc_it (walk_list (xs := ws)) (fun j H' => Same Hb H' ∧ H' D3 = some (.lst (((ps.take j).map fun q => !PyData.eqv (ptD p) (ptD q)).map V.bl))) ⟨same_new hD3, upd_same⟩ (fun j H' _ q => SqL.of ((sm10.trans q.1) _ _ hw)) ?_ ?_
        · rintro j y Hc Hd hj ⟨smc, hlc⟩ ⟨rfl, hy⟩
          obtain ⟨q, z, hq, okq, rfl, ⟨dz, hz⟩⟩ := (wo.mono (sm10.trans smc)).at hy
          have hxc := smc _ _ hxb
          tm_at "go"
          refine ⟨rfl, ?_⟩
          tm_at "go"
          refine ⟨x, dx, _, z, dz, _, rfl, rfl, hxc, hz, .inl ⟨x, z, _, _, _, _, _, _, rfl, ⟨dx, hxc⟩, ⟨dz, hz⟩, ok, okq, fun He sme => ⟨_, rfl, ?_⟩⟩⟩
          refine ⟨_, sme _ _ hlc, szlt (by rw [List.length_map, List.length_map]; exact Nat.ble_eq_true_of_le (Nat.le_trans (List.length_take_le ..) (by omega))), Same.updF (smc.trans sme) hD3, ?_⟩
          rw [upd_same, take_succ hq, List.map_append, List.map_append]
          rfl
        rintro Hc ⟨smc, hlc⟩
        rw [List.take_of_length_le (Nat.le_of_eq (hps.trans hws.symm))] at hlc
        have sm11 := sm10.trans smc
        have htc := smc _ _ htb
        tm_at "go"
        refine ⟨D, rfl, ⟨_, SqL.of (sm11 _ _ hl5)⟩, fun D4 hD4 => ?_⟩
        refine lc_it (walk_list (xs := us)) (fun j H' => Same Hc H' ∧ H' D4 = some (.lst (((ps.take j).map fun q => !PyData.eqv (ptD p) (ptD q)).map V.bl))) ⟨same_new hD4, upd_same⟩ (fun j H' _ q => SqL.of ((sm11.trans q.1) _ _ hl5)) ?_ ?_
        · rintro j y Hd He hj ⟨smd, hld⟩ ⟨rfl, hy⟩
          obtain ⟨q, z, hq, okq, rfl, hz⟩ := (tu5.tk (Same.tk (sm11.trans smd))).at hy
          have d1 := sh_part (K := K) ok (smd _ _ htc)
          have d2 := sh_part (K := K) okq hz
          tm_at "go"
          refine ⟨rfl, ?_⟩
          tm_at "go"
          refine r_neD d1.dp d2.dp (d1.shaped (by decide)) (d2.shaped (by decide)) ?_
          refine ⟨_, hld, szlt (by rw [List.length_map, List.length_map]; exact Nat.ble_eq_true_of_le (Nat.le_trans (List.length_take_le ..) (by omega))), Same.updF smd hD4, ?_⟩
          rw [upd_same, take_succ hq, List.map_append, List.map_append]
          rfl
        rintro Hd ⟨smd, hld⟩
        rw [List.take_of_length_le (Nat.le_of_eq (hps.trans hv4.symm))] at hld
        refine r_neD (.lst (SqL.of (smd _ _ hlc)) (dp_bls _)) (.lst (SqL.of hld) (dp_bls _)) (shp_bls _) (shp_bls _) ?_
        rw [eqv_bls]
        tm_at "go"
        exact ⟨⟨_, _, _, _, _, _, _, rfl⟩, sm11.trans smd⟩
      rintro σ H6 ⟨⟨o5, o6, o7, o8, o9, o10, o11, rfl⟩, sm6⟩
      have bx6 := bx5.same sm6
      have sm6 := sm5.trans sm6
      clear sm5 bx5 hl5 tu5 hw wo
      tm_at "go"
      refine ⟨_, rfl, by decide, by decide, for_range (lo := 0) (n := _) (fun j σ H' => (∃ o5 o6 o7 o8 o9 o10 o11 : Option V, σ = [some (.ref a), some (.int (0 + (i : Int))), some (.ref b), some (.ref D), some (.ref D2), o5, o6, o7, o8, o9, o10, o11]) ∧ Same H H' ∧ BoxAt H' b) ⟨⟨_, _, _, _, _, _, _, rfl⟩, sm6, bx6⟩ ?_ ?_⟩
      · clear o5 o6 o7 o8 o9 o10 o11 sm6 bx6
        rintro j σ H7 hj ⟨⟨o5, o6, o7, o8, o9, o10, o11, rfl⟩, sm7, bx7⟩
        tm_at "go"
        refine ⟨b, false, rfl, bx7, fun n bb kk ok t H8 hx8 ht => ?_⟩
        tm_at "go"
        refine ⟨t, n, bb, kk, rfl, upd_same, ok, ?_⟩
        have sm8 := Same.new (o := .tup (partV n bb kk)) (Same.bx sm7 hx8 hb) ht
        have bx8 := hx8.box.upd (o := .tup (partV n bb kk)) ht
        generalize upd H8 t (.tup (partV n bb kk)) = H9 at sm8 bx8 ⊢
        have lx := line_len ok
        have cx := cps_line n bb kk
        generalize lineOf n bb kk = x at lx cx ⊢
        clear hx8 ht sm7 bx7
        tm_at "go"
        refine r_cutT (fun c H' => c = false ∧ Same H9 H') ?_ ?_
        · exact r_both (x := x) rfl (by omega) cx
        rintro u H10 ⟨rfl, sm10⟩
        tm_at "go"
        refine ⟨b, x, rfl, bx8.same sm10, lx, cx, fun y H11 ly cy hx11 => ?_⟩
        tm_at "go"
        refine r_cutT (fun c H' => c = false ∧ Same H11 H') ?_ ?_
        · exact r_both (x := y) rfl ly cy
        rintro u H12 ⟨rfl, sm12⟩
        tm_at "go"
        exact ⟨⟨_, _, _, _, _, _, _, rfl⟩, (Same.bx (sm8.trans sm10) hx11 hb).trans sm12, hx11.box.same sm12⟩
      clear sm6 bx6 o5 o6 o7 o8 o9 o10 o11
      rintro σ H7 ⟨⟨o5, o6, o7, o8, o9, o10, o11, rfl⟩, sm7, bx7⟩
      tm_at "go"
      refine ⟨szl rfl, fun q1 hq1 => ?_⟩
      tm_at "go"
      refine ⟨szl rfl, fun q2 hq2 => ?_⟩
      tm_at "go"
      refine ⟨szl rfl, fun q3 hq3 => ?_⟩
      have sm8 := Same.new (o := .tup [.non, .int 5, .bl true, .str "", .str " ", .ref q1, .ref q2, .str "5 whole keep 0\n"]) (Same.new (o := .tup [.str "5", .str "whole"]) (Same.new (o := .lst [.str "5 whole keep 0"]) sm7 hq1) hq2) hq3
      have h2 : upd (upd H7 q1 (.lst [.str "5 whole keep 0"])) q2 (.tup [.str "5", .str "whole"]) q2 = some (.tup [.str "5", .str "whole"]) := upd_same
      have h1 := at_upd (u := .tup [.str "5", .str "whole"]) (ne_of_none upd_same hq2) (upd_same (H := H7) (a := q1) (o := .lst [.str "5 whole keep 0"]))
      have g1 := at_upd (u := .tup [.non, .int 5, .bl true, .str "", .str " ", .ref q1, .ref q2, .str "5 whole keep 0\n"]) (ne_of_none h1 hq3) h1
      have g2 := at_upd (u := .tup [.non, .int 5, .bl true, .str "", .str " ", .ref q1, .ref q2, .str "5 whole keep 0\n"]) (ne_of_none h2 hq3) h2
      have g3 : upd (upd (upd H7 q1 (.lst [.str "5 whole keep 0"])) q2 (.tup [.str "5", .str "whole"])) q3 (.tup [.non, .int 5, .bl true, .str "", .str " ", .ref q1, .ref q2, .str "5 whole keep 0\n"]) q3 = some (.tup [.non, .int 5, .bl true, .str "", .str " ", .ref q1, .ref q2, .str "5 whole keep 0\n"]) := upd_same
      generalize upd (upd (upd H7 q1 (.lst [.str "5 whole keep 0"])) q2 (.tup [.str "5", .str "whole"])) q3 (.tup [.non, .int 5, .bl true, .str "", .str " ", .ref q1, .ref q2, .str "5 whole keep 0\n"]) = G at sm8 g1 g2 g3 ⊢
      clear h1 h2 hq1 hq2 hq3 sm7 bx7
      have all : ∀ v ∈ [V.non, .int 5, .bl true, .str "", .str " ", .ref q1, .ref q2, .str "5 whole keep 0\n"], ∀ H', Same G H' → TextArg K H' v ∧ readW (wordsOf v) = none := by
        intro v hv H' s
        simp only [List.mem_cons, List.not_mem_nil, or_false] at hv
        rcases hv with rfl | rfl | rfl | rfl | rfl | rfl | rfl | rfl
        · exact ⟨.inr ⟨.non, rfl⟩, rfl⟩
        · exact ⟨.inr ⟨.int _, rfl⟩, rfl⟩
        · exact ⟨.inr ⟨.bl _, rfl⟩, rfl⟩
        · exact ⟨.inl ⟨_, rfl, by decide +kernel, cps_ofs _⟩, by decide +kernel⟩
        · exact ⟨.inl ⟨_, rfl, by decide +kernel, cps_ofs _⟩, by decide +kernel⟩
        · exact ⟨.inr ⟨.lst (SqL.of (s _ _ g1)), rfl⟩, rfl⟩
        · exact ⟨.inr ⟨.tup (SqT.of (s _ _ g2)), rfl⟩, rfl⟩
        · exact ⟨.inl ⟨_, rfl, by decide +kernel, cps_ofs _⟩, by decide +kernel⟩
      refine ⟨q3, rfl, ⟨_, SqT.of g3⟩, ?_⟩
      refine for_it (walk_tup (xs := [V.non, .int 5, .bl true, .str "", .str " ", .ref q1, .ref q2, .str "5 whole keep 0\n"])) (fun j σ H' => (∃ o5 o6 o7 o8 o9 o10 o11 : Option V, σ = [some (.ref a), some (.int (0 + (i : Int))), some (.ref b), some (.ref D), some (.ref D2), o5, o6, o7, o8, o9, o10, o11]) ∧ Same G H') ⟨⟨_, _, _, _, _, _, _, rfl⟩, Same.refl⟩ (fun j σ H' _ p => SqT.of (p.2 _ _ g3)) ?_ ?_
      · clear o5 o6 o7 o8 o9 o10 o11
        rintro j v σ H8 H9 hj ⟨⟨o5, o6, o7, o8, o9, o10, o11, rfl⟩, sm9⟩ ⟨rfl, hv⟩
        obtain ⟨ta, hr0⟩ := all v (List.mem_of_getElem? hv) _ sm9
        tm_at "go"
        refine ⟨v, rfl, ta, fun _ H10 sm10 => ?_, fun n b k h => ?_⟩
        · tm_at "go"
          rw [neSelf]
          tm_at "go"
          exact ⟨⟨_, _, _, _, _, _, _, rfl⟩, sm9.trans sm10⟩
        · rw [hr0] at h
          exact nomatch h
      rintro σ H8 ⟨⟨o5, o6, o7, o8, o9, o10, o11, rfl⟩, sm9⟩
      exact ⟨⟨_, _, _, _, _, _, _, _, _, _, _, rfl⟩, sm8.trans sm9⟩
    · rintro σ H1 ⟨⟨o1, o2, o3, o4, o5, o6, o7, o8, o9, o10, o11, rfl⟩, sm1⟩
      have ok4 : PartOk 4 none none := ⟨by decide, (fun s g z => nomatch z), fun j z => nomatch z⟩
      have ok5 : PartOk 4 (some (1, 3)) none := ⟨by decide, (fun s g z => by cases z; decide), fun j z => nomatch z⟩
      have ok0 : PartOk 0 none none := ⟨by decide, (fun s g z => nomatch z), fun j z => nomatch z⟩
      have e4 : PyData.eqv (partD 4 none none) (partD 4 none none) = true := eqv_pt (4, none, none)
      have e5 : PyData.eqv (partD 4 (some (1, 3)) none) (partD 4 (some (1, 3)) none) = true := eqv_pt (4, some (1, 3), none)
      tm_at "go"
      refine r_word (n := 4) (b := none) (k := none) ok4 fun x H2 sm2 hx0 hx => ?_
      tm_at "go"
      refine ⟨x, _, _, _, _, rfl, hx, fun t H3 sm3 ht => ?_⟩
      tm_at "go"
      refine ⟨szl rfl, fun t2 ht2 => ?_⟩
      have d1 := sh_part (K := K) ok4 (at_upd (u := .tup (partV 4 none none)) (ne_of_none ht ht2) ht)
      have d2 := sh_part (K := K) (H := upd H3 t2 (.tup (partV 4 none none))) ok4 upd_same
      refine r_neD d1.dp d2.dp (d1.shaped (by decide)) (d2.shaped (by decide)) ?_
      rw [e4]
      clear d1 d2
      generalize upd H3 t2 _ = H4
      tm_at "go"
      refine r_word (n := 4) (b := some (1, 3)) (k := none) ok5 fun x H2 sm2 hx0 hx => ?_
      tm_at "go"
      refine ⟨x, _, _, _, _, rfl, hx, fun t H3 sm3 ht => ?_⟩
      tm_at "go"
      refine ⟨szl rfl, fun t2 ht2 => ?_⟩
      have d1 := sh_part (K := K) ok5 (at_upd (u := .tup (partV 4 (some (1, 3)) none)) (ne_of_none ht ht2) ht)
      have d2 := sh_part (K := K) (H := upd H3 t2 (.tup (partV 4 (some (1, 3)) none))) ok5 upd_same
      refine r_neD d1.dp d2.dp (d1.shaped (by decide)) (d2.shaped (by decide)) ?_
      rw [e5]
      clear d1 d2
      generalize upd H3 t2 _ = H5
      tm_at "go"
      refine r_word (n := 4) (b := none) (k := none) ok4 fun x H6 sm6 hx0 hx => ?_
      tm_at "go"
      refine r_word (n := 4) (b := none) (k := none) ok4 fun y H7 sm7 hy0 hy => ?_
      obtain ⟨dx, hx⟩ := hx.mono sm7
      obtain ⟨dy, hy⟩ := hy
      refine r_cmpA hx (T.tyW _ _ _ _ hy) nf_self (.inl ⟨x, y, 4, 4, none, none, none, none, rfl, ⟨dx, hx⟩, ⟨dy, hy⟩, ok4, ok4, fun H8 sm8 => ?_⟩)
      rw [e4]
      tm_at "go"
      refine r_word (n := 0) (b := none) (k := none) ok0 fun z H9 sm9 hz0 hz => ?_
      obtain ⟨dz, hz⟩ := hz
      tm_at "go"
      refine r_strOwn hz ⟨z, 0, none, none, rfl, ⟨dz, hz⟩, ok0, _, rfl, ?_⟩
      tm_at "go"
      refine r_eq rfl ?_
      rw [decS, show lineOf 0 none none = "0 whole keep none" by decide +kernel, decide_eq_true rfl]
      exact k _
end
theorem all_mk {h : Heap} (X : K.In h) (G : h.Ns mainGlobals mg)
    (a_GroundError : PySem.W.nsIn K mainGlobals "GroundError" = some (some (.ref aGround)))
    (bs_GroundError : PySem.W.specialIn K (.ref aGround) "__getattribute__" = some (some (.builtin "type.__getattribute__")))
    (br_GroundError : PySem.W.readsIn K aGround (.type "type") = true)
    (bf_GroundError : PySem.W.findCls K (.ref aGround) (.type "type") "__init__" = some (.val (.builtin "ValueError.__init__")))
    (a_InvalidWord : PySem.W.nsIn K mainGlobals "InvalidWord" = some (some (.ref aInvWord)))
    {nm_InvalidWord q_InvalidWord : Str} {N_InvalidWord : Addr} {bs_InvalidWord : List Value} {sn_InvalidWord : List Str} {sub_InvalidWord : List Value} {ab_InvalidWord : Bool} {col_InvalidWord : Option Bool} {dd_InvalidWord : Option Addr} {m0_InvalidWord m1_InvalidWord m2_InvalidWord m3_InvalidWord m5_InvalidWord : Option Value}
    (x_InvalidWord : K.lookup aInvWord = some (excClassObj nm_InvalidWord q_InvalidWord aInvWord N_InvalidWord bs_InvalidWord [.ref aGround, .type "ValueError", .type "Exception", .type "BaseException", .type "object"] true sn_InvalidWord sub_InvalidWord ab_InvalidWord col_InvalidWord dd_InvalidWord m0_InvalidWord m1_InvalidWord m2_InvalidWord m3_InvalidWord m5_InvalidWord "ValueError.__new__"))
    (sa_InvalidWord : PySem.W.findIn K (.ref aInvWord) "__setattr__" = some (some (.builtin "object.__setattr__")))
    (ex_InvalidWord : PySem.W.subIn K (.ref aInvWord) (.type "BaseException") = some true)
    (ty_InvalidWord : PySem.W.typeIn K (.ref aInvWord) = some (.type "type"))
    (kc_InvalidWord : PySem.W.keepIn K (.ref aInvWord) = true)
    {f_InvalidWord : Addr} {od_InvalidWord an_InvalidWord : Option Addr} {sl_InvalidWord : Array (Option Value)} {oc_InvalidWord kV_InvalidWord dc_InvalidWord pm_InvalidWord cd_InvalidWord ct_InvalidWord : Value}
    (i_InvalidWord : PySem.W.findIn K (.ref aInvWord) "__init__" = some (some (.ref f_InvalidWord)))
    (ti_InvalidWord : PySem.W.typeIn K (.ref f_InvalidWord) = some (.type "function"))
    (l_InvalidWord : K.lookup f_InvalidWord = some ⟨oc_InvalidWord, od_InvalidWord, .func (PySem.W.fnOf "__init__" "InvalidWord.__init__" (defArgs s_InvalidWord__init) (defBody s_InvalidWord__init) (defScope s_InvalidWord__init) .none kV_InvalidWord dc_InvalidWord pm_InvalidWord an_InvalidWord cd_InvalidWord ct_InvalidWord), sl_InvalidWord⟩)
    (c_InvalidWord : PySem.W.codeIn K cd_InvalidWord "InvalidWord.__init__" = true)
    (k_InvalidWord : PySem.W.keepIn K (.ref f_InvalidWord) = true)
    (xg_InvalidWord : PySem.W.findIn K (.ref aInvWord) "__getattribute__" = some (some (.builtin "BaseException.__getattribute__")))
    (xk_InvalidWord : PySem.W.findIn K (.ref aInvWord) "__getattr__" = some none)
    (xd_InvalidWord : PySem.W.hasDictIn K aInvWord = true)
    (xa_InvalidWord : PySem.W.findIn K (.ref aInvWord) "__class__" = some (some (.builtin "object.__class__")))
    (xn_InvalidWord : PySem.W.specialIn K (.builtin "object.__class__") "__get__" = some (some (.builtin "getset_descriptor.__get__")))
    (xt_InvalidWord : PySem.W.takesIn K (.builtin "object.__class__") = some true)
    (xm_InvalidWord : PySem.W.mroIn K aInvWord (.type "object") = some true)
    (xs_InvalidWord : PySem.W.subIn K (.ref aInvWord) (.ref aInvWord) = some true)
    (a_Word : PySem.W.nsIn K mainGlobals "Word" = some (some (.ref aWord)))
    (pg_Word : PySem.W.plainGet K aWord Str.empty = true)
    (hd_Word : PySem.W.hasDictIn K aWord = true)
    (po_Word : PySem.W.plainOver K aWord = true)
    (sa_Word : PySem.W.findIn K (.ref aWord) "__setattr__" = some (some (.builtin "object.__setattr__")))
    (mk_Word : PySem.W.makesIn K aWord = true)
    (kc_Word : PySem.W.keepIn K (.ref aWord) = true)
    {f_Word : Addr} {od_Word an_Word : Option Addr} {sl_Word : Array (Option Value)} {oc_Word kV_Word dc_Word pm_Word cd_Word ct_Word : Value}
    (i_Word : PySem.W.findIn K (.ref aWord) "__init__" = some (some (.ref f_Word)))
    (if_Word : PySem.W.isFn K (.ref f_Word) = true)
    {T_Word : Addr} {oT_Word : Value} {dT_Word : Option Addr} {iT_Word : List Value} {mT_Word : Nat} {sT_Word : Array (Option Value)}
    (l_Word : K.lookup f_Word = some ⟨oc_Word, od_Word, .func (PySem.W.fnOf "__init__" "Word.__init__" (defArgs s_Word__init) (defBody s_Word__init) (defScope s_Word__init) (.ref T_Word) kV_Word dc_Word pm_Word an_Word cd_Word ct_Word), sl_Word⟩)
    (c_Word : PySem.W.codeIn K cd_Word "Word.__init__" = true)
    (k_Word : PySem.W.keepIn K (.ref f_Word) = true)
    (t_Word : K.lookup T_Word = some ⟨oT_Word, dT_Word, .seq iT_Word.toArray mT_Word, sT_Word⟩)
    (v_Word : Vals [.non, .non, .non] iT_Word)
    {f_Word__eq : Addr} {od_Word__eq an_Word__eq : Option Addr} {sl_Word__eq : Array (Option Value)} {oc_Word__eq kV_Word__eq dc_Word__eq pm_Word__eq cd_Word__eq ct_Word__eq : Value}
    (i_Word__eq : PySem.W.findIn K (.ref aWord) "__eq__" = some (some (.ref f_Word__eq)))
    (if_Word__eq : PySem.W.isFn K (.ref f_Word__eq) = true)
    (l_Word__eq : K.lookup f_Word__eq = some ⟨oc_Word__eq, od_Word__eq, .func (PySem.W.fnOf "__eq__" "Word.__eq__" (defArgs s_Word__eq) (defBody s_Word__eq) (defScope s_Word__eq) .none kV_Word__eq dc_Word__eq pm_Word__eq an_Word__eq cd_Word__eq ct_Word__eq), sl_Word__eq⟩)
    (c_Word__eq : PySem.W.codeIn K cd_Word__eq "Word.__eq__" = true)
    (k_Word__eq : PySem.W.keepIn K (.ref f_Word__eq) = true)
    {f_Word__str : Addr} {od_Word__str an_Word__str : Option Addr} {sl_Word__str : Array (Option Value)} {oc_Word__str kV_Word__str dc_Word__str pm_Word__str cd_Word__str ct_Word__str : Value}
    (i_Word__str : PySem.W.findIn K (.ref aWord) "__str__" = some (some (.ref f_Word__str)))
    (if_Word__str : PySem.W.isFn K (.ref f_Word__str) = true)
    (l_Word__str : K.lookup f_Word__str = some ⟨oc_Word__str, od_Word__str, .func (PySem.W.fnOf "__str__" "Word.__str__" (defArgs s_Word__str) (defBody s_Word__str) (defScope s_Word__str) .none kV_Word__str dc_Word__str pm_Word__str an_Word__str cd_Word__str ct_Word__str), sl_Word__str⟩)
    (c_Word__str : PySem.W.codeIn K cd_Word__str "Word.__str__" = true)
    (k_Word__str : PySem.W.keepIn K (.ref f_Word__str) = true)
    (cg_Word : PySem.W.specialIn K (.ref aWord) "__getattribute__" = some (some (.builtin "type.__getattribute__")))
    (cr_Word : PySem.W.readsIn K aWord (.type "type") = true)
    {f_Word_read : Addr} {od_Word_read an_Word_read : Option Addr} {sl_Word_read : Array (Option Value)} {oc_Word_read kV_Word_read dc_Word_read pm_Word_read cd_Word_read ct_Word_read : Value}
    {p_Word_read : Addr} {rest_Word_read : List Value}
    (i_Word_read : PySem.W.findCls K (.ref aWord) (.type "type") "read" = some (.get (.builtin "classmethod.__get__") (.ref p_Word_read) .none (.ref aWord)))
    (pr_Word_read : PySem.W.recIn K p_Word_read "classmethod" = some (.ref f_Word_read :: rest_Word_read))
    (l_Word_read : K.lookup f_Word_read = some ⟨oc_Word_read, od_Word_read, .func (PySem.W.fnOf "read" "Word.read" (defArgs s_Word_read) (defBody s_Word_read) (defScope s_Word_read) .none kV_Word_read dc_Word_read pm_Word_read an_Word_read cd_Word_read ct_Word_read), sl_Word_read⟩)
    (c_Word_read : PySem.W.codeIn K cd_Word_read "Word.read" = true)
    (k_Word_read : PySem.W.keepIn K (.ref f_Word_read) = true)
    (na_aWord_number : PySem.W.findIn K (.ref aWord) "number" = some none)
    (na_aWord_slot : PySem.W.findIn K (.ref aWord) "slot" = some none)
    (na_aWord_ground : PySem.W.findIn K (.ref aWord) "ground" = some none)
    (na_aWord_keep : PySem.W.findIn K (.ref aWord) "keep" = some none)
    {tk_LAST_SLOT : Tok}
    (a_LAST_SLOT : PySem.W.nsIn K mainGlobals "LAST_SLOT" = some (some (.int 2 tk_LAST_SLOT)))
    {tk_MOST_DIGITS : Tok}
    (a_MOST_DIGITS : PySem.W.nsIn K mainGlobals "MOST_DIGITS" = some (some (.int 6 tk_MOST_DIGITS)))
    {tk_DIGITS : Tok}
    (a_DIGITS : PySem.W.nsIn K mainGlobals "DIGITS" = some (some (.str "0123456789" tk_DIGITS)))
    {tk_NOWHERE : Tok}
    (a_NOWHERE : PySem.W.nsIn K mainGlobals "NOWHERE" = some (some (.str "none" tk_NOWHERE)))
    (a_IT : PySem.W.nsIn K mainGlobals "InvalidText" = some (some (.ref aInvText)))
    (a_IR : PySem.W.nsIn K mainGlobals "InvalidRow" = some (some (.ref aInvRow)))
    (hdG : PySem.W.hasDictIn K aGround = true)
    (tyG : PySem.W.typeIn K (.ref aGround) = some (.type "type"))
    (suG : PySem.W.subIn K (.ref aInvWord) (.ref aGround) = some true)
    (hdT : PySem.W.hasDictIn K aInvText = true)
    (tyT : PySem.W.typeIn K (.ref aInvText) = some (.type "type"))
    (suIT : PySem.W.subIn K (.ref aInvWord) (.ref aInvText) = some false)
    (hdR : PySem.W.hasDictIn K aInvRow = true)
    (tyR : PySem.W.typeIn K (.ref aInvRow) = some (.type "type"))
    (suIR : PySem.W.subIn K (.ref aInvWord) (.ref aInvRow) = some false)
    (tyA : PySem.W.typeIn K (.ref aWord) = some (.type "type"))
    (suT : PySem.W.subIn K (.type "tuple") (.ref aWord) = some false)
    (suS : PySem.W.subIn K (.type "str") (.ref aWord) = some false)
    (neW : PySem.W.findIn K (.ref aWord) "__ne__" = some (some (.builtin "object.__ne__")))
    (obW : PySem.W.mroIn K aWord (.type "object") = some true)
    (caW : PySem.W.findIn K (.ref aWord) "__class__" = some (some (.builtin "object.__class__")))
    (cgW : PySem.W.specialIn K (.builtin "object.__class__") "__get__" = some (some (.builtin "getset_descriptor.__get__")))
    (ctW : PySem.W.takesIn K (.builtin "object.__class__") = some true)
    (z_int : PySem.W.nsIn K mainGlobals "int" = some none)
    (z_len : PySem.W.nsIn K mainGlobals "len" = some none)
    (z_abs : PySem.W.nsIn K mainGlobals "abs" = some none)
    (z_repr : PySem.W.nsIn K mainGlobals "repr" = some none)
    (z_range : PySem.W.nsIn K mainGlobals "range" = some none)
    (z_min : PySem.W.nsIn K mainGlobals "min" = some none)
    (z_max : PySem.W.nsIn K mainGlobals "max" = some none)
    (z_bool : PySem.W.nsIn K mainGlobals "bool" = some none)
    (z_str : PySem.W.nsIn K mainGlobals "str" = some none)
    (z_zip : PySem.W.nsIn K mainGlobals "zip" = some none)
    (z_all : PySem.W.nsIn K mainGlobals "all" = some none)
    (z_isinstance : PySem.W.nsIn K mainGlobals "isinstance" = some none)
    {f_law_box : Addr} {od_law_box an_law_box : Option Addr} {sl_law_box : Array (Option Value)} {oc_law_box kV_law_box dc_law_box pm_law_box cd_law_box ct_law_box : Value}
    (a_law_box : PySem.W.nsIn K mainGlobals "_law_box" = some (some (.ref f_law_box)))
    (l_law_box : K.lookup f_law_box = some ⟨oc_law_box, od_law_box, .func (PySem.W.fnOf "_law_box" "_law_box" (defArgs s_law_box) (defBody s_law_box) (defScope s_law_box) .none kV_law_box dc_law_box pm_law_box an_law_box cd_law_box ct_law_box), sl_law_box⟩)
    (c_law_box : PySem.W.codeIn K cd_law_box "_law_box" = true)
    (k_law_box : PySem.W.keepIn K (.ref f_law_box) = true)
    {f_law_take : Addr} {od_law_take an_law_take : Option Addr} {sl_law_take : Array (Option Value)} {oc_law_take kV_law_take dc_law_take pm_law_take cd_law_take ct_law_take : Value}
    (a_law_take : PySem.W.nsIn K mainGlobals "_law_take" = some (some (.ref f_law_take)))
    (l_law_take : K.lookup f_law_take = some ⟨oc_law_take, od_law_take, .func (PySem.W.fnOf "_law_take" "_law_take" (defArgs s_law_take) (defBody s_law_take) (defScope s_law_take) .none kV_law_take dc_law_take pm_law_take an_law_take cd_law_take ct_law_take), sl_law_take⟩)
    (c_law_take : PySem.W.codeIn K cd_law_take "_law_take" = true)
    (k_law_take : PySem.W.keepIn K (.ref f_law_take) = true)
    {f_law_pick : Addr} {od_law_pick an_law_pick : Option Addr} {sl_law_pick : Array (Option Value)} {oc_law_pick kV_law_pick dc_law_pick pm_law_pick cd_law_pick ct_law_pick : Value}
    (a_law_pick : PySem.W.nsIn K mainGlobals "_law_pick" = some (some (.ref f_law_pick)))
    (l_law_pick : K.lookup f_law_pick = some ⟨oc_law_pick, od_law_pick, .func (PySem.W.fnOf "_law_pick" "_law_pick" (defArgs s_law_pick) (defBody s_law_pick) (defScope s_law_pick) .none kV_law_pick dc_law_pick pm_law_pick an_law_pick cd_law_pick ct_law_pick), sl_law_pick⟩)
    (c_law_pick : PySem.W.codeIn K cd_law_pick "_law_pick" = true)
    (k_law_pick : PySem.W.keepIn K (.ref f_law_pick) = true)
    {f_law_parts : Addr} {od_law_parts an_law_parts : Option Addr} {sl_law_parts : Array (Option Value)} {oc_law_parts kV_law_parts dc_law_parts pm_law_parts cd_law_parts ct_law_parts : Value}
    (a_law_parts : PySem.W.nsIn K mainGlobals "_law_parts" = some (some (.ref f_law_parts)))
    (l_law_parts : K.lookup f_law_parts = some ⟨oc_law_parts, od_law_parts, .func (PySem.W.fnOf "_law_parts" "_law_parts" (defArgs s_law_parts) (defBody s_law_parts) (defScope s_law_parts) .none kV_law_parts dc_law_parts pm_law_parts an_law_parts cd_law_parts ct_law_parts), sl_law_parts⟩)
    (c_law_parts : PySem.W.codeIn K cd_law_parts "_law_parts" = true)
    (k_law_parts : PySem.W.keepIn K (.ref f_law_parts) = true)
    {f_law_line : Addr} {od_law_line an_law_line : Option Addr} {sl_law_line : Array (Option Value)} {oc_law_line kV_law_line dc_law_line pm_law_line cd_law_line ct_law_line : Value}
    (a_law_line : PySem.W.nsIn K mainGlobals "_law_line" = some (some (.ref f_law_line)))
    (l_law_line : K.lookup f_law_line = some ⟨oc_law_line, od_law_line, .func (PySem.W.fnOf "_law_line" "_law_line" (defArgs s_law_line) (defBody s_law_line) (defScope s_law_line) .none kV_law_line dc_law_line pm_law_line an_law_line cd_law_line ct_law_line), sl_law_line⟩)
    (c_law_line : PySem.W.codeIn K cd_law_line "_law_line" = true)
    (k_law_line : PySem.W.keepIn K (.ref f_law_line) = true)
    {f_law_number_of : Addr} {od_law_number_of an_law_number_of : Option Addr} {sl_law_number_of : Array (Option Value)} {oc_law_number_of kV_law_number_of dc_law_number_of pm_law_number_of cd_law_number_of ct_law_number_of : Value}
    (a_law_number_of : PySem.W.nsIn K mainGlobals "_law_number_of" = some (some (.ref f_law_number_of)))
    (l_law_number_of : K.lookup f_law_number_of = some ⟨oc_law_number_of, od_law_number_of, .func (PySem.W.fnOf "_law_number_of" "_law_number_of" (defArgs s_law_number_of) (defBody s_law_number_of) (defScope s_law_number_of) .none kV_law_number_of dc_law_number_of pm_law_number_of an_law_number_of cd_law_number_of ct_law_number_of), sl_law_number_of⟩)
    (c_law_number_of : PySem.W.codeIn K cd_law_number_of "_law_number_of" = true)
    (k_law_number_of : PySem.W.keepIn K (.ref f_law_number_of) = true)
    {f_law_read_parts : Addr} {od_law_read_parts an_law_read_parts : Option Addr} {sl_law_read_parts : Array (Option Value)} {oc_law_read_parts kV_law_read_parts dc_law_read_parts pm_law_read_parts cd_law_read_parts ct_law_read_parts : Value}
    (a_law_read_parts : PySem.W.nsIn K mainGlobals "_law_read_parts" = some (some (.ref f_law_read_parts)))
    (l_law_read_parts : K.lookup f_law_read_parts = some ⟨oc_law_read_parts, od_law_read_parts, .func (PySem.W.fnOf "_law_read_parts" "_law_read_parts" (defArgs s_law_read_parts) (defBody s_law_read_parts) (defScope s_law_read_parts) .none kV_law_read_parts dc_law_read_parts pm_law_read_parts an_law_read_parts cd_law_read_parts ct_law_read_parts), sl_law_read_parts⟩)
    (c_law_read_parts : PySem.W.codeIn K cd_law_read_parts "_law_read_parts" = true)
    (k_law_read_parts : PySem.W.keepIn K (.ref f_law_read_parts) = true)
    {f_law_parts_of : Addr} {od_law_parts_of an_law_parts_of : Option Addr} {sl_law_parts_of : Array (Option Value)} {oc_law_parts_of kV_law_parts_of dc_law_parts_of pm_law_parts_of cd_law_parts_of ct_law_parts_of : Value}
    (a_law_parts_of : PySem.W.nsIn K mainGlobals "_law_parts_of" = some (some (.ref f_law_parts_of)))
    (l_law_parts_of : K.lookup f_law_parts_of = some ⟨oc_law_parts_of, od_law_parts_of, .func (PySem.W.fnOf "_law_parts_of" "_law_parts_of" (defArgs s_law_parts_of) (defBody s_law_parts_of) (defScope s_law_parts_of) .none kV_law_parts_of dc_law_parts_of pm_law_parts_of an_law_parts_of cd_law_parts_of ct_law_parts_of), sl_law_parts_of⟩)
    (c_law_parts_of : PySem.W.codeIn K cd_law_parts_of "_law_parts_of" = true)
    (k_law_parts_of : PySem.W.keepIn K (.ref f_law_parts_of) = true)
    {f_law_heard : Addr} {od_law_heard an_law_heard : Option Addr} {sl_law_heard : Array (Option Value)} {oc_law_heard kV_law_heard dc_law_heard pm_law_heard cd_law_heard ct_law_heard : Value}
    (a_law_heard : PySem.W.nsIn K mainGlobals "_law_heard" = some (some (.ref f_law_heard)))
    (l_law_heard : K.lookup f_law_heard = some ⟨oc_law_heard, od_law_heard, .func (PySem.W.fnOf "_law_heard" "_law_heard" (defArgs s_law_heard) (defBody s_law_heard) (defScope s_law_heard) .none kV_law_heard dc_law_heard pm_law_heard an_law_heard cd_law_heard ct_law_heard), sl_law_heard⟩)
    (c_law_heard : PySem.W.codeIn K cd_law_heard "_law_heard" = true)
    (k_law_heard : PySem.W.keepIn K (.ref f_law_heard) = true)
    {f_law_spoilt : Addr} {od_law_spoilt an_law_spoilt : Option Addr} {sl_law_spoilt : Array (Option Value)} {oc_law_spoilt kV_law_spoilt dc_law_spoilt pm_law_spoilt cd_law_spoilt ct_law_spoilt : Value}
    (a_law_spoilt : PySem.W.nsIn K mainGlobals "_law_spoilt" = some (some (.ref f_law_spoilt)))
    (l_law_spoilt : K.lookup f_law_spoilt = some ⟨oc_law_spoilt, od_law_spoilt, .func (PySem.W.fnOf "_law_spoilt" "_law_spoilt" (defArgs s_law_spoilt) (defBody s_law_spoilt) (defScope s_law_spoilt) .none kV_law_spoilt dc_law_spoilt pm_law_spoilt an_law_spoilt cd_law_spoilt ct_law_spoilt), sl_law_spoilt⟩)
    (c_law_spoilt : PySem.W.codeIn K cd_law_spoilt "_law_spoilt" = true)
    (k_law_spoilt : PySem.W.keepIn K (.ref f_law_spoilt) = true)
    {f_law : Addr} {od_law an_law : Option Addr} {sl_law : Array (Option Value)} {oc_law kV_law dc_law pm_law cd_law ct_law : Value}
    (a_law : PySem.W.nsIn K mainGlobals "law" = some (some (.ref f_law)))
    (l_law : K.lookup f_law = some ⟨oc_law, od_law, .func (PySem.W.fnOf "law" "law" (defArgs s_law) (defBody s_law) (defScope s_law) .none kV_law dc_law pm_law an_law cd_law ct_law), sl_law⟩)
    (c_law : PySem.W.codeIn K cd_law "law" = true)
    (k_law : PySem.W.keepIn K (.ref f_law) = true)
    {f_is_integer : Addr} {od_is_integer an_is_integer : Option Addr} {sl_is_integer : Array (Option Value)} {oc_is_integer kV_is_integer dc_is_integer pm_is_integer cd_is_integer ct_is_integer : Value}
    (a_is_integer : PySem.W.nsIn K mainGlobals "is_integer" = some (some (.ref f_is_integer)))
    (l_is_integer : K.lookup f_is_integer = some ⟨oc_is_integer, od_is_integer, .func (PySem.W.fnOf "is_integer" "is_integer" (defArgs s_is_integer) (defBody s_is_integer) (defScope s_is_integer) .none kV_is_integer dc_is_integer pm_is_integer an_is_integer cd_is_integer ct_is_integer), sl_is_integer⟩)
    (c_is_integer : PySem.W.codeIn K cd_is_integer "is_integer" = true)
    (k_is_integer : PySem.W.keepIn K (.ref f_is_integer) = true)
    {f_is_from : Addr} {od_is_from an_is_from : Option Addr} {sl_is_from : Array (Option Value)} {oc_is_from kV_is_from dc_is_from pm_is_from cd_is_from ct_is_from : Value}
    (a_is_from : PySem.W.nsIn K mainGlobals "is_from" = some (some (.ref f_is_from)))
    (l_is_from : K.lookup f_is_from = some ⟨oc_is_from, od_is_from, .func (PySem.W.fnOf "is_from" "is_from" (defArgs s_is_from) (defBody s_is_from) (defScope s_is_from) .none kV_is_from dc_is_from pm_is_from an_is_from cd_is_from ct_is_from), sl_is_from⟩)
    (c_is_from : PySem.W.codeIn K cd_is_from "is_from" = true)
    (k_is_from : PySem.W.keepIn K (.ref f_is_from) = true)
    {f_is_number : Addr} {od_is_number an_is_number : Option Addr} {sl_is_number : Array (Option Value)} {oc_is_number kV_is_number dc_is_number pm_is_number cd_is_number ct_is_number : Value}
    (a_is_number : PySem.W.nsIn K mainGlobals "is_number" = some (some (.ref f_is_number)))
    (l_is_number : K.lookup f_is_number = some ⟨oc_is_number, od_is_number, .func (PySem.W.fnOf "is_number" "is_number" (defArgs s_is_number) (defBody s_is_number) (defScope s_is_number) .none kV_is_number dc_is_number pm_is_number an_is_number cd_is_number ct_is_number), sl_is_number⟩)
    (c_is_number : PySem.W.codeIn K cd_is_number "is_number" = true)
    (k_is_number : PySem.W.keepIn K (.ref f_is_number) = true)
    {f_number_of : Addr} {od_number_of an_number_of : Option Addr} {sl_number_of : Array (Option Value)} {oc_number_of kV_number_of dc_number_of pm_number_of cd_number_of ct_number_of : Value}
    (a_number_of : PySem.W.nsIn K mainGlobals "number_of" = some (some (.ref f_number_of)))
    (l_number_of : K.lookup f_number_of = some ⟨oc_number_of, od_number_of, .func (PySem.W.fnOf "number_of" "number_of" (defArgs s_number_of) (defBody s_number_of) (defScope s_number_of) .none kV_number_of dc_number_of pm_number_of an_number_of cd_number_of ct_number_of), sl_number_of⟩)
    (c_number_of : PySem.W.codeIn K cd_number_of "number_of" = true)
    (k_number_of : PySem.W.keepIn K (.ref f_number_of) = true)
    {f_slot_of : Addr} {od_slot_of an_slot_of : Option Addr} {sl_slot_of : Array (Option Value)} {oc_slot_of kV_slot_of dc_slot_of pm_slot_of cd_slot_of ct_slot_of : Value}
    (a_slot_of : PySem.W.nsIn K mainGlobals "slot_of" = some (some (.ref f_slot_of)))
    (l_slot_of : K.lookup f_slot_of = some ⟨oc_slot_of, od_slot_of, .func (PySem.W.fnOf "slot_of" "slot_of" (defArgs s_slot_of) (defBody s_slot_of) (defScope s_slot_of) .none kV_slot_of dc_slot_of pm_slot_of an_slot_of cd_slot_of ct_slot_of), sl_slot_of⟩)
    (c_slot_of : PySem.W.codeIn K cd_slot_of "slot_of" = true)
    (k_slot_of : PySem.W.keepIn K (.ref f_slot_of) = true) :
    ∀ base : Heap, K.In base → base.Ns mainGlobals mg → DefG P w K mg base CX0 8 "law" ["_law_script"] (spLaw K) := by
  have m_GroundError : mg "GroundError" = some (.ref aGround) := PySem.W.mg_of X G a_GroundError
  have b_GroundError : BaseInit K aGround := ⟨bs_GroundError, br_GroundError, bf_GroundError⟩
  have m_InvalidWord : mg "InvalidWord" = some (.ref aInvWord) := PySem.W.mg_of X G a_InvalidWord
  have at_InvalidWord : ErrAt K mg "InvalidWord" "InvalidWord.__init__" s_InvalidWord__init aInvWord := ⟨m_InvalidWord, ⟨⟨nm_InvalidWord, q_InvalidWord, N_InvalidWord, bs_InvalidWord, _, sn_InvalidWord, sub_InvalidWord, ab_InvalidWord, col_InvalidWord, dd_InvalidWord, m0_InvalidWord, m1_InvalidWord, m2_InvalidWord, m3_InvalidWord, m5_InvalidWord, x_InvalidWord, rfl⟩, sa_InvalidWord, ex_InvalidWord, ty_InvalidWord, kc_InvalidWord⟩, _, _, i_InvalidWord, ti_InvalidWord, fun_mk (st := s_InvalidWord__init) l_InvalidWord c_InvalidWord k_InvalidWord⟩
  have xc_InvalidWord : ExcC K aInvWord := ⟨xg_InvalidWord, xk_InvalidWord, ex_InvalidWord, xd_InvalidWord, xa_InvalidWord, xn_InvalidWord, xt_InvalidWord, xm_InvalidWord⟩
  have exm_InvalidWord : PySem.W.exmOne K (.ref aInvWord) (.ref aInvWord) = some true := PySem.W.exm_ref ex_InvalidWord xd_InvalidWord ty_InvalidWord xs_InvalidWord
  have m_Word : mg "Word" = some (.ref aWord) := PySem.W.mg_of X G a_Word
  have cl_Word : Cls K aWord := ⟨pg_Word, hd_Word, po_Word, sa_Word⟩
  have mk_Word : Mk K aWord f_Word := ⟨mk_Word, i_Word, if_Word, kc_Word⟩
  have fd_Word : FunD K "__init__" "Word.__init__" (defArgs s_Word__init) (defBody s_Word__init) (defScope s_Word__init) [.non, .non, .non] [] f_Word _ := ⟨⟨_, _, _, _, _, _, _, _, _, _, rfl, l_Word, c_Word, .inr ⟨List.cons_ne_nil _ _, _, _, _, _, rfl, t_Word, rfl, v_Word⟩, .inl rfl⟩, k_Word⟩
  have at_Word__eq : MetAt K aWord "__eq__" "Word.__eq__" s_Word__eq := ⟨cl_Word, _, _, ⟨i_Word__eq, if_Word__eq, k_Word__eq⟩, fun_mk (st := s_Word__eq) l_Word__eq c_Word__eq k_Word__eq⟩
  have at_Word__str : MetAt K aWord "__str__" "Word.__str__" s_Word__str := ⟨cl_Word, _, _, ⟨i_Word__str, if_Word__str, k_Word__str⟩, fun_mk (st := s_Word__str) l_Word__str c_Word__str k_Word__str⟩
  have at_Word_read : CmAt K aWord "read" "Word.read" s_Word_read := ⟨.type "type", _, _, _, ⟨cr_Word, cg_Word⟩, ⟨i_Word_read, ⟨_, pr_Word_read⟩, fn_in l_Word_read⟩, fun_mk (st := s_Word_read) l_Word_read c_Word_read k_Word_read⟩
  have m_LAST_SLOT : ∃ t, mg "LAST_SLOT" = some (.int 2 t) := ⟨_, PySem.W.mg_of X G a_LAST_SLOT⟩
  have m_MOST_DIGITS : ∃ t, mg "MOST_DIGITS" = some (.int 6 t) := ⟨_, PySem.W.mg_of X G a_MOST_DIGITS⟩
  have m_DIGITS : ∃ t, mg "DIGITS" = some (.str "0123456789" t) := ⟨_, PySem.W.mg_of X G a_DIGITS⟩
  have m_NOWHERE : ∃ t, mg "NOWHERE" = some (.str "none" t) := ⟨_, PySem.W.mg_of X G a_NOWHERE⟩
  have n_int : mg "int" = none := PySem.W.mg_none_of X G z_int
  have n_len : mg "len" = none := PySem.W.mg_none_of X G z_len
  have n_abs : mg "abs" = none := PySem.W.mg_none_of X G z_abs
  have n_repr : mg "repr" = none := PySem.W.mg_none_of X G z_repr
  have n_range : mg "range" = none := PySem.W.mg_none_of X G z_range
  have n_min : mg "min" = none := PySem.W.mg_none_of X G z_min
  have n_max : mg "max" = none := PySem.W.mg_none_of X G z_max
  have n_bool : mg "bool" = none := PySem.W.mg_none_of X G z_bool
  have n_str : mg "str" = none := PySem.W.mg_none_of X G z_str
  have n_zip : mg "zip" = none := PySem.W.mg_none_of X G z_zip
  have n_all : mg "all" = none := PySem.W.mg_none_of X G z_all
  have n_isinstance : mg "isinstance" = none := PySem.W.mg_none_of X G z_isinstance
  have at_law_box : DefAt K mg "_law_box" s_law_box := ⟨_, _, PySem.W.mg_of X G a_law_box, fun_mk (st := s_law_box) l_law_box c_law_box k_law_box⟩
  have at_law_take : DefAt K mg "_law_take" s_law_take := ⟨_, _, PySem.W.mg_of X G a_law_take, fun_mk (st := s_law_take) l_law_take c_law_take k_law_take⟩
  have at_law_pick : DefAt K mg "_law_pick" s_law_pick := ⟨_, _, PySem.W.mg_of X G a_law_pick, fun_mk (st := s_law_pick) l_law_pick c_law_pick k_law_pick⟩
  have at_law_parts : DefAt K mg "_law_parts" s_law_parts := ⟨_, _, PySem.W.mg_of X G a_law_parts, fun_mk (st := s_law_parts) l_law_parts c_law_parts k_law_parts⟩
  have at_law_line : DefAt K mg "_law_line" s_law_line := ⟨_, _, PySem.W.mg_of X G a_law_line, fun_mk (st := s_law_line) l_law_line c_law_line k_law_line⟩
  have at_law_number_of : DefAt K mg "_law_number_of" s_law_number_of := ⟨_, _, PySem.W.mg_of X G a_law_number_of, fun_mk (st := s_law_number_of) l_law_number_of c_law_number_of k_law_number_of⟩
  have at_law_read_parts : DefAt K mg "_law_read_parts" s_law_read_parts := ⟨_, _, PySem.W.mg_of X G a_law_read_parts, fun_mk (st := s_law_read_parts) l_law_read_parts c_law_read_parts k_law_read_parts⟩
  have at_law_parts_of : DefAt K mg "_law_parts_of" s_law_parts_of := ⟨_, _, PySem.W.mg_of X G a_law_parts_of, fun_mk (st := s_law_parts_of) l_law_parts_of c_law_parts_of k_law_parts_of⟩
  have at_law_heard : DefAt K mg "_law_heard" s_law_heard := ⟨_, _, PySem.W.mg_of X G a_law_heard, fun_mk (st := s_law_heard) l_law_heard c_law_heard k_law_heard⟩
  have at_law_spoilt : DefAt K mg "_law_spoilt" s_law_spoilt := ⟨_, _, PySem.W.mg_of X G a_law_spoilt, fun_mk (st := s_law_spoilt) l_law_spoilt c_law_spoilt k_law_spoilt⟩
  have at_law : DefAt K mg "law" s_law := ⟨_, _, PySem.W.mg_of X G a_law, fun_mk (st := s_law) l_law c_law k_law⟩
  have at_is_integer : DefAt K mg "is_integer" s_is_integer := ⟨_, _, PySem.W.mg_of X G a_is_integer, fun_mk (st := s_is_integer) l_is_integer c_is_integer k_is_integer⟩
  have at_is_from : DefAt K mg "is_from" s_is_from := ⟨_, _, PySem.W.mg_of X G a_is_from, fun_mk (st := s_is_from) l_is_from c_is_from k_is_from⟩
  have at_is_number : DefAt K mg "is_number" s_is_number := ⟨_, _, PySem.W.mg_of X G a_is_number, fun_mk (st := s_is_number) l_is_number c_is_number k_is_number⟩
  have at_number_of : DefAt K mg "number_of" s_number_of := ⟨_, _, PySem.W.mg_of X G a_number_of, fun_mk (st := s_number_of) l_number_of c_number_of k_number_of⟩
  have at_slot_of : DefAt K mg "slot_of" s_slot_of := ⟨_, _, PySem.W.mg_of X G a_slot_of, fun_mk (st := s_slot_of) l_slot_of c_slot_of k_slot_of⟩
  have T : Txt K mg aGround aWord aInvWord aInvText aInvRow := ⟨m_GroundError, b_GroundError, m_LAST_SLOT, m_MOST_DIGITS, m_DIGITS, m_NOWHERE, m_InvalidWord, PySem.W.mg_of X G a_IT, PySem.W.mg_of X G a_IR, m_Word, cl_Word, na_aWord_number, na_aWord_slot, na_aWord_ground, na_aWord_keep,
    fun H a dx fs e => .base (.ins e cl_Word caW cgW ctW obW), kit_tyOwn hd_Word tyA suT, kit_tyOwn hd_Word tyA suS, nf_ty suT, nf_ty suS, neW, obW, exm_InvalidWord, xc_InvalidWord, kit_sub hdG tyG suG xs_InvalidWord, kit_sub hdT tyT suIT xs_InvalidWord, kit_sub hdR tyR suIR xs_InvalidWord,
    n_int, n_len, n_abs, n_repr, n_range, n_min, n_max, n_bool, n_str, n_zip, n_all, n_isinstance⟩
  obtain ⟨ds, vd, bW⟩ := fd_Word.binds1 (ps := ["self", "number", "slot", "ground", "keep"]) 5 3 (by decide) rfl (fun T kV doc pm an cdv ct us its hu hi => match us, its, hu, hi with | [_, _, _, _, _], [_, _, _], _, _ => ⟨_, rfl, rfl⟩)
  obtain ⟨ds1, vd1, bW1⟩ := fd_Word.binds1 (ps := ["self", "number", "slot", "ground", "keep"]) 2 0 (by decide) rfl (fun T kV doc pm an cdv ct us its hu hi => match us, its, hu, hi with | [_, _], [_, _, _], _, _ => ⟨_, rfl, rfl⟩)
  obtain ⟨ds3, vd3, bW3⟩ := fd_Word.binds1 (ps := ["self", "number", "slot", "ground", "keep"]) 4 2 (by decide) rfl (fun T kV doc pm an cdv ct us its hu hi => match us, its, hu, hi with | [_, _, _, _], [_, _, _], _, _ => ⟨_, rfl, rfl⟩)
  intro base hb1 hb2
  have D_take := ok_take (P := P) (w := w) (base := base) at_law_take T
  have D_pick := ok_pick (P := P) (w := w) (base := base) at_law_pick T D_take
  have D_pickS := ok_pickS (P := P) (w := w) (base := base) at_law_pick T D_take
  have D_box := ok_box (P := P) (w := w) (base := base) at_law_box T
  have D_int := ok_is_integer (P := P) (w := w) (base := base) at_is_integer T
  have D_from := ok_is_from (P := P) (w := w) (base := base) at_is_from T D_int
  have D_num := ok_is_number (P := P) (w := w) (base := base) at_is_number T D_int
  have R_inv := ok_InvalidWord (P := P) (w := w) (base := base) at_InvalidWord T
  have F_word := ok_Word (P := P) (w := w) (base := base) fd_Word T D_num D_from R_inv
  have M_word : MakeOk P w K mg base (L2.CX P w) 4 "Word" aWord ["self", "number", "slot", "ground", "keep"] [] (spWord K aWord aInvWord) := ⟨m_Word, _, _, _, mk_Word, F_word, bW, vd⟩
  have M_word1 : MakeOk P w K mg base (L2.CX P w) 4 "Word" aWord ["self", "number", "slot", "ground", "keep"] [.non, .non, .non] (spWord K aWord aInvWord) := ⟨m_Word, _, _, _, mk_Word, F_word, bW1, vd1⟩
  have M_word3 : MakeOk P w K mg base (L2.CX P w) 4 "Word" aWord ["self", "number", "slot", "ground", "keep"] [.non] (spWord K aWord aInvWord) := ⟨m_Word, _, _, _, mk_Word, F_word, bW3, vd3⟩
  have D_no := ok_number_of (P := P) (w := w) (base := base) at_number_of T
  have D_so := ok_slot_of (P := P) (w := w) (base := base) at_slot_of T D_no
  have D_lno := ok_law_number_of (P := P) (w := w) (base := base) at_law_number_of T
  have D_rp := ok_read_parts (P := P) (w := w) (base := base) at_law_read_parts T D_lno
  have M_read := ok_read (P := P) (w := w) (base := base) at_Word_read T D_no D_so R_inv M_word
  have D_po := ok_parts_of (P := P) (w := w) (base := base) at_law_parts_of T
  have D_hd := ok_heard7 (P := P) (w := w) (base := base) at_law_heard T D_po M_read
  have D_pa := ok_law_parts (P := P) (w := w) (base := base) at_law_parts T D_take D_pick
  have D_li := ok_law_line (P := P) (w := w) (base := base) at_law_line T
  have D_sp := ok_law_spoilt (P := P) (w := w) (base := base) at_law_spoilt T D_take D_pick D_pickS
  have M_eq := ok_eqW (P := P) (w := w) (base := base) at_Word__eq T
  have M_str := ok_strW (P := P) (w := w) (base := base) at_Word__str T
  exact ok_law at_law T D_box D_take D_pa D_li D_po D_hd D_rp D_sp M_word M_word1 M_word3 M_eq M_str
end
end Hg
end L2

open PySem PySem.W PyProof.Rows in
set_option maxRecDepth 100000 in
set_option maxHeartbeats 0 in
theorem PySem.Challenge.cw_heldground_k73_words_and_their_texts_holds : PySem.Challenge.rw_heldground_k73_words_and_their_texts.Holds := by
  w_on; o_law; k_head; (case hw => w_witness2)
  k_fill
  refine L2.Hg.walk_ofG (l := PySem.Challenge.rw_heldground_k73_words_and_their_texts) (n := 63) (k := 8) (x := "_law_script") (sp := L2.Hg.spLaw) rfl (by decide) rfl ⟨rfl, by decide, by decide⟩ (fun w h Y => PySem.W.kIn_of Y) ?F (fun K H a ns hl hS => ⟨a, ns, rfl, hS, hl, fun _ => rfl⟩)
  case F =>
    intro w mg h KX G
    refine' L2.Hg.all_mk KX G ?a_GroundError ?bs_GroundError ?br_GroundError ?bf_GroundError ?a_InvalidWord ?x_InvalidWord ?sa_InvalidWord ?ex_InvalidWord ?ty_InvalidWord ?kc_InvalidWord ?i_InvalidWord ?ti_InvalidWord ?l_InvalidWord ?c_InvalidWord ?k_InvalidWord ?xg_InvalidWord ?xk_InvalidWord ?xd_InvalidWord ?xa_InvalidWord ?xn_InvalidWord ?xt_InvalidWord ?xm_InvalidWord ?xs_InvalidWord ?a_Word ?pg_Word ?hd_Word ?po_Word ?sa_Word ?mk_Word ?kc_Word ?i_Word ?if_Word ?l_Word ?c_Word ?k_Word ?t_Word ?v_Word ?i_Word__eq ?if_Word__eq ?l_Word__eq ?c_Word__eq ?k_Word__eq ?i_Word__str ?if_Word__str ?l_Word__str ?c_Word__str ?k_Word__str ?cg_Word ?cr_Word ?i_Word_read ?pr_Word_read ?l_Word_read ?c_Word_read ?k_Word_read ?na_aWord_number ?na_aWord_slot ?na_aWord_ground ?na_aWord_keep ?a_LAST_SLOT ?a_MOST_DIGITS ?a_DIGITS ?a_NOWHERE ?a_IT ?a_IR ?hdG ?tyG ?suG ?hdT ?tyT ?suIT ?hdR ?tyR ?suIR ?tyA ?suT ?suS ?neW ?obW ?caW ?cgW ?ctW ?z_int ?z_len ?z_abs ?z_repr ?z_range ?z_min ?z_max ?z_bool ?z_str ?z_zip ?z_all ?z_isinstance ?a_law_box ?l_law_box ?c_law_box ?k_law_box ?a_law_take ?l_law_take ?c_law_take ?k_law_take ?a_law_pick ?l_law_pick ?c_law_pick ?k_law_pick ?a_law_parts ?l_law_parts ?c_law_parts ?k_law_parts ?a_law_line ?l_law_line ?c_law_line ?k_law_line ?a_law_number_of ?l_law_number_of ?c_law_number_of ?k_law_number_of ?a_law_read_parts ?l_law_read_parts ?c_law_read_parts ?k_law_read_parts ?a_law_parts_of ?l_law_parts_of ?c_law_parts_of ?k_law_parts_of ?a_law_heard ?l_law_heard ?c_law_heard ?k_law_heard ?a_law_spoilt ?l_law_spoilt ?c_law_spoilt ?k_law_spoilt ?a_law ?l_law ?c_law ?k_law ?a_is_integer ?l_is_integer ?c_is_integer ?k_is_integer ?a_is_from ?l_is_from ?c_is_from ?k_is_from ?a_is_number ?l_is_number ?c_is_number ?k_is_number ?a_number_of ?l_number_of ?c_number_of ?k_number_of ?a_slot_of ?l_slot_of ?c_slot_of ?k_slot_of
    (case a_GroundError => k_is)
    (case bs_GroundError => k_is)
    (case br_GroundError => k_is)
    (case bf_GroundError => k_is)
    (case a_InvalidWord => k_is)
    (case x_InvalidWord => k_is)
    (case sa_InvalidWord => k_is)
    (case ex_InvalidWord => k_is)
    (case ty_InvalidWord => k_is)
    (case kc_InvalidWord => k_is)
    (case i_InvalidWord => k_is)
    (case ti_InvalidWord => k_is)
    (case l_InvalidWord => k_is)
    (case c_InvalidWord => k_is)
    (case k_InvalidWord => k_is)
    (case xg_InvalidWord => k_is)
    (case xk_InvalidWord => k_is)
    (case xd_InvalidWord => k_is)
    (case xa_InvalidWord => k_is)
    (case xn_InvalidWord => k_is)
    (case xt_InvalidWord => k_is)
    (case xm_InvalidWord => k_is)
    (case xs_InvalidWord => k_is)
    (case a_Word => k_is)
    (case pg_Word => k_is)
    (case hd_Word => k_is)
    (case po_Word => k_is)
    (case sa_Word => k_is)
    (case mk_Word => k_is)
    (case kc_Word => k_is)
    (case i_Word => k_is)
    (case if_Word => k_is)
    (case l_Word => k_is)
    (case c_Word => k_is)
    (case k_Word => k_is)
    (case t_Word => k_is)
    (case v_Word => repeat (first | exact .nil | refine .cons (by first | rfl | exact ⟨_, rfl⟩) ?_))
    (case i_Word__eq => k_is)
    (case if_Word__eq => k_is)
    (case l_Word__eq => k_is)
    (case c_Word__eq => k_is)
    (case k_Word__eq => k_is)
    (case i_Word__str => k_is)
    (case if_Word__str => k_is)
    (case l_Word__str => k_is)
    (case c_Word__str => k_is)
    (case k_Word__str => k_is)
    (case cg_Word => k_is)
    (case cr_Word => k_is)
    (case i_Word_read => k_is)
    (case pr_Word_read => k_is)
    (case l_Word_read => k_is)
    (case c_Word_read => k_is)
    (case k_Word_read => k_is)
    (case na_aWord_number => k_is)
    (case na_aWord_slot => k_is)
    (case na_aWord_ground => k_is)
    (case na_aWord_keep => k_is)
    (case a_LAST_SLOT => k_is)
    (case a_MOST_DIGITS => k_is)
    (case a_DIGITS => k_is)
    (case a_NOWHERE => k_is)
    (case a_IT => k_is)
    (case a_IR => k_is)
    (case hdG => k_is)
    (case tyG => k_is)
    (case suG => k_is)
    (case hdT => k_is)
    (case tyT => k_is)
    (case suIT => k_is)
    (case hdR => k_is)
    (case tyR => k_is)
    (case suIR => k_is)
    (case tyA => k_is)
    (case suT => k_is)
    (case suS => k_is)
    (case neW => k_is)
    (case obW => k_is)
    (case caW => k_is)
    (case cgW => k_is)
    (case ctW => k_is)
    (case z_int => k_is)
    (case z_len => k_is)
    (case z_abs => k_is)
    (case z_repr => k_is)
    (case z_range => k_is)
    (case z_min => k_is)
    (case z_max => k_is)
    (case z_bool => k_is)
    (case z_str => k_is)
    (case z_zip => k_is)
    (case z_all => k_is)
    (case z_isinstance => k_is)
    (case a_law_box => k_is)
    (case l_law_box => k_is)
    (case c_law_box => k_is)
    (case k_law_box => k_is)
    (case a_law_take => k_is)
    (case l_law_take => k_is)
    (case c_law_take => k_is)
    (case k_law_take => k_is)
    (case a_law_pick => k_is)
    (case l_law_pick => k_is)
    (case c_law_pick => k_is)
    (case k_law_pick => k_is)
    (case a_law_parts => k_is)
    (case l_law_parts => k_is)
    (case c_law_parts => k_is)
    (case k_law_parts => k_is)
    (case a_law_line => k_is)
    (case l_law_line => k_is)
    (case c_law_line => k_is)
    (case k_law_line => k_is)
    (case a_law_number_of => k_is)
    (case l_law_number_of => k_is)
    (case c_law_number_of => k_is)
    (case k_law_number_of => k_is)
    (case a_law_read_parts => k_is)
    (case l_law_read_parts => k_is)
    (case c_law_read_parts => k_is)
    (case k_law_read_parts => k_is)
    (case a_law_parts_of => k_is)
    (case l_law_parts_of => k_is)
    (case c_law_parts_of => k_is)
    (case k_law_parts_of => k_is)
    (case a_law_heard => k_is)
    (case l_law_heard => k_is)
    (case c_law_heard => k_is)
    (case k_law_heard => k_is)
    (case a_law_spoilt => k_is)
    (case l_law_spoilt => k_is)
    (case c_law_spoilt => k_is)
    (case k_law_spoilt => k_is)
    (case a_law => k_is)
    (case l_law => k_is)
    (case c_law => k_is)
    (case k_law => k_is)
    (case a_is_integer => k_is)
    (case l_is_integer => k_is)
    (case c_is_integer => k_is)
    (case k_is_integer => k_is)
    (case a_is_from => k_is)
    (case l_is_from => k_is)
    (case c_is_from => k_is)
    (case k_is_from => k_is)
    (case a_is_number => k_is)
    (case l_is_number => k_is)
    (case c_is_number => k_is)
    (case k_is_number => k_is)
    (case a_number_of => k_is)
    (case l_number_of => k_is)
    (case c_number_of => k_is)
    (case k_number_of => k_is)
    (case a_slot_of => k_is)
    (case l_slot_of => k_is)
    (case c_slot_of => k_is)
    (case k_slot_of => k_is)
