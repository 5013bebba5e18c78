import PyProof.Rows.All
import Wide.All
import OpenK.AllK
import Wide.FinOn
import HandS.ForMost
import HandS.ForExc
import HandS.ExcInit
import HandS.IsInst
import HandS.ExcIs
import PyProof.Rows.NestShow
import HandS.Wide
import HandS.Steps
import HandS.Defaults
import PyProof.ReprLen
import PyProof.FitsInt
import HandS.Property
import HandS.TupMul
import HandS.Star
import HandS.CallSlots
import HandS.Style
import HandS.Walk
import HandS.ExcField
import HandS.DictComp
import HandS.SortInts
import HandS.Records
import PyProof.FactsAll.object_2
import HandS.Text
import HandS.FStr
import HandS.RaiseMore
import KE.KMinKey
import HandS.SortKw
import HandS.Conv
import HandS.ClsMeth
import HandS.CallLocal
import HandS.More
import HandS.OwnEq
import HandS.MakeKw
import PyProof.NeKinds
import HandS.Zip
import PySem.Challenge.RW_heldground_k08_divisors_of_sets
section
set_option Elab.async false
set_option linter.all false
set_option maxRecDepth 100000
set_option maxHeartbeats 4000000
/-! Own errors of the package: the base's `__init__` called by the class's name, an error without arguments, an error with one field. -/
namespace L2
namespace Hg
open PySem PySem.Spec PyProof.Rows

/-- the base class at G has ValueError's own `__init__` -/
structure BaseInit (K : PySem.W.Frag) (G : Addr) : Prop where
  sp : PySem.W.specialIn K (.ref G) "__getattribute__" = some (some (.builtin "type.__getattribute__"))
  rd : PySem.W.readsIn K G (.type "type") = true
  fc : PySem.W.findCls K (.ref G) (.type "type") "__init__" = some (.val (.builtin "ValueError.__init__"))

section
variable {X : Cx} {e : Expr} {es : List Expr} {ta : TA} {p p1 p2 pos : Pos} {G C fI : Addr} {g x : Str}
theorem pe_ginit {pl : Sem Bool} (hg : Gl X g) (hm : X.mg g = some (.ref G)) (B : BaseInit X.K G) (ha : PA X (e :: es) ta)
    (hdb : (g == ("__debug__" : Str)) = false := by decide)
    (hc : eval (.Call (.Attribute (.Name g p1) "__init__" p2) (e :: es) [] pos) X.env = (do
      let ov ← eval (.Name g p1) X.env
      standAt p2.atName
      let (f, first) ← holding [ov] (getMethod ov "__init__" pl)
      callWith pos f first (backTo pos (starEach (e :: es) X.env)) (backToKw pos (keywordEach [] X.env))) := by rfl)
    (he : starEach (e :: es) X.env = (false, eval e X.env) :: starEach es X.env := by rfl)
    (hpl : (backTo pos (starEach es X.env)).any (·.1) = false := by rfl) :
    PE X (.Call (.Attribute (.Name g p1) "__init__" p2) (e :: es) [] pos) (tVeI X.K ta) := by
  refine ⟨fun pins s σ H Q I h => ?_⟩
  refine PySem.W.methodCall_KW (ld_glob I hg hm ?_ hdb) hc
  refine PySem.W.method_cls I.kIn B.sp (PySem.W.cls_value I.kIn B.rd B.fc (by decide +kernel) ?_)
  show wpAny _ _ (callWith pos (Value.builtin "ValueError.__init__") [] (backTo pos (starEach (e :: es) X.env)) []) _ _ _
  refine PyProof.Rows.callWith_method1 (thn (ha.run pos pins _ σ H _ (I.tok _) h) fun us s1 hq => ?_) he hpl
  obtain ⟨vs, H1, I1, r1, a, C, ws, ev, hl, T, ea, q⟩ := hq
  subst ev
  cases r1 with
  | @cons _ u0 _ ur ra rr =>
    obtain rfl : u0 = Value.ref a := ra
    have hz : ur.length ≤ sizeLine := by
      rw [← Paired.length rr, sizeLine_eq]; omega
    exact oinit_ok T I1 ea hz fun s' J => ⟨.non, H1, J, rfl, q⟩

/-- C(), the class's own `__init__` stores nothing -/
def tMkN (C : Addr) (sp : Sp) : St → Hp → XK → Prop := fun σ H Q => ∀ a, H a = none →
  sp [.ref a] (upd H a (exo a C none)) (fun v H2 => v = .non ∧ H2 a = some (exo a C none) ∧ Q (.ref C) none (del H2 a)) (fun _ _ _ => False)

theorem upd_del {H : Hp} {a : Addr} {o : HO} (h : H a = none) : del (upd H a o) a = H := by
  funext b
  unfold del
  by_cases hb : b = a
  · subst hb; rw [if_pos rfl, h]
  · rw [if_neg hb, upd_ne hb]

theorem mk_endN {pins : List (Addr × Obj)} {σ : St} {H1 H2 : Hp} {Q : XK} {hp hp2 h2 : Heap} {g1 g2 : Array GenState} {d1 d2 : Drawn} {t1 t2 : Nat} {os1 os2 : OsState} {a : Addr}
    (T : Raises X (.ref C)) (I1 : Inv X pins σ H1 ⟨hp, g1, d1, t1, os1⟩) (ha : hp.objs.size ≤ a)
    (k : ∀ b o, hp.get? b = some o → hp2.get? b = some o)
    (un : Un (frs X.stack) [] (upd H1 a (exo a C none)) H2 hp2 h2) (hok : HOk X.prog X.w H2 h2) (ho : os2 = os1) (hb : AllBare g2)
    (ea : H2 a = some (exo a C none)) (q : Q (.ref C) none (del H2 a)) : MkP X pins σ Q (.ref a) ⟨h2, g2, d2, t2, os2⟩ := by
  obtain ⟨t0, hoe⟩ := exo_at hok ea
  have hn : H1 a = none := I1.hok.fresh ha
  obtain ⟨Gh, gA, gB⟩ := restrict h2 fun b => decide (b ≠ a)
  have gk : ∀ b, b ≠ a → Gh.get? b = h2.get? b := fun b hb => gA b (decide_eq_true hb)
  have ge : Gh.get? a = none := gB a (by simp)
  have nha : ∀ {b : Addr} {o : Obj}, hp.get? b = some o → b ≠ a := fun {b o} z =>
    Nat.ne_of_lt (Nat.lt_of_lt_of_le (Heap.lt_size z) ha)
  have up : ∀ {b : Addr}, b ≠ a → H1 b = none → upd H1 a (exo a C none) b = none := fun {b} hb n => by
    rw [upd_ne hb]; exact n
  have U : Un (frs X.stack) [] H1 (del H2 a) hp Gh :=
    { keep := fun b o z n hf hx => by
        rw [gk b (nha z)]
        exact un.keep b o (k b o z) (up (nha z) n) hf hx
      slot := fun b o z n hf hx => by
        rw [gk b (nha z)]
        exact un.slot b o (k b o z) (up (nha z) n) hf hx
      free := fun b o z n hx => by
        rw [del_ne (nha z)]
        exact un.free b o (k b o z) (up (nha z) n) hx
      there := fun b o z hx => by
        rw [gk b (nha z)]
        exact un.there b o (k b o z) hx
      tups := fun b xs z => by
        rw [del_ne (ne_of_none z hn)]
        exact un.tups b xs ((upd_ne (ne_of_none z hn)).trans z)
      frzs := fun b o v z => by
        rw [del_ne (ne_of_none z hn)]
        exact un.frzs b o v ((upd_ne (ne_of_none z hn)).trans z)
      tbls := fun b ps z => by
        rw [del_ne (ne_of_none z hn)]
        exact un.tbls b ps ((upd_ne (ne_of_none z hn)).trans z) }
  have hok3 : HOk X.prog X.w (del H2 a) Gh := fun b o z => by
    have hba : b ≠ a := fun w => by rw [w, del_same] at z; cases z
    rw [del_ne hba] at z
    have noa : ∀ {c : Addr}, H2 c = some (.own b) → c ≠ a := fun {c} hc => at_ne ea hc exo_own
    refine (hok b o z).stay (fun c v hc y => ?_) (fun c hc => ?_) (fun c xs hc => ?_)
    · have hca : c ≠ a := by
        rcases hc with hc | hc
        · rw [hc]; exact hba
        · exact noa hc
      rw [gk c hca]; exact y
    · rw [del_ne (noa hc)]; exact hc
    · rw [del_ne (at_ne ea hc exo_tup)]; exact hc
  have J : Inv X pins σ (del H2 a) ⟨Gh, g2, d2, t2, os2⟩ := I1.call' (ch := []) ho U hok3 hb fun b z => absurd z (by simp)
  refine ⟨a, _, _, ⟨Gh, g2, d2, t2, os2⟩, _, .ref C, none, rfl, J, fun b o z => ?_, ge, hoe, ⟨rfl, rfl⟩, rfl, rfl, del_same, rfl, hb, T, q⟩
  by_cases hba : b = a
  · rw [hba] at z
    have z' : Gh.get? a = some o := z
    rw [ge] at z'; cases z'
  · exact (gk b hba).symm.trans z

theorem pmk_oexN {CX : CXT} {k : Nat} {fd : FuncData} {ps : List Str} {sp : Sp} (T : OexC X.K C)
    (iC : PySem.W.findIn X.K (.ref C) "__init__" = some (some (.ref fI))) (tI : PySem.W.typeIn X.K (.ref fI) = some (.type "function"))
    (F1 : FnOk X.prog X.w X.K X.mg X.base CX k fI fd ps sp) (hr : Room (k + 1) X.A) (hb : Binds X.K fd ps [])
    (hx : Passes CX X (fun _ _ _ => False)) (hg : Gl X x) (hm : X.mg x = some (.ref C))
    (hdb : (x == ("__debug__" : Str)) = false := by decide) : PMk X (.Call (.Name x p) [] [] pos) (tMkN C sp) := by
  intro pins s σ H Q I h
  obtain ⟨nm, q, N, bs, bm, sn, sub, ab, col, dd, k0, k1, k2, k3, k5, hC, hbm⟩ := T.cls
  refine wpAny_Call_Name_kw (ld_glob I hg hm ?_ hdb)
  refine PySem.W.callWith_K0 I.kIn T.kC ?_
  show wpAny _ _ (call (.ref C) []) _ _ _
  obtain ⟨hp, gs, dr, tk, os⟩ := s
  have hsz : hp.objs.size ≤ hp.objs.size + 1 := Nat.le_succ _
  have hn : H (hp.objs.size + 1) = none := I.hok.fresh hsz
  have hq := h (hp.objs.size + 1) hn
  have kk : ∀ b o, hp.get? b = some o → ((hp.push (PySem.W.kdv_tup [])).push (PySem.HandSPX.excO C hp.objs.size)).get? b = some o :=
    fun b o z => Heap.get?_push_of_some _ (Heap.get?_push_of_some _ z)
  have hget : ((hp.push (PySem.W.kdv_tup [])).push (PySem.HandSPX.excO C hp.objs.size)).get? (hp.objs.size + 1) = some (PySem.HandSPX.excO C hp.objs.size) := by heap_get
  have I2 : Inv X pins σ (upd H (hp.objs.size + 1) (exo (hp.objs.size + 1) C none)) ⟨(hp.push (PySem.W.kdv_tup [])).push (PySem.HandSPX.excO C hp.objs.size), gs, dr, tk, os⟩ :=
    I.laid (t' := tk) (a := hp.objs.size + 1) (o := exo (hp.objs.size + 1) C none) (h' := (hp.push (PySem.W.kdv_tup [])).push (PySem.HandSPX.excO C hp.objs.size)) kk hsz (exo_ok hget)
  have r2 : Vals [V.ref (hp.objs.size + 1)] [Value.ref (hp.objs.size + 1)] := .cons rfl .nil
  have hl : ([Value.ref (hp.objs.size + 1)] ++ []).length = ps.length := by
    have z := r2.length
    rw [F1.len _ _ _ _ hq] at z
    exact z.symm
  refine wpAny_call (PySem.HandSPX.call_own F.excBase_ValueError (fun Y => PySem.HandSPX.refsVE_contains Y bm hbm) (I.kIn _ _ hC) (PySem.W.looks_findIn I.kIn iC) (fun self => PySem.W.bind_fn I.kIn self tI) (Nat.zero_le _)
    (codeAny_mono (F1.run _ X.stack _ _ ⟨[Value.ref (hp.objs.size + 1)], []⟩ [Value.ref (hp.objs.size + 1)] _ _ (fun _ _ _ => False) (hr.make C [] []) (I2.env0.make C [] []) (hb _ [Value.ref (hp.objs.size + 1)] I2.kIn hl) r2 hq) fun r s' hq' => ?_))
  cases r with
  | error er => exact hx pins σ _ _ er s' I2 hq'
  | ok fl =>
    cases fl with
    | ret u =>
      obtain ⟨v, H2, os2, bare2, un2, hok2, rv, ev, ea, q2⟩ := hq'
      subst ev
      obtain ⟨h2, g2, d2, t2, os'⟩ := s'
      exact ⟨rv, mk_endN (raises_own T.exC T.tyC) I hsz kk un2 hok2 os2 bare2 ea q2⟩
    | next => exact False.elim hq'
    | brk => exact False.elim hq'
    | cont => exact False.elim hq'
end

/-! ### promises of the errors' `__init__` -/
/-- no field -/
def spInitN (K : PySem.W.Frag) (C : Addr) : Sp := fun vs H Q _ => ∃ a, vs = [.ref a] ∧ OexC K C ∧ H a = some (exo a C none) ∧ Q .non H
/-- one field f -/
def spInitF (K : PySem.W.Frag) (C : Addr) (f : Str) : Sp := fun vs H Q _ => ∃ a x, vs = [.ref a, x] ∧ OexC K C ∧ PySem.W.findIn K (.ref C) f = some none ∧ H a = some (exo a C none) ∧
  ∀ dx, H dx = none → dx ≠ a → Q .non (upd (upd H dx (exd dx [(f, x)])) a (exo a C (some dx)))
theorem upd_three {H : Hp} {a d : Addr} {o1 o2 o3 o4 : HO} (h : H a = none) (hd : d ≠ a) : upd (del (upd (upd (upd H a o1) d o2) a o3) a) d o4 = upd H d o4 := by
  funext b
  by_cases hb : b = d
  · subst hb; rw [upd_same, upd_same]
  · rw [upd_ne hb, upd_ne hb]
    by_cases hba : b = a
    · subst hba; rw [del_same, h]
    · rw [del_ne hba, upd_ne hba, upd_ne hb, upd_ne hba]
section
variable {K : PySem.W.Frag} {C : Addr} {f : Str} {σ : St} {H : Hp} {Q : XK}
/-- C() read -/
theorem r_mkN (T : OexC K C) (k : Q (.ref C) none H) : tMkN C (spInitN K C) σ H Q := by
  intro a ha
  refine ⟨a, rfl, T, upd_same, rfl, upd_same, ?_⟩
  rw [upd_del ha]
  exact k
/-- C(x) read -/
theorem r_mkF {x : V} {ta : TA} (T : OexC K C) (hf : PySem.W.findIn K (.ref C) f = some none)
    (h : ta σ H fun vs H1 => ∃ x, vs = [x] ∧ ∀ d, H1 d = none → Q (.ref C) (some d) (upd H1 d (.xd [(f, x)])))
    (mono : ∀ {P P' : List V → Hp → Prop}, (∀ vs H, P vs H → P' vs H) → ta σ H P → ta σ H P') : tMkO C (spInitF K C f) [] ta σ H Q := by
  refine mono (fun vs H1 hq => ?_) h
  obtain ⟨x, rfl, q⟩ := hq
  refine ⟨(by show 1 ≤ 1000; decide), fun a ha => ?_⟩
  refine ⟨a, x, rfl, T, hf, upd_same, fun dx hdx ne => ⟨rfl, dx, [(f, x)], upd_same, ?_, ?_, ?_⟩⟩
  · rw [upd_ne ne, upd_same]
  · rw [upd_ne ne] at hdx; exact hdx
  · rw [upd_three ha ne]
    rw [upd_ne ne] at hdx
    exact q dx hdx
end
end Hg
end L2
end

section
set_option Elab.async false
set_option linter.all false
set_option maxRecDepth 100000
set_option maxHeartbeats 4000000
/-! Promises that hold where no repr is under way (guards empty), and repr of data. -/
namespace L2
namespace Hg
open PySem PySem.Spec PyProof.Rows

/-- a def's promise, asked where no guard is set -/
structure FnG (P : Program) (w : World) (K : PySem.W.Frag) (mg : Str → Option Value) (base : Heap) (CX : CXT) (k : Nat) (f : Addr) (fd : FuncData) (ps : List Str) (sp : Sp) : Prop where
  len : ∀ vs H Q E, sp vs H Q E → vs.length = ps.length
  run : ∀ (A : Around) (outer : List Env) (s : Shared) (H : Hp) (args : Args) (us : List Value) (vs : List V) (Q : VK) (E : XK),
    A.guards = some [] → Room k A → Env0 P w K mg base A outer s H → BindsTo s fd args (ps.zip us) → Vals vs us → sp vs H Q E →
    codeAny (model P w) A (.call (.ref f) args) (CR CX outer P w H s Q E) s

section
variable {P : Program} {w : World} {K : PySem.W.Frag} {mg : Str → Option Value} {base : Heap} {CX : CXT} {j k : Nat} {f : Addr} {fd : FuncData} {ps : List Str} {sp : Sp}
theorem _root_.L2.FnOk.g (F : FnOk P w K mg base CX k f fd ps sp) : FnG P w K mg base CX k f fd ps sp :=
  ⟨F.len, fun A outer s H args us vs Q E _ => F.run A outer s H args us vs Q E⟩

theorem fn_ofG {name qual : Str} {params : Arguments} {body : List Stmt} {scope : Scope} {dV kV doc pm cdv ct oc : Value} {an od : Option Addr}
    {osl : Array (Option Value)} {N : List Str} (lk : K.lookup f = some ⟨oc, od, .func (PySem.W.fnOf name qual params body scope dV kV doc pm an cdv ct), osl⟩)
    (hcd : PySem.W.codeIn K cdv qual = true) (S : FnScope N ps scope)
    (len : ∀ vs H Q E, sp vs H Q E → vs.length = ps.length)
    (hbody : ∀ (A : Around) (outer : List Env) (s : Shared) (H : Hp) (vs : List V) (Q : VK) (E : XK), A.guards = some [] →
      Room k (A.deeper (envOfC qual scope s.heap.objs.size f cdv)) → sp vs H Q E →
      ∃ t, PSs (cxOf CX P w K mg base N qual scope f cdv A outer s H E) body t ∧ t { nx := fun _ H' => Q .non H', rt := Q } (start N vs) H) :
    FnG P w K mg base CX (k + 1) f (PySem.W.fnOf name qual params body scope dV kV doc pm an cdv ct) ps sp := by
  constructor
  · exact len
  intro A outer s H args us vs Q E hgd hr e0 hb r hsp
  have hl := len _ _ _ _ hsp
  have old : ∀ b o, base.get? b = some o → s.heap.get? b = some o := fun b o z => (e0.bs b o z).1
  have KX : K.In s.heap := e0.mod.kin.keeps old
  have lim : s.heap.NoLimit := e0.mod.nolimit.keeps old
  have hkind : ∀ y ∈ ps.zip us, scope.names.lookup y.1 = some .local ∨
      (scope.names.lookup y.1 = some .cell ∧ ((cellsFrom (s.heap.objs.size + 1) scope.names []).lookup y.1).isSome = true) := by
    rintro ⟨n, v⟩ hy
    rcases S.par n (List.of_mem_zip hy).1 with q | q
    · exact Or.inl q
    · exact Or.inr ⟨q, PySem.W.cellsFrom_some _ _ _ (.inl q)⟩
  refine codeAny_call_function hr.depth (KX _ _ lk) rfl S.co S.gen rfl (PySem.W.codeRec_of KX hcd) (hb _ _ _ _ ?_)
  refine wpAny_newFunctionEnv_cells S.kind hkind fun env he s1 x => ?_
  subst he
  refine ⟨lim.keeps x.toInCall.keep, codeAny_func ?_⟩
  obtain ⟨t, ht, hq⟩ := hbody A outer s H vs Q E hgd (hr.deeper _) hsp
  have I : Inv (cxOf CX P w K mg base N qual scope f cdv A outer s H E) [] (start N vs) H s1 := inv_start S hr.hd e0 hl r x
  have fin : ∀ {s' : Shared} {σ' : St} {H' : Hp} {v : V} {u : Value}, Inv (cxOf CX P w K mg base N qual scope f cdv A outer s H E) [] σ' H' s' →
      RelV v u → Q v H' → CE outer P w H s Q u s' := fun J rv q => ⟨_, _, J.os, J.bare, J.base, J.hok, rv, q⟩
  refine wpAny_mono (ht.run [] s1 (start N vs) H _ I hq) (fun fl s' hs => ?_) fun e s' hs => hs
  cases fl with
  | ret u =>
    obtain ⟨v, σ', H', J, rv, q⟩ := hs
    exact fin J rv q
  | next =>
    obtain ⟨σ', H', J, q⟩ := hs
    exact fin (v := V.non) (u := Value.none) J rfl q
  | brk =>
    obtain ⟨_, _, _, q⟩ := hs
    cases q
  | cont =>
    obtain ⟨_, _, _, q⟩ := hs
    cases q

/-- a def of the text, by its body; no error leaves it -/
theorem okG {x qual : Str} {st : Stmt} {N : List Str} (F : Fun K x qual st f fd) (S : FnScope N ps (defScope st)) (len : ∀ vs H Q E, sp vs H Q E → vs.length = ps.length)
    (hbody : ∀ (cdv : Value) (A : Around) (outer : List Env) (s : Shared) (H : Hp) (vs : List V) (Q : VK) (E : XK), A.guards = some [] →
      Room k (A.deeper (envOfC qual (defScope st) s.heap.objs.size f cdv)) → sp vs H Q E →
      ∃ t, PSs (cxOf CX0 P w K mg base N qual (defScope st) f cdv A outer s H E).nox (defBody st) t ∧ t { nx := fun _ H' => Q .non H', rt := Q } (start N vs) H) :
    FnG P w K mg base CX0 (k + 1) f fd ps sp := by
  obtain ⟨oc, od, kV, doc, pm, an, cdv, ct, osl, rfl, lk, hcd⟩ := F.ex
  refine fn_ofG lk hcd S len fun A outer s H vs Q E hg hr hsp => ?_
  obtain ⟨t, h, q⟩ := hbody cdv A outer s H vs Q E hg hr hsp
  exact ⟨t, h.nox, q⟩
end

section
variable {X : Cx} {CX : CXT} {k : Nat} {f C : Addr} {fd : FuncData} {ps : List Str} {sp : Sp} {dvs : List V} {ds : List Value} {E : XK} {x m : Str} {p pos apos : Pos} {e o : Expr} {es : List Expr} {ta : TE} {t : TA}
theorem run_fnG {pins : List (Addr × Obj)} {σ : St} {H : Hp} {s : Shared} {Q : VK} {us : List Value} {vs : List V} (F : FnG X.prog X.w X.K X.mg X.base CX k f fd ps sp)
    (hg : X.A.guards = some []) (hr : Room k X.A) (hb : Binds X.K fd ps ds) (hd : Vals dvs ds) (hx : Passes CX X E)
    (I : Inv X pins σ H s) (r : Vals vs us) (h : sp (vs ++ dvs) H Q E) : wpAny (model X.prog X.w) X.A (call (.ref f) us) (EP X pins σ Q) X.xe s := by
  have r2 : Vals (vs ++ dvs) (us ++ ds) := r.append hd
  have hl : (us ++ ds).length = ps.length := by
    rw [← r2.length]
    exact F.len _ _ _ _ h
  have main := F.run X.A X.stack s H ⟨us, []⟩ (us ++ ds) (vs ++ dvs) Q E hg hr I.env0 (hb s us I.kIn hl) r2 h
  refine wpAny_call (codeAny_mono main fun r s' hq => ?_)
  cases r with
  | error er => exact hx pins σ H s er s' I hq
  | ok fl =>
    cases fl with
    | ret u => exact I.after hq
    | next => exact False.elim hq
    | brk => exact False.elim hq
    | cont => exact False.elim hq
theorem pe_callG (F : FnG X.prog X.w X.K X.mg X.base CX k f fd ps sp) (hgd : X.A.guards = some []) (hr : Room k X.A) (hg : Gl X x) (hm : X.mg x = some (.ref f)) (hk : PySem.W.keepIn X.K (.ref f) = true)
    (hb : Binds X.K fd ps ds) (hd : Vals dvs ds) (hx : Passes CX X E) (ha : PA X (e :: es) t) (hdb : (x == ("__debug__" : Str)) = false := by decide)
    (he : starEach (e :: es) X.env = (false, eval e X.env) :: starEach es X.env := by rfl) (hpl : (backTo pos (starEach es X.env)).any (·.1) = false := by rfl) :
    PE X (.Call (.Name x p) (e :: es) [] pos) (tCall sp dvs E t) := by
  refine ⟨fun pins s σ H Q I h => wpAny_Call_Name_kw (ld_glob I hg hm ?_ hdb)⟩
  exact PySem.W.callWith_K (h₀ := X.base) I.ok.mod.kin hk (thn (ha.run pos pins s σ H _ I h) fun us s1 ⟨vs, H1, I1, r, q⟩ => ⟨I1.kIn, run_fnG F hgd hr hb hd hx I1 r q⟩) he hpl
theorem pe_callG0 (F : FnG X.prog X.w X.K X.mg X.base CX k f fd ps sp) (hgd : X.A.guards = some []) (hr : Room k X.A) (hg : Gl X x) (hm : X.mg x = some (.ref f)) (hk : PySem.W.keepIn X.K (.ref f) = true)
    (hb : Binds X.K fd ps ds) (hd : Vals dvs ds) (hx : Passes CX X E) (hdb : (x == ("__debug__" : Str)) = false := by decide) : PE X (.Call (.Name x p) [] [] pos) (tCall sp dvs E tNil) := by
  refine ⟨fun pins s σ H Q I h => wpAny_Call_Name_kw (ld_glob I hg hm ?_ hdb)⟩
  exact PySem.W.callWith_K0 I.kIn hk (run_fnG (us := []) F hgd hr hb hd hx I .nil h)

/-- repr of data -/
def rRepr (K : PySem.W.Frag) : List V → Hp → VK → Prop := fun vs H Q => ∃ x d, vs = [x] ∧ Dp K H x d ∧ d.showable = true ∧ d.hasDict = false ∧ d.depth ≤ 60 ∧ d.shown.length ≤ sizeLine ∧ Q (.str d.shown) H
theorem call_repr (hgd : X.A.guards = some []) (hr : X.A.units + 64 < cLine) : CallR X (.builtin "repr") (rRepr X.K) := by
  intro pins s σ H vs us Q I r h
  obtain ⟨x, d, rfl, hd, hs, hn, hz, hl, q⟩ := h
  obtain ⟨u, rfl, rx⟩ := vals1 r
  obtain ⟨as, rd⟩ := Dp.reads I d x u hd rx
  cases d with
  | none => cases rd; exact PySem.P.repr_of_none ⟨.str _, H, I.tok _, ⟨_, rfl⟩, q⟩
  | bool b => cases rd; exact PySem.P.repr_of_bool ⟨.str _, H, I.tok _, ⟨_, rfl⟩, q⟩
  | int i => cases rd; exact PySem.P.repr_of_int (by simpa [PyData.showable] using hs) ⟨.str _, H, I.tok _, ⟨_, rfl⟩, q⟩
  | str y => cases rd; exact PySem.P.repr_of_str ⟨.str _, H, I.tok _, ⟨_, rfl⟩, q⟩ hl
  | list xs =>
    have hh := hd
    cases hh
    cases (show u = Value.ref _ from rx)
    exact repr_of_reads' rd hs (PyData.noDict_hsm hn) hgd (by omega) (fun _ _ z => z) (fun h' u tk hk => ⟨.str _, H, I.kept (t' := tk) hk, ⟨u, rfl⟩, q⟩) hl
  | tuple xs =>
    have hh := hd
    cases hh
    cases (show u = Value.ref _ from rx)
    exact repr_of_reads' rd hs (PyData.noDict_hsm hn) hgd (by omega) (fun _ _ z => z) (fun h' u tk hk => ⟨.str _, H, I.kept (t' := tk) hk, ⟨u, rfl⟩, q⟩) hl
  | dict _ => cases hn
end
end Hg
end L2
end

section
set_option Elab.async false
set_option linter.all false
set_option maxRecDepth 100000
set_option maxHeartbeats 4000000
/-! One rule an operator, for all the kinds that the package uses; readings in steps. -/
namespace L2
namespace Hg
open PySem PySem.Spec PyProof.Rows

/-! ### operators by values -/
def uAddI : R2 := rI0 fun i j => .int (i + j)
def uAddS : R2 := fun x y H Q => ∃ i j, x = .str i ∧ y = .str j ∧ i.length + j.length ≤ sizeLine ∧ Q (.str (i ++ j)) H
def uAdd (K : PySem.W.Frag) : R2 := fun x y H Q => uAddI x y H Q ∨ uAddS x y H Q ∨ rCat x y H Q ∨ rCatT K x y H Q
def uSub : R2 := rI0 fun i j => .int (i - j)
def uMul : R2 := fun x y H Q => rI CMul (fun i j => .int (i * j)) x y H Q ∨ rI CMulW (fun i j => .int (i * j)) x y H Q ∨ rRep x y H Q
def uDiv : R2 := fun x y H Q => rI CDiv (fun i j => .int (i / j)) x y H Q ∨ rI CDivW (fun i j => .int (i / j)) x y H Q
def uMod : R2 := rI (fun _ j => 0 < j) fun i j => .int (i % j)
def uPow : R2 := rI CPow fun i j => .int (i ^ j.toNat)
def uLt : R2 := rI0 fun i j => .bl (decide (i < j))
def uLe : R2 := rI0 fun i j => .bl (decide (i ≤ j))
def uGt : R2 := rI0 fun i j => .bl (decide (j < i))
def uGe : R2 := rI0 fun i j => .bl (decide (j ≤ i))
def uEq (K : PySem.W.Frag) : R2 := fun x y H Q => rEq x y H Q ∨ rEqD K x y H Q
def uNe (K : PySem.W.Frag) : R2 := fun x y H Q => rNe x y H Q ∨ rNeD K x y H Q
def uIn (K : PySem.W.Frag) : R2 := fun x y H Q => rIn K false x y H Q ∨ rInS x y H Q
def uNotIn (K : PySem.W.Frag) : R2 := fun x y H Q => rIn K true x y H Q ∨ rNotInS x y H Q
section
variable {X : Cx}
theorem o_add (K : PySem.W.Frag) (hK : X.K = K := by rfl) : OpR X (binaryOp .Add) (uAdd K) := hK ▸ OpR.or op_add (OpR.or op_add_str (OpR.or op_cat op_catT))
theorem o_sub : OpR X (binaryOp .Sub) uSub := op_sub
theorem o_mul : OpR X (binaryOp .Mult) uMul := OpR.or op_mul (OpR.or op_mulW op_rep)
theorem o_div : OpR X (binaryOp .FloorDiv) uDiv := OpR.or op_fdiv op_fdivW
theorem o_mod : OpR X (binaryOp .Mod) uMod := op_mod
theorem o_pow : OpR X (binaryOp .Pow) uPow := op_pow
theorem o_lt : OpR X (compareOp .Lt) uLt := op_lt
theorem o_le : OpR X (compareOp .LtE) uLe := op_le
theorem o_gt : OpR X (compareOp .Gt) uGt := op_gt
theorem o_ge : OpR X (compareOp .GtE) uGe := op_ge
theorem o_eq (K : PySem.W.Frag) (hu : X.A.units + 64 < cLine) (hK : X.K = K := by rfl) : OpR X (compareOp .Eq) (uEq K) := hK ▸ OpR.or op_eq (op_eqD hu)
theorem o_ne (K : PySem.W.Frag) (hu : X.A.units + 64 < cLine) (hK : X.K = K := by rfl) : OpR X (compareOp .NotEq) (uNe K) := hK ▸ OpR.or op_ne (op_neD hu)
theorem o_in (K : PySem.W.Frag) (hK : X.K = K := by rfl) : OpR X (compareOp .In) (uIn K) := hK ▸ OpR.or op_in_seq op_inS
theorem o_notIn (K : PySem.W.Frag) (hK : X.K = K := by rfl) : OpR X (compareOp .NotIn) (uNotIn K) := hK ▸ OpR.or op_notIn_seq op_notInS
theorem o_is : OpR X (compareOp .Is) rIsN := op_isN1
theorem o_isNot : OpR X (compareOp .IsNot) rNotN := op_notN1
theorem ix_u (K : PySem.W.Frag) (hK : X.K = K := by rfl) : IxR X (rIx K) := hK ▸ ix_seq
end

/-! ### calls of built-ins by values -/
def uLen (K : PySem.W.Frag) : List V → Hp → VK → Prop := fun xs H Q => (∃ x n, xs = [x] ∧ LenV K x H n ∧ Q (.int n) H) ∨ ∃ a kvs, xs = [V.ref a] ∧ H a = some (.dK kvs) ∧ Q (.int kvs.length) H
def uAbs : List V → Hp → VK → Prop := fun xs H Q => ∃ i, xs = [.int i] ∧ Q (.int (if i < 0 then -i else i)) H
def uMin2 : List V → Hp → VK → Prop := fun xs H Q => ∃ i j, xs = [.int i, .int j] ∧ Q (.int (if j < i then j else i)) H
def uMax2 : List V → Hp → VK → Prop := fun xs H Q => ∃ i j, xs = [.int i, .int j] ∧ Q (.int (if j > i then j else i)) H
def uInt : List V → Hp → VK → Prop := fun xs H Q => ((∃ i, xs = [.int i] ∧ Q (.int i) H) ∨ ∃ k, xs = [.bl k] ∧ Q (.int (if k then 1 else 0)) H) ∨ ∃ a n, xs = [.str a] ∧ PySem.intText? a = some n ∧ a.length ≤ 640 ∧ Q (.int n) H
def uList (K : PySem.W.Frag) : List V → Hp → VK → Prop := fun xs H Q => ∃ p ys, xs = [.ref p] ∧ (SqL K H p ys ∨ SqT K H p ys) ∧ ∀ l, H l = none → Q (.ref l) (upd H l (.lst ys))
def uTuple (K : PySem.W.Frag) : List V → Hp → VK → Prop := fun xs H Q => ∃ p ys, xs = [.ref p] ∧ ((SqL K H p ys ∧ ∀ l, H l = none → Q (.ref l) (upd H l (.tup ys))) ∨ (SqT K H p ys ∧ Q (.ref p) H))
section
variable {X : Cx}
theorem c_len (K : PySem.W.Frag) (hK : X.K = K := by rfl) : CallR X (.builtin "len") (uLen K) := hK ▸ CallR.or call_len call_lenD
theorem c_abs : CallR X (.builtin "abs") uAbs := call_abs
theorem c_min2 (hc : X.calm = true) : CallR X (.builtin "min") uMin2 := call_min2 hc
theorem c_max2 (hc : X.calm = true) : CallR X (.builtin "max") uMax2 := call_max2 hc
theorem c_int : CallR X (.type "int") uInt := CallR.or call_int1 call_int_str
theorem c_list (K : PySem.W.Frag) (hK : X.K = K := by rfl) : CallR X (.type "list") (uList K) := hK ▸ call_list_of
theorem c_tuple (K : PySem.W.Frag) (hK : X.K = K := by rfl) : CallR X (.type "tuple") (uTuple K) := hK ▸ call_tuple_of
theorem c_isi (K : PySem.W.Frag) (hK : X.K = K := by rfl) : CallR X (.builtin "isinstance") (rIsi K) := hK ▸ call_isi
theorem c_isiT (K : PySem.W.Frag) (hK : X.K = K := by rfl) : CallR X (.builtin "isinstance") (rIsiT K) := hK ▸ call_isiT
theorem c_repr (K : PySem.W.Frag) (hgd : X.A.guards = some []) (hr : X.A.units + 64 < cLine) (hK : X.K = K := by rfl) : CallR X (.builtin "repr") (rRepr K) := hK ▸ call_repr hgd hr
theorem c_sum (K : PySem.W.Frag) (hc : X.calm = true) (hK : X.K = K := by rfl) : CallR X (.builtin "sum") (rSum K) := hK ▸ cr_sum hc
theorem c_all (K : PySem.W.Frag) (hc : X.calm = true) (hK : X.K = K := by rfl) : CallR X (.builtin "all") (rAll K) := hK ▸ cr_all hc
theorem c_any (K : PySem.W.Frag) (hc : X.calm = true) (hK : X.K = K := by rfl) : CallR X (.builtin "any") (rAny K) := hK ▸ cr_any hc
end

/-! ### names of the module -/
section
variable {X : Cx} {x : Str} {pos : Pos}
theorem pe_gI {i : Int} (hg : Gl X x) (hm : ∃ t, X.mg x = some (.int i t)) (hd : (x == ("__debug__" : Str)) = false := by decide) : PE X (.Name x pos) (tC (.int i)) :=
  let ⟨_, h⟩ := hm
  pe_glob hg h ⟨_, rfl⟩ hd
theorem pe_gS {z : Str} (hg : Gl X x) (hm : ∃ t, X.mg x = some (.str z t)) (hd : (x == ("__debug__" : Str)) = false := by decide) : PE X (.Name x pos) (tC (.str z)) :=
  let ⟨_, h⟩ := hm
  pe_glob hg h ⟨_, rfl⟩ hd
theorem pe_gR {a : Addr} (hg : Gl X x) (hm : X.mg x = some (.ref a)) (hd : (x == ("__debug__" : Str)) = false := by decide) : PE X (.Name x pos) (tC (.ref a)) :=
  pe_glob hg hm rfl hd
theorem pe_bT {T : String} (hg : Gl X x) (hm : X.mg x = none) (hv : bootBuiltins x = some (.type T)) (hn : x ≠ "__name__" := by decide) (hd : (x == ("__debug__" : Str)) = false := by decide) : PE X (.Name x pos) (tC (.ty T)) :=
  pe_bltn hg hm hv rfl hn hd
end

/-! ### the written part by its name -/
section
variable {X : Cx} {a : Expr} {ta : TE} {K : PySem.W.Frag}
def tTr (K : PySem.W.Frag) (ta : TE) : TT := fun σ H Q => ta σ H fun x H' => ∃ k, TruV K x H' k ∧ Q k H'
theorem pt_tr (K : PySem.W.Frag) (ha : PE X a ta) (he : ∀ whole, isTrue a X.env whole = (do let v ← whole; standAt a.pos; holding [v] (truthy v)) := by intro _; rfl) (hK : X.K = K := by rfl) :
    PT X a (tTr K ta) := hK ▸ pt_truth ha he
theorem pe_fl {e : Expr} {f : Str} {pos : Pos} (K : PySem.W.Frag) (ha : PE X e ta) (hb : attributeBase e f X.env (eval e X.env) = eval e X.env := by rfl) (hK : X.K = K := by rfl) : PE X (.Attribute e f pos) (tFld K ta f) := hK ▸ pe_fld ha hb
theorem ps_fl {o value : Expr} {f : Str} {pos' pos : Pos} {tv : TE} (K : PySem.W.Frag) (ho : PE X o ta) (hv : PE X value tv) (hs : swapsWith value (some (.Attribute o f pos')) pos.line X.env = pure false := by rfl) (hK : X.K = K := by rfl) :
    PS X (.Assign [.Attribute o f pos'] value pos) (sFld K ta tv f) := hK ▸ ps_fld ho hv hs
end

section
variable {X : Cx} {tg e : Expr} {t : TE}
theorem pi_l (K : PySem.W.Frag) (ha : PE X e t) (hK : X.K = K := by rfl) : PI X tg e (iList K t) := hK ▸ pi_list ha
theorem pg_l {es : List Expr} {k n : Nat} {t : TGs} {pos : Pos} (K : PySem.W.Frag) (hc : X.calm = true) (h : PGs X es t) (hn : (assignEach es X.env).length = n := by rfl) (hst : (assignEach es X.env).findIdx? (·.1) = none := by rfl) (hK : X.K = K := by rfl) :
    PG X (.Tuple es k pos) (gLst K n t) := hK ▸ pg_lst hc h hn hst
theorem pg_t {es : List Expr} {k n : Nat} {t : TGs} {pos : Pos} (K : PySem.W.Frag) (hc : X.calm = true) (h : PGs X es t) (hn : (assignEach es X.env).length = n := by rfl) (hst : (assignEach es X.env).findIdx? (·.1) = none := by rfl) (hK : X.K = K := by rfl) :
    PG X (.Tuple es k pos) (gTup K n t) := hK ▸ pg_tup hc h hn hst
theorem pi_t (K : PySem.W.Frag) (ha : PE X e t) (hK : X.K = K := by rfl) : PI X tg e (iTup K t) := hK ▸ pi_tup ha
end
/-! ### errors that pass -/
section
variable {X : Cx}
theorem passF {P : Program} {w : World} : Passes (L2.CX P w) X E0 := by
  intro pins σ H s e s' I c
  obtain ⟨a, B, H', cls, d, _, _, _, _, _, _, _, h⟩ := c
  exact h.elim
theorem passT {E : XK} (tk : Takes X (fun cls d _ H => E cls d H)) : Passes (L2.CX X.prog X.w) X E := passes_call tk fun _ _ _ _ z => z
variable {CX : CXT} {k : Nat} {f C : Addr} {fd : FuncData} {ps : List Str} {sp : Sp} {dvs : List V} {ds : List Value} {E : St → XK} {x m : Str} {p pos apos : Pos} {e o : Expr} {es : List Expr} {ta : TE} {t : TA}
/-- C(..) where what is raised is wished at the slots -/
def tMakeS (C : Addr) (sp : Sp) (dvs : List V) (E : St → XK) (t : TA) : TE := fun σ H Q => t σ H fun vs H1 => ∀ x dx, H1 x = none → H1 dx = none → dx ≠ x →
  sp (.ref x :: (vs ++ dvs)) (upd (upd H1 dx (.own x)) x (.ins C dx [])) (fun v H2 => v = .non ∧ Q (.ref x) H2) (E σ)
theorem run_makeS {pins : List (Addr × Obj)} {σ : St} {H : Hp} {s : Shared} {Q : VK} {us : List Value} {vs : List V} (M : Mk X.K C f) (F : FnOk X.prog X.w X.K X.mg X.base CX k f fd ps sp) (hr : Room (k + 1) X.A)
    (hb : Binds X.K fd ps ds) (hd : Vals dvs ds) (hx : PassesAt CX X σ (E σ)) (I : Inv X pins σ H s) (r : Vals vs us)
    (h : ∀ x dx, H x = none → H dx = none → dx ≠ x → sp (.ref x :: (vs ++ dvs)) (upd (upd H dx (.own x)) x (.ins C dx [])) (fun v H2 => v = .non ∧ Q (.ref x) H2) (E σ)) :
    wpAny (model X.prog X.w) X.A (call (.ref C) us) (EP X pins σ Q) X.xe s := by
  have hq := h (s.heap.objs.size + 1) s.heap.objs.size (I.hok.fresh (Nat.le_succ _)) (I.hok.fresh (Nat.le_refl _)) (Nat.ne_of_lt (Nat.lt_succ_self _))
  have I2 := Inv.made (C := C) I
  have r2 : Vals (V.ref (s.heap.objs.size + 1) :: (vs ++ dvs)) (Value.ref (s.heap.objs.size + 1) :: (us ++ ds)) := .cons rfl (r.append hd)
  have hl : (Value.ref (s.heap.objs.size + 1) :: us ++ ds).length = ps.length := by
    have z := r2.length
    rw [F.len _ _ _ _ hq] at z
    exact z.symm
  have main := F.run _ X.stack _ _ ⟨Value.ref (s.heap.objs.size + 1) :: us, []⟩ (Value.ref (s.heap.objs.size + 1) :: (us ++ ds)) _ _ (E σ) (hr.make C us [])
    (I2.env0.make C us []) (hb _ (Value.ref (s.heap.objs.size + 1) :: us) I2.kIn hl) r2 hq
  refine wpAny_call (make_map (f := f) I.kIn M.makes M.init (beq_iff_eq.mp M.fn) (codeAny_mono main fun r s' hq' => ?_))
  cases r with
  | error er => exact hx pins _ _ er s' I2 hq'
  | ok fl =>
    cases fl with
    | ret u =>
      obtain ⟨v, H', I3, rv, ev, q3⟩ := I2.after hq'
      subst ev
      exact ⟨rv, ⟨V.ref (s.heap.objs.size + 1), H', I3, rfl, q3⟩⟩
    | next => exact False.elim hq'
    | brk => exact False.elim hq'
    | cont => exact False.elim hq'
theorem pe_makeS (M : Mk X.K C f) (F : FnOk X.prog X.w X.K X.mg X.base CX k f fd ps sp) (hr : Room (k + 1) X.A) (hg : Gl X x) (hm : X.mg x = some (.ref C)) (hb : Binds X.K fd ps ds) (hd : Vals dvs ds) (hx : ∀ σ, PassesAt CX X σ (E σ))
    (ha : PA X (e :: es) t) (hdb : (x == ("__debug__" : Str)) = false := by decide) (he : starEach (e :: es) X.env = (false, eval e X.env) :: starEach es X.env := by rfl) (hpl : (backTo pos (starEach es X.env)).any (·.1) = false := by rfl) :
    PE X (.Call (.Name x p) (e :: es) [] pos) (tMakeS C sp dvs E t) := by
  refine ⟨fun pins s σ H Q I h => wpAny_Call_Name_kw (ld_glob I hg hm ?_ hdb)⟩
  exact PySem.W.callWith_K (h₀ := X.base) I.ok.mod.kin M.kp (thn (ha.run pos pins s σ H _ I h) fun us s1 ⟨vs, H1, I1, r, q⟩ => ⟨I1.kIn, run_makeS M F hr hb hd (hx σ) I1 r q⟩) he hpl
end
end Hg
end L2
end

section
set_option Elab.async false
set_option linter.all false
set_option maxRecDepth 100000
set_option maxHeartbeats 4000000
/-! Readings, one step each (each is a reading's own definition, turned into a rule to be applied backwards). -/
namespace L2
namespace Hg
open PySem PySem.Spec PyProof.Rows
section
variable {K : PySem.W.Frag} {σ : St} {H : Hp} {Q : VK} {QB : Bool → Hp → Prop} {QL : List V → Hp → Prop} {QS : St → Hp → Prop} {D : Ends} {v x y : V} {i j : Nat} {ta tb tc te : TE} {t u : TT} {tl tr : TA} {ts t1 t2 : TS}
theorem sz {n : Nat} (h : n ≤ 100000) : n ≤ sizeLine := Nat.le_trans h (by decide)
theorem szl {n : Nat} (h : Nat.ble n 100000 = true) : n ≤ sizeLine := sz (Nat.le_of_ble_eq_true h)
theorem szlt {n : Nat} (h : Nat.ble n 100000 = true) : n < sizeLine := Nat.lt_of_le_of_lt (Nat.le_of_ble_eq_true h) (by decide : 100000 < sizeLine)
theorem at_upd {p q : Addr} {o u : HO} (n : q ≠ p) (h : H q = some o) : upd H p u q = some o := (upd_ne n).trans h
theorem free_upd {p q : Addr} {o : HO} (h : upd H p o q = none) : H q = none ∧ q ≠ p := by
  by_cases e : q = p
  · subst e; rw [upd_same] at h; cases h
  · exact ⟨(upd_ne e).symm.trans h, e⟩
/-! ### expressions -/
theorem r_var (h : σ[i]? = some (some v)) (k : Q v H) : tVar i σ H Q := ⟨v, h, k⟩
theorem r_c (k : Q v H) : tC v σ H Q := k
theorem r_op {r : R2} (k : ta σ H fun x H1 => tb σ H1 fun y H2 => r x y H2 Q) : tOp r ta tb σ H Q := k
theorem r_un {r : V → Hp → VK → Prop} (k : ta σ H fun x H1 => r x H1 Q) : tUn r ta σ H Q := k
theorem r_neg {a : Int} (k : Q (.int (-a)) H) : (rU fun i => .int (-i)) (.int a) H Q := ⟨a, rfl, k⟩
theorem r_cb {r : List V → Hp → VK → Prop} (k : tl σ H fun vs H1 => r vs H1 Q) : tCB r tl σ H Q := k
theorem r_nil (k : QL [] H) : tNil σ H QL := k
theorem r_cons (k : ta σ H fun x H1 => tr σ H1 fun xs H2 => QL (x :: xs) H2) : tCons ta tr σ H QL := k
theorem r_call {sp : Sp} {dvs : List V} {E : XK} (k : tl σ H fun vs H1 => sp (vs ++ dvs) H1 Q E) : tCall sp dvs E tl σ H Q := k
theorem r_callS {sp : Sp} {E : St → XK} (k : tl σ H fun vs H1 => sp vs H1 Q (E σ)) : tCallS sp E tl σ H Q := k
theorem r_tup (k : tl σ H fun xs H1 => xs.length ≤ sizeLine ∧ ∀ p, H1 p = none → Q (.ref p) (upd H1 p (.tup xs))) : tTup tl σ H Q := k
theorem r_lst (k : tl σ H fun xs H1 => xs.length ≤ sizeLine ∧ ∀ p, H1 p = none → Q (.ref p) (upd H1 p (.lst xs))) : tLst tl σ H Q := k
theorem r_if (k : t σ H fun c H1 => if c = true then ta σ H1 Q else tb σ H1 Q) : tIf t ta tb σ H Q := k
theorem r_test (k : te σ H fun x H' => ∃ c, x = .bl c ∧ QB c H') : tTest te σ H QB := k
theorem r_B (k : te σ H fun x H' => ∃ c, x = .bl c ∧ QB c H') : tB te σ H QB := k
theorem r_bl {b : Bool} {R : Bool → Prop} (k : R b) : ∃ c, V.bl b = .bl c ∧ R c := ⟨b, rfl, k⟩
theorem r_tru {b : Bool} {R : Bool → Prop} (k : R b) : ∃ c, TruV K (.bl b) H c ∧ R c := ⟨b, rfl, k⟩
theorem r_trK (k : te σ H fun x H' => ∃ c, TruV K x H' c ∧ QB c H') : tTr K te σ H QB := k
theorem r_and (k : t σ H fun c H1 => if c = true then u σ H1 QB else QB false H1) : tAnd t u σ H QB := k
theorem r_or (k : t σ H fun c H1 => if c = true then QB true H1 else u σ H1 QB) : tOr t u σ H QB := k
theorem r_not (k : t σ H fun c H1 => QB (!c) H1) : tNot t σ H QB := k
theorem r_andV (k : ta σ H fun x H1 => ∃ c, x = .bl c ∧ if c = true then tb σ H1 Q else Q (.bl false) H1) : tAndV ta tb σ H Q := k
theorem r_orV (k : ta σ H fun x H1 => ∃ c, x = .bl c ∧ if c = true then Q (.bl true) H1 else tb σ H1 Q) : tOrV ta tb σ H Q := k
theorem r_notV (k : ta σ H fun x H1 => ∃ c, x = .bl c ∧ Q (.bl (!c)) H1) : tNotV ta σ H Q := k
theorem r_chain {r r' : R2} (k : ta σ H fun x H1 => tb σ H1 fun y H2 => r x y H2 fun z H3 => ∃ c, z = .bl c ∧ (if c = true then tc σ H3 fun w H4 => r' y w H4 Q else Q (.bl false) H3)) : tChain r r' ta tb tc σ H Q := k
theorem r_ite {c : Bool} {A B : Prop} (h1 : c = true → A) (h2 : c = false → B) : if c = true then A else B := by
  cases c with
  | true => exact h1 rfl
  | false => exact h2 rfl
theorem r_T {A B : Prop} (h : A) : if true = true then A else B := h
theorem r_F {A B : Prop} (h : B) : if false = true then A else B := h
theorem r_nT {A B : Prop} (h : A) : if (!false) = true then A else B := h
theorem r_nF {A B : Prop} (h : B) : if (!true) = true then A else B := h
theorem r_Td {c : Prop} [Decidable c] {A B : Prop} (hc : c) (h : A) : if decide c = true then A else B := by rw [decide_eq_true hc]; exact h
theorem r_Fd {c : Prop} [Decidable c] {A B : Prop} (hc : ¬ c) (h : B) : if decide c = true then A else B := by rw [decide_eq_false hc]; exact h
theorem r_id {c : Prop} [Decidable c] {A B : Prop} (h1 : c → A) (h2 : ¬ c → B) : if decide c = true then A else B := by
  by_cases h : c
  · exact r_Td h (h1 h)
  · exact r_Fd h (h2 h)
/-! ### operators by values -/
theorem r_I0 {g : Int → Int → V} {a b : Int} (k : Q (g a b) H) : rI0 g (.int a) (.int b) H Q := ⟨a, b, rfl, rfl, k⟩
theorem r_I {C : Int → Int → Prop} {g : Int → Int → V} {a b : Int} (c : C a b) (k : Q (g a b) H) : rI C g (.int a) (.int b) H Q := ⟨a, b, rfl, rfl, c, k⟩
theorem r_addI {a b : Int} (k : Q (.int (a + b)) H) : uAdd K (.int a) (.int b) H Q := .inl ⟨a, b, rfl, rfl, k⟩
theorem r_addS {a b : Str} (z : a.length + b.length ≤ sizeLine) (k : Q (.str (a ++ b)) H) : uAdd K (.str a) (.str b) H Q := .inr (.inl ⟨a, b, rfl, rfl, z, k⟩)
theorem r_addL {a b : Addr} {xs ys : List V} (ha : H a = some (.lst xs)) (hb : H b = some (.lst ys)) (z : xs.length + ys.length ≤ sizeLine) (k : ∀ p, H p = none → Q (.ref p) (upd H p (.lst (xs ++ ys)))) : uAdd K (.ref a) (.ref b) H Q :=
  .inr (.inr (.inl ⟨a, b, xs, ys, rfl, rfl, ha, hb, z, k⟩))
theorem r_addT {a b : Addr} {xs ys : List V} (ha : SqT K H a xs) (hb : SqT K H b ys) (ne : xs ≠ []) (z : xs.length + ys.length ≤ sizeLine) (k0 : ys = [] → Q (.ref a) H) (k : ys ≠ [] → ∀ p, H p = none → Q (.ref p) (upd H p (.tup (xs ++ ys)))) : uAdd K (.ref a) (.ref b) H Q :=
  .inr (.inr (.inr ⟨a, b, xs, ys, rfl, rfl, ha, hb, ne, z, k0, k⟩))
theorem r_sub {a b : Int} (k : Q (.int (a - b)) H) : uSub (.int a) (.int b) H Q := ⟨a, b, rfl, rfl, k⟩
theorem r_mul {a b : Int} (c : CMul a b) (k : Q (.int (a * b)) H) : uMul (.int a) (.int b) H Q := .inl ⟨a, b, rfl, rfl, c, k⟩
theorem r_mulW {a b : Int} (c : CMulW a b) (k : Q (.int (a * b)) H) : uMul (.int a) (.int b) H Q := .inr (.inl ⟨a, b, rfl, rfl, c, k⟩)
theorem r_rep {a : Addr} {n : Int} {xs : List V} (ha : H a = some (.lst xs)) (h0 : -(2 ^ 63) ≤ n) (h1 : n < 2 ^ 63) (z : xs.length * n.toNat ≤ sizeLine) (k : ∀ p, H p = none → Q (.ref p) (upd H p (.lst (List.replicate n.toNat xs).flatten))) : uMul (.ref a) (.int n) H Q :=
  .inr (.inr ⟨a, n, xs, rfl, rfl, ha, h0, h1, z, k⟩)
theorem cmulL {a b : Int} (h : -(2 ^ 64) < a ∧ a < 2 ^ 64) : CMul a b := .inl h
theorem cmulR {a b : Int} (h : -(2 ^ 64) < b ∧ b < 2 ^ 64) : CMul a b := .inr h
theorem r_div {a b : Int} (h0 : 0 < b) (h1 : b < 1073741824) (k : Q (.int (a / b)) H) : uDiv (.int a) (.int b) H Q := .inl ⟨a, b, rfl, rfl, ⟨h0, h1⟩, k⟩
theorem r_divW {a b : Int} (c : CDivW a b) (k : Q (.int (a / b)) H) : uDiv (.int a) (.int b) H Q := .inr ⟨a, b, rfl, rfl, c, k⟩
theorem r_mod {a b : Int} (h0 : 0 < b) (k : Q (.int (a % b)) H) : uMod (.int a) (.int b) H Q := ⟨a, b, rfl, rfl, h0, k⟩
theorem r_pow {a b : Int} (c : CPow a b) (k : Q (.int (a ^ b.toNat)) H) : uPow (.int a) (.int b) H Q := ⟨a, b, rfl, rfl, c, k⟩
theorem r_lt {a b : Int} (k : Q (.bl (decide (a < b))) H) : uLt (.int a) (.int b) H Q := ⟨a, b, rfl, rfl, k⟩
theorem r_le {a b : Int} (k : Q (.bl (decide (a ≤ b))) H) : uLe (.int a) (.int b) H Q := ⟨a, b, rfl, rfl, k⟩
theorem r_gt {a b : Int} (k : Q (.bl (decide (b < a))) H) : uGt (.int a) (.int b) H Q := ⟨a, b, rfl, rfl, k⟩
theorem r_ge {a b : Int} (k : Q (.bl (decide (b ≤ a))) H) : uGe (.int a) (.int b) H Q := ⟨a, b, rfl, rfl, k⟩
theorem r_eq (s : scal x y = true) (k : Q (.bl (decide (x = y))) H) : uEq K x y H Q := .inl ⟨s, k⟩
theorem r_eqD {d e : PyData} (hd : Dp K H x d) (he : Dp K H y e) (sd : SeqAt.shaped d = true) (se : SeqAt.shaped e = true) (k : Q (.bl (PyData.eqv d e)) H) : uEq K x y H Q := .inr ⟨d, e, hd, he, sd, se, k⟩
theorem r_ne (s : scal x y = true) (k : Q (.bl (!decide (x = y))) H) : uNe K x y H Q := .inl ⟨s, k⟩
theorem r_neD {d e : PyData} (hd : Dp K H x d) (he : Dp K H y e) (sd : SeqAt.shaped d = true) (se : SeqAt.shaped e = true) (k : Q (.bl (!PyData.eqv d e)) H) : uNe K x y H Q := .inr ⟨d, e, hd, he, sd, se, k⟩
theorem r_isN (k : Q (.bl (decide (x = .non))) H) : rIsN x .non H Q := ⟨rfl, k⟩
theorem r_notN (k : Q (.bl (!decide (x = .non))) H) : rNotN x .non H Q := ⟨rfl, k⟩
theorem r_inQ {p : Addr} {xs : List V} (h : SqL K H p xs ∨ SqT K H p xs) (fx : flatV x = true) (fs : xs.all flatV = true) (k : Q (.bl (inV x xs)) H) : uIn K x (.ref p) H Q := .inl ⟨p, xs, rfl, h, fx, fs, k⟩
theorem r_inS {c : Nat} {z : Str} (k : Q (.bl (decide (c ∈ z.cps.toList))) H) : uIn K (.str ⟨#[c]⟩) (.str z) H Q := .inr ⟨c, z, rfl, rfl, k⟩
theorem r_ninQ {p : Addr} {xs : List V} (h : SqL K H p xs ∨ SqT K H p xs) (fx : flatV x = true) (fs : xs.all flatV = true) (k : Q (.bl (!inV x xs)) H) : uNotIn K x (.ref p) H Q := .inl ⟨p, xs, rfl, h, fx, fs, k⟩
/-- xs[i] of a list that stands in H (ixL), of any list or tuple that may be read -/
theorem r_ixL {p : Addr} {n : Int} {xs : List V} (h : SqL K H p xs) (ha : atI xs n = some v) (k : Q v H) : rIx K (.ref p) (.int n) H Q := .inl ⟨p, xs, n, v, rfl, rfl, h, ha, k⟩
theorem r_ixT {p : Addr} {n : Int} {xs : List V} (h : SqT K H p xs) (ha : atI xs n = some v) (k : Q v H) : rIx K (.ref p) (.int n) H Q := .inr (.inl ⟨p, xs, n, v, rfl, rfl, h, ha, k⟩)
theorem r_ixS {z : Str} {n : Int} {c : Nat} (h : z.length ≤ sizeLine) (ha : atI z.cps.toList n = some c) (k : Q (.str ⟨#[c]⟩) H) : rIx K (.str z) (.int n) H Q := .inr (.inr ⟨z, n, c, rfl, rfl, h, ha, k⟩)
/-! ### built-ins by values -/
theorem r_lenL {p : Addr} {xs : List V} (h : SqL K H p xs) (k : Q (.int (xs.length : Nat)) H) : uLen K [.ref p] H Q := .inl ⟨_, _, rfl, .inl ⟨xs, h, rfl⟩, k⟩
theorem r_lenT {p : Addr} {xs : List V} (h : SqT K H p xs) (k : Q (.int (xs.length : Nat)) H) : uLen K [.ref p] H Q := .inl ⟨_, _, rfl, .inr ⟨xs, h, rfl⟩, k⟩
theorem r_lenS {z : Str} (h : z.length ≤ sizeLine) (k : Q (.int (z.length : Nat)) H) : uLen K [.str z] H Q := .inl ⟨_, _, rfl, ⟨h, rfl⟩, k⟩
theorem r_lenD {p : Addr} {kvs : List (Key × V)} (h : H p = some (.dK kvs)) (k : Q (.int (kvs.length : Nat)) H) : uLen K [.ref p] H Q := .inr ⟨p, kvs, rfl, h, k⟩
theorem r_abs {a : Int} (k : Q (.int (if a < 0 then -a else a)) H) : uAbs [.int a] H Q := ⟨a, rfl, k⟩
theorem r_min2 {a b : Int} (k : Q (.int (if b < a then b else a)) H) : uMin2 [.int a, .int b] H Q := ⟨a, b, rfl, k⟩
theorem r_max2 {a b : Int} (k : Q (.int (if b > a then b else a)) H) : uMax2 [.int a, .int b] H Q := ⟨a, b, rfl, k⟩
theorem r_intI {a : Int} (k : Q (.int a) H) : uInt [.int a] H Q := .inl (.inl ⟨a, rfl, k⟩)
theorem r_intB {b : Bool} (k : Q (.int (if b then 1 else 0)) H) : uInt [.bl b] H Q := .inl (.inr ⟨b, rfl, k⟩)
theorem r_list {p : Addr} {xs : List V} (h : SqL K H p xs ∨ SqT K H p xs) (k : ∀ l, H l = none → Q (.ref l) (upd H l (.lst xs))) : uList K [.ref p] H Q := ⟨p, xs, rfl, h, k⟩
theorem r_tupL {p : Addr} {xs : List V} (h : SqL K H p xs) (k : ∀ l, H l = none → Q (.ref l) (upd H l (.tup xs))) : uTuple K [.ref p] H Q := ⟨p, xs, rfl, .inl ⟨h, k⟩⟩
theorem r_tupT {p : Addr} {xs : List V} (h : SqT K H p xs) (k : Q (.ref p) H) : uTuple K [.ref p] H Q := ⟨p, xs, rfl, .inr ⟨h, k⟩⟩
theorem r_isi {c : V} {t u : Value} {b : Bool} (hc : ClsV c u) (ht : TyX K H x t) (hk : PySem.W.kitOne K t u = some b) (k : Q (.bl b) H) : rIsi K [x, c] H Q := ⟨x, c, t, u, b, rfl, hc, ht, hk, k⟩
theorem r_repr {d : PyData} (hd : Dp K H x d) (hs : d.showable = true) (hn : d.hasDict = false) (hz : d.depth ≤ 60) (hl : d.shown.length ≤ sizeLine) (k : Q (.str d.shown) H) : rRepr K [x] H Q := ⟨x, d, rfl, hd, hs, hn, hz, hl, k⟩
/-! ### statements -/
theorem r_seq (k : t1 { D with nx := t2 D } σ H) : tSeq t1 t2 D σ H := k
theorem r_next (k : D.nx σ H) : tNext D σ H := k
theorem r_asg {g : TG} (k : te σ H fun x H1 => g x σ H1 D.nx) : tAsg te g D σ H := k
/-- the slots behind the store, written out -/
theorem r_gNameE {σ' : St} (e : σ.set i (some v) = σ') (k : QS σ' H) : gName i v σ H QS := by subst e; exact k
theorem r_gName (k : QS (σ.set i (some v)) H) : gName i v σ H QS := k
theorem r_gSub {to ti : TE} {s : TSet} (k : to σ H fun o H1 => ti σ H1 fun i H2 => s o i v H2 fun H3 => QS σ H3) : gSub to ti s v σ H QS := k
theorem r_setL {p : Addr} {n : Int} {xs : List V} {m : Nat} {QH : Hp → Prop} (h : H p = some (.lst xs)) (hi : ixN xs.length n = some m) (k : QH (upd H p (.lst (xs.set m v)))) : rSetL (.ref p) (.int n) v H QH := ⟨p, xs, n, m, rfl, rfl, h, hi, k⟩
theorem r_ret (k : te σ H D.rt) : tRet te D σ H := k
theorem r_ifS (k : t σ H fun b H1 => if b = true then t1 D σ H1 else t2 D σ H1) : tIfS t t1 t2 D σ H := k
theorem r_drop (k : te σ H fun _ H1 => D.nx σ H1) : tDrop te D σ H := k
theorem r_for {wi : TI} {g : TG} (k : wi σ H fun J H1 => ∃ W : Nat → Nat → St → Hp → Prop, (∃ m, W 0 m σ H1) ∧ ∀ i m σ H, W i m σ H →
  (J.stop i H ∧ D.nx σ H) ∨ (J.go i H ∧ ∃ N : St → Hp → Prop, (∀ σ' H', N σ' H' → ∃ m', m' < m ∧ W (i + 1) m' σ' H') ∧ ∀ x H', J.yld i H x H' → g x σ H' fun σ2 H2 => ts { D with nx := N, ct := N, bk := D.nx } σ2 H2)) : tFor wi g ts D σ H := k
/-- for k in range(n) -/
theorem r_forR {tl : TA} {n : Int} {g : TG} (Pv : Nat → St → Hp → Prop) (h : tl σ H fun vs H1 => vs = [.int n] ∧ -(2 ^ 62) ≤ n ∧ n < 2 ^ 62 ∧ Pv 0 σ H1)
    (mono : ∀ {P P' : List V → Hp → Prop}, (∀ vs H, P vs H → P' vs H) → tl σ H P → tl σ H P')
    (hs : ∀ i σ H, i < n.toNat → Pv i σ H → g (.int (i : Nat)) σ H fun σ2 H2 => ts { D with nx := Pv (i + 1), ct := Pv (i + 1), bk := D.nx } σ2 H2)
    (hd : ∀ σ H, Pv n.toNat σ H → D.nx σ H) : tFor (iRng1 tl) g ts D σ H := by
  refine mono (fun vs H1 q => ?_) h
  obtain ⟨rfl, h1, h2, q⟩ := q
  refine ⟨n, rfl, h1, h2, for_range (lo := 0) (n := n.toNat) Pv q (fun i σ H hi p => ?_) hd⟩
  rw [Int.zero_add]
  exact hs i σ H hi p
end
end Hg
end L2
end

section
set_option Elab.async false
set_option linter.all false
set_option maxRecDepth 100000
set_option maxHeartbeats 4000000
/-! A def of the text as one hypothesis: where it stands (DefAt), what it keeps (DefOk, DefG); classes and errors likewise; boxes of draws. -/
namespace L2
namespace Hg
open PySem PySem.Spec PyProof.Rows

structure DefAt (K : PySem.W.Frag) (mg : Str → Option Value) (x : Str) (st : Stmt) : Prop where
  ex : ∃ f fd, mg x = some (.ref f) ∧ Fun K x x st f fd
def DefOk (P : Program) (w : World) (K : PySem.W.Frag) (mg : Str → Option Value) (base : Heap) (CX : CXT) (k : Nat) (x : Str) (ps : List Str) (sp : Sp) : Prop :=
  ∃ f fd, mg x = some (.ref f) ∧ PySem.W.keepIn K (.ref f) = true ∧ FnOk P w K mg base CX k f fd ps sp ∧ Binds K fd ps []
def DefG (P : Program) (w : World) (K : PySem.W.Frag) (mg : Str → Option Value) (base : Heap) (CX : CXT) (k : Nat) (x : Str) (ps : List Str) (sp : Sp) : Prop :=
  ∃ f fd, mg x = some (.ref f) ∧ PySem.W.keepIn K (.ref f) = true ∧ FnG P w K mg base CX k f fd ps sp ∧ Binds K fd ps []
abbrev BindsBy (st : Stmt) (x : Str) (ps : List Str) : Prop := ∀ (kV doc pm : Value) (an : Option Addr) (cdv ct : Value) (us : List Value), us.length = ps.length →
  bindArgs (PySem.W.fnOf x x (defArgs st) (defBody st) (defScope st) .none kV doc pm an cdv ct) ⟨us, []⟩ = pure (ps.zip us)
section
variable {P : Program} {w : World} {K : PySem.W.Frag} {mg : Str → Option Value} {base : Heap} {k : Nat} {x : Str} {st : Stmt} {N ps : List Str} {sp : Sp}
theorem DefAt.ok (F : DefAt K mg x st) (S : FnScope N ps (defScope st)) (hb : BindsBy st x ps) (len : ∀ vs H Q E, sp vs H Q E → vs.length = ps.length)
    (hbody : ∀ (f : Addr) (cdv : Value) (A : Around) (outer : List Env) (s : Shared) (H : Hp) (vs : List V) (Q : VK) (E : XK), Room k (A.deeper (envOfC x (defScope st) s.heap.objs.size f cdv)) → sp vs H Q E →
      ∃ t, PSs (cxOf CX0 P w K mg base N x (defScope st) f cdv A outer s H E).nox (defBody st) t ∧ t { nx := fun _ H' => Q .non H', rt := Q } (start N vs) H) : DefOk P w K mg base CX0 (k + 1) x ps sp := by
  obtain ⟨f, fd, hm, F⟩ := F.ex
  exact ⟨f, fd, hm, F.kp, F.ok S len fun cdv A outer s H vs Q E hr h => hbody f cdv A outer s H vs Q E hr h, F.binds hb⟩
theorem DefAt.okX (F : DefAt K mg x st) (S : FnScope N ps (defScope st)) (hb : BindsBy st x ps) (len : ∀ vs H Q E, sp vs H Q E → vs.length = ps.length)
    (hbody : ∀ (f : Addr) (cdv : Value) (A : Around) (outer : List Env) (s : Shared) (H : Hp) (vs : List V) (Q : VK) (E : XK), Room k (A.deeper (envOfC x (defScope st) s.heap.objs.size f cdv)) → sp vs H Q E →
      ∃ t, PSs (cxOf (L2.CX P w) P w K mg base N x (defScope st) f cdv A outer s H E) (defBody st) t ∧ t { nx := fun _ H' => Q .non H', rt := Q } (start N vs) H) : DefOk P w K mg base (L2.CX P w) (k + 1) x ps sp := by
  obtain ⟨f, fd, hm, F⟩ := F.ex
  exact ⟨f, fd, hm, F.kp, F.okX S len fun cdv A outer s H vs Q E hr h => hbody f cdv A outer s H vs Q E hr h, F.binds hb⟩
theorem DefAt.okG (F : DefAt K mg x st) (S : FnScope N ps (defScope st)) (hb : BindsBy st x ps) (len : ∀ vs H Q E, sp vs H Q E → vs.length = ps.length)
    (hbody : ∀ (f : Addr) (cdv : Value) (A : Around) (outer : List Env) (s : Shared) (H : Hp) (vs : List V) (Q : VK) (E : XK), A.guards = some [] → Room k (A.deeper (envOfC x (defScope st) s.heap.objs.size f cdv)) → sp vs H Q E →
      ∃ t, PSs (cxOf CX0 P w K mg base N x (defScope st) f cdv A outer s H E).nox (defBody st) t ∧ t { nx := fun _ H' => Q .non H', rt := Q } (start N vs) H) : DefG P w K mg base CX0 (k + 1) x ps sp := by
  obtain ⟨f, fd, hm, F⟩ := F.ex
  exact ⟨f, fd, hm, F.kp, Hg.okG F S len fun cdv A outer s H vs Q E hg hr h => hbody f cdv A outer s H vs Q E hg hr h, F.binds hb⟩
end
section
variable {X : Cx} {CX : CXT} {k : Nat} {ps : List Str} {sp : Sp} {E : XK} {x : Str} {p pos : Pos} {e : Expr} {es : List Expr} {t : TA}
theorem pe_callD (F : DefOk X.prog X.w X.K X.mg X.base CX k x ps sp) (hr : Room k X.A) (hx : Passes CX X E) (hg : Gl X x) (ha : PA X (e :: es) t) (hdb : (x == ("__debug__" : Str)) = false := by decide)
    (he : starEach (e :: es) X.env = (false, eval e X.env) :: starEach es X.env := by rfl) (hpl : (backTo pos (starEach es X.env)).any (·.1) = false := by rfl) : PE X (.Call (.Name x p) (e :: es) [] pos) (tCall sp [] E t) :=
  let ⟨_, _, hm, hk, G, hb⟩ := F
  pe_call G hr hg hm hk hb .nil hx ha hdb he hpl
theorem pe_callD0 (F : DefOk X.prog X.w X.K X.mg X.base CX k x ps sp) (hr : Room k X.A) (hx : Passes CX X E) (hg : Gl X x) (hdb : (x == ("__debug__" : Str)) = false := by decide) : PE X (.Call (.Name x p) [] [] pos) (tCall sp [] E tNil) :=
  let ⟨_, _, hm, hk, G, hb⟩ := F
  pe_call0 G hr hg hm hk hb .nil hx hdb
theorem pe_callDG (F : DefG X.prog X.w X.K X.mg X.base CX k x ps sp) (hgd : X.A.guards = some []) (hr : Room k X.A) (hx : Passes CX X E) (hg : Gl X x) (ha : PA X (e :: es) t) (hdb : (x == ("__debug__" : Str)) = false := by decide)
    (he : starEach (e :: es) X.env = (false, eval e X.env) :: starEach es X.env := by rfl) (hpl : (backTo pos (starEach es X.env)).any (·.1) = false := by rfl) : PE X (.Call (.Name x p) (e :: es) [] pos) (tCall sp [] E t) :=
  let ⟨_, _, hm, hk, G, hb⟩ := F
  pe_callG G hgd hr hg hm hk hb .nil hx ha hdb he hpl
theorem pe_callDG0 (F : DefG X.prog X.w X.K X.mg X.base CX k x ps sp) (hgd : X.A.guards = some []) (hr : Room k X.A) (hx : Passes CX X E) (hg : Gl X x) (hdb : (x == ("__debug__" : Str)) = false := by decide) : PE X (.Call (.Name x p) [] [] pos) (tCall sp [] E tNil) :=
  let ⟨_, _, hm, hk, G, hb⟩ := F
  pe_callG0 G hgd hr hg hm hk hb .nil hx hdb
end

/-! ### errors -/
/-- the error class x at C: its own `__init__` st, over the base G named g -/
structure ErrAt (K : PySem.W.Frag) (mg : Str → Option Value) (x q : Str) (st : Stmt) (C : Addr) : Prop where
  hm : mg x = some (.ref C)
  cl : OexC K C
  it : ∃ f fd, PySem.W.findIn K (.ref C) "__init__" = some (some (.ref f)) ∧ PySem.W.typeIn K (.ref f) = some (.type "function") ∧ Fun K "__init__" q st f fd
structure BaseAt (K : PySem.W.Frag) (mg : Str → Option Value) (g : Str) (G : Addr) : Prop where
  hm : mg g = some (.ref G)
  bi : BaseInit K G
/-- what making such an error keeps -/
def ErrOk (P : Program) (w : World) (K : PySem.W.Frag) (mg : Str → Option Value) (base : Heap) (k : Nat) (x : Str) (C : Addr) (ps : List Str) (sp : Sp) : Prop :=
  mg x = some (.ref C) ∧ OexC K C ∧ ∃ f fd, PySem.W.findIn K (.ref C) "__init__" = some (some (.ref f)) ∧ PySem.W.typeIn K (.ref f) = some (.type "function") ∧ FnOk P w K mg base CX0 k f fd ps sp ∧ Binds K fd ps []
abbrev BindsAs (st : Stmt) (x q : Str) (ps : List Str) : Prop := ∀ (kV doc pm : Value) (an : Option Addr) (cdv ct : Value) (us : List Value), us.length = ps.length →
  bindArgs (PySem.W.fnOf x q (defArgs st) (defBody st) (defScope st) .none kV doc pm an cdv ct) ⟨us, []⟩ = pure (ps.zip us)
section
variable {P : Program} {w : World} {K : PySem.W.Frag} {mg : Str → Option Value} {base : Heap} {k : Nat} {x q : Str} {st : Stmt} {C : Addr} {N ps : List Str} {sp : Sp}
theorem ErrAt.ok (F : ErrAt K mg x q st C) (S : FnScope N ps (defScope st)) (hb : BindsAs st "__init__" q ps) (len : ∀ vs H Q E, sp vs H Q E → vs.length = ps.length)
    (hbody : ∀ (f : Addr) (cdv : Value) (A : Around) (outer : List Env) (s : Shared) (H : Hp) (vs : List V) (Q : VK) (E : XK), Room k (A.deeper (envOfC q (defScope st) s.heap.objs.size f cdv)) → sp vs H Q E →
      ∃ t, PSs (cxOf CX0 P w K mg base N q (defScope st) f cdv A outer s H E).nox (defBody st) t ∧ t { nx := fun _ H' => Q .non H', rt := Q } (start N vs) H) : ErrOk P w K mg base (k + 1) x C ps sp := by
  obtain ⟨f, fd, hi, ht, F1⟩ := F.it
  exact ⟨F.hm, F.cl, f, fd, hi, ht, F1.ok S len fun cdv A outer s H vs Q E hr h => hbody f cdv A outer s H vs Q E hr h, F1.binds hb⟩
end
section
variable {X : Cx} {k : Nat} {ps : List Str} {sp : Sp} {x : Str} {p pos : Pos} {C : Addr} {e : Expr} {es : List Expr} {ta : TA}
theorem pmkN (F : ErrOk X.prog X.w X.K X.mg X.base k x C ps sp) (hr : Room (k + 1) X.A) (hg : Gl X x) (hdb : (x == ("__debug__" : Str)) = false := by decide) : PMk X (.Call (.Name x p) [] [] pos) (tMkN C sp) :=
  let ⟨hm, T, _, _, iC, tI, F1, hb⟩ := F
  pmk_oexN T iC tI F1 hr hb (fun _ _ _ _ _ _ _ c => c.elim) hg hm hdb
theorem pmkF (F : ErrOk X.prog X.w X.K X.mg X.base k x C ps sp) (hr : Room (k + 1) X.A) (hg : Gl X x) (ha : PA X (e :: es) ta) (hdb : (x == ("__debug__" : Str)) = false := by decide)
    (he : starEach (e :: es) X.env = (false, eval e X.env) :: starEach es X.env := by rfl) (hpl : (backTo pos (starEach es X.env)).any (·.1) = false := by rfl) : PMk X (.Call (.Name x p) (e :: es) [] pos) (tMkO C sp [] ta) :=
  let ⟨hm, T, _, _, iC, tI, F1, hb⟩ := F
  pmk_oex T iC tI F1 hr hb .nil (fun _ _ _ _ _ _ _ c => c.elim) hg hm ha hdb he hpl
end

/-! ### classes -/
/-- the class x at C -/
structure ClsAt (K : PySem.W.Frag) (mg : Str → Option Value) (x : Str) (C : Addr) : Prop where
  hm : mg x = some (.ref C)
  cl : Cls K C
  mks : PySem.W.makesIn K C = true
  kp : PySem.W.keepIn K (.ref C) = true
/-- making an instance of x -/
def MakeOk (P : Program) (w : World) (K : PySem.W.Frag) (mg : Str → Option Value) (base : Heap) (CX : CXT) (k : Nat) (x : Str) (C : Addr) (ps : List Str) (dvs : List V) (sp : Sp) : Prop :=
  mg x = some (.ref C) ∧ ∃ f fd ds, Mk K C f ∧ FnOk P w K mg base CX k f fd ps sp ∧ Binds K fd ps ds ∧ Vals dvs ds
section
variable {X : Cx} {CX : CXT} {k : Nat} {ps : List Str} {dvs : List V} {sp : Sp} {E : XK} {ES : St → XK} {x : Str} {p pos : Pos} {C : Addr} {e : Expr} {es : List Expr} {t : TA}
theorem pe_makeD (F : MakeOk X.prog X.w X.K X.mg X.base CX k x C ps dvs sp) (hr : Room (k + 1) X.A) (hx : Passes CX X E) (hg : Gl X x) (ha : PA X (e :: es) t) (hdb : (x == ("__debug__" : Str)) = false := by decide)
    (he : starEach (e :: es) X.env = (false, eval e X.env) :: starEach es X.env := by rfl) (hpl : (backTo pos (starEach es X.env)).any (·.1) = false := by rfl) : PE X (.Call (.Name x p) (e :: es) [] pos) (tMake C sp dvs E t) :=
  let ⟨hm, _, _, _, M, G, hb, hd⟩ := F
  pe_make M G hr hg hm hb hd hx ha hdb he hpl
theorem pe_makeD0 (F : MakeOk X.prog X.w X.K X.mg X.base CX k x C ps dvs sp) (hr : Room (k + 1) X.A) (hx : Passes CX X E) (hg : Gl X x) (hdb : (x == ("__debug__" : Str)) = false := by decide) : PE X (.Call (.Name x p) [] [] pos) (tMake C sp dvs E tNil) :=
  let ⟨hm, _, _, _, M, G, hb, hd⟩ := F
  pe_make0 M G hr hg hm hb hd hx hdb
theorem pe_makeDS (F : MakeOk X.prog X.w X.K X.mg X.base CX k x C ps dvs sp) (hr : Room (k + 1) X.A) (hx : ∀ σ, PassesAt CX X σ (ES σ)) (hg : Gl X x) (ha : PA X (e :: es) t) (hdb : (x == ("__debug__" : Str)) = false := by decide)
    (he : starEach (e :: es) X.env = (false, eval e X.env) :: starEach es X.env := by rfl) (hpl : (backTo pos (starEach es X.env)).any (·.1) = false := by rfl) : PE X (.Call (.Name x p) (e :: es) [] pos) (tMakeS C sp dvs ES t) :=
  let ⟨hm, _, _, _, M, G, hb, hd⟩ := F
  pe_makeS M G hr hg hm hb hd hx ha hdb he hpl
end

/-! ### boxes of draws -/
/-- at b a list of three ints -/
def BoxAt (H : Hp) (b : Addr) : Prop := ∃ x y z : Int, H b = some (.lst [.int x, .int y, .int z])
/-- what was tracked stays, but for b, which is a box -/
structure Bx (b : Addr) (H H' : Hp) : Prop where
  keep : ∀ x o, x ≠ b → H x = some o → H' x = some o
  box : BoxAt H' b
theorem Bx.refl {b : Addr} {H : Hp} (h : BoxAt H b) : Bx b H H := ⟨fun _ _ _ z => z, h⟩
theorem Bx.trans {b : Addr} {H H1 H2 : Hp} (h : Bx b H H1) (g : Bx b H1 H2) : Bx b H H2 := ⟨fun x o n z => g.keep x o n (h.keep x o n z), g.box⟩
theorem Bx.upd {b p : Addr} {H H1 : Hp} {o : HO} (h : Bx b H H1) (hp : H1 p = none) : Bx b H (upd H1 p o) := by
  refine ⟨fun x u n z => ?_, ?_⟩
  · have q := h.keep x u n z
    rw [upd_ne (ne_of_none q hp)]; exact q
  · obtain ⟨x, y, z, q⟩ := h.box
    exact ⟨x, y, z, by rw [upd_ne (ne_of_none q hp)]; exact q⟩
theorem Bx.updD {b p : Addr} {H H1 : Hp} {o : HO} (h : Bx b H H1) (hp : H p = none) (n : p ≠ b) : Bx b H (L2.upd H1 p o) := by
  refine ⟨fun x u ne z => at_upd (ne_of_none z hp) (h.keep x u ne z), ?_⟩
  obtain ⟨x, y, z, q⟩ := h.box
  exact ⟨x, y, z, at_upd (Ne.symm n) q⟩
theorem Bx.set {b : Addr} {H H1 : Hp} (h : Bx b H H1) (x y z : Int) : Bx b H (L2.upd H1 b (.lst [.int x, .int y, .int z])) := ⟨fun a o n q => (upd_ne n).trans (h.keep a o n q), x, y, z, upd_same⟩
theorem BoxAt.upd {b p : Addr} {H : Hp} {o : HO} (h : BoxAt H b) (hp : H p = none) : BoxAt (upd H p o) b := ((Bx.refl h).upd hp).box
theorem BoxAt.ne {b p : Addr} {H : Hp} {o : HO} (h : BoxAt H b) (hp : H p = some o) (d : ∀ x y z : Int, o ≠ .lst [.int x, .int y, .int z]) : p ≠ b := by
  intro e
  subst e
  obtain ⟨x, y, z, q⟩ := h
  rw [hp] at q
  exact d x y z (Option.some.inj q)
theorem BoxAt.some {b : Addr} {H : Hp} (h : BoxAt H b) : ∃ o, H b = some o := let ⟨_, _, _, q⟩ := h; ⟨_, q⟩
theorem Bx.seqL {K : PySem.W.Frag} {b l : Addr} {H H' : Hp} {xs : List V} (h : Bx b H H') (n : l ≠ b) (q : SqL K H l xs) : SqL K H' l xs := by
  rcases q with (q | ⟨o, q⟩) | q
  · exact .inl (.inl (h.keep _ _ n q))
  · exact .inl (.inr ⟨o, h.keep _ _ n q⟩)
  · exact .inr q
theorem Bx.seqT {K : PySem.W.Frag} {b l : Addr} {H H' : Hp} {xs : List V} (h : Bx b H H') (n : l ≠ b) (q : SqT K H l xs) : SqT K H' l xs := by
  rcases q with (q | ⟨o, q⟩) | q
  · exact .inl (.inl (h.keep _ _ n q))
  · exact .inl (.inr ⟨o, h.keep _ _ n q⟩)
  · exact .inr q
theorem Bx.free {b p : Addr} {H H' : Hp} (h : Bx b H H') (hp : H' p = none) : H p = none := by
  cases e : H p with
  | none => rfl
  | some o =>
    by_cases n : p = b
    · subst n
      obtain ⟨x, y, z, q⟩ := h.box
      rw [hp] at q; cases q
    · rw [h.keep p o n e] at hp; cases hp
theorem Bx.seqF {K : PySem.W.Frag} {b l : Addr} {H H' : Hp} {xs : List V} (h : Bx b H H') (n : H b = none) (q : SqL K H l xs) : SqL K H' l xs := by
  rcases q with (q | ⟨o, q⟩) | q
  · exact .inl (.inl (h.keep _ _ (ne_of_none q n) q))
  · exact .inl (.inr ⟨o, h.keep _ _ (ne_of_none q n) q⟩)
  · exact .inr q
/-- a draw -/
def spTake : Sp := fun vs H Q _ => ∃ (b : Addr) (m : Int), vs = [.ref b, .int m] ∧ BoxAt H b ∧ 1 ≤ m ∧ m < 100000000000000000000 ∧
  ∀ (d : Int) (H' : Hp), 0 ≤ d → d < m → Bx b H H' → Q (.int d) H'
/-- a pick -/
def spPick (K : PySem.W.Frag) : Sp := fun vs H Q _ => ∃ (b l : Addr) (xs : List V), vs = [.ref b, .ref l] ∧ BoxAt H b ∧ (SqL K H l xs ∨ SqT K H l xs) ∧ l ≠ b ∧ 1 ≤ xs.length ∧ xs.length < 1000000 ∧
  ∀ (v : V) (H' : Hp), v ∈ xs → Bx b H H' → Q v H'
/-- a new box -/
def spBox (K : PySem.W.Frag) : Sp := fun vs H Q _ => ∃ (a : Addr) (ns : List Int) (k c : Int), vs = [.ref a, .int k, .int c] ∧ SqL K H a (ns.map V.int) ∧ 0 ≤ k ∧ k < 1000000 ∧ 0 ≤ c ∧ c < 1000000 ∧ ns.length ≤ 1000 ∧
  ∀ (b : Addr) (H' : Hp), H b = none → Bx b H H' → Q (.ref b) H'
end Hg
end L2
end

section
set_option Elab.async false
set_option linter.all false
set_option maxRecDepth 100000
set_option maxHeartbeats 400000
/-! Any values: None, bools, ints, texts, lists, tuples; their kinds, their data; what stays. -/
namespace L2
namespace Hg
open PySem PySem.Spec PyProof.Rows

/-- any value of a kind that isinstance can tell -/
inductive Kd (K : PySem.W.Frag) (H : Hp) : V → Prop
  | non : Kd K H .non
  | bl (b : Bool) : Kd K H (.bl b)
  | int (i : Int) : Kd K H (.int i)
  | str (x : Str) : Kd K H (.str x)
  | lst {a : Addr} {xs : List V} : SqL K H a xs → Kd K H (.ref a)
  | tup {a : Addr} {xs : List V} : SqT K H a xs → Kd K H (.ref a)
def isI : V → Bool | .int _ => true | _ => false
def isIB : V → Bool | .int _ => true | .bl _ => true | _ => false
def isB : V → Bool | .bl _ => true | _ => false
def isS : V → Bool | .str _ => true | _ => false
theorem tyx_list {K : PySem.W.Frag} {H : Hp} {a : Addr} {xs : List V} (h : SqL K H a xs) : TyX K H (.ref a) (.type "list") := by
  rcases h with (h | ⟨o, h⟩) | ⟨o, its, n, h, c, _⟩
  · exact .base (.lst h)
  · exact .base (.frz h)
  · exact .kList h c
theorem tyx_tup {K : PySem.W.Frag} {H : Hp} {a : Addr} {xs : List V} (h : SqT K H a xs) : TyX K H (.ref a) (.type "tuple") := by
  rcases h with (h | ⟨o, h⟩) | ⟨o, its, n, h, c, _⟩
  · exact .base (.tup h)
  · exact .fTuple h
  · exact .kTuple h c
section
variable {K : PySem.W.Frag} {H H' : Hp} {v : V}
theorem Kd.isi_int (h : Kd K H v) : ∃ t, TyX K H v t ∧ PySem.W.kitOne K t (.type "int") = some (isIB v) := by
  cases h with
  | non => exact ⟨_, .base .non, kit_ty (a := "NoneType") (by decide +kernel)⟩
  | bl b => exact ⟨_, .base (.bl b), kit_ty (a := "bool") (b := "int") (r := true) (by decide +kernel)⟩
  | int i => exact ⟨_, .base (.int i), kit_ty (a := "int") (b := "int") (r := true) (by decide +kernel)⟩
  | str x => exact ⟨_, .base (.str x), kit_ty (a := "str") (b := "int") (r := false) (by decide +kernel)⟩
  | lst h => exact ⟨_, tyx_list h, kit_ty (a := "list") (b := "int") (r := false) (by decide +kernel)⟩
  | tup h => exact ⟨_, tyx_tup h, kit_ty (a := "tuple") (b := "int") (r := false) (by decide +kernel)⟩
theorem Kd.isi_bool (h : Kd K H v) : ∃ t, TyX K H v t ∧ PySem.W.kitOne K t (.type "bool") = some (isB v) := by
  cases h with
  | non => exact ⟨_, .base .non, kit_ty (a := "NoneType") (by decide +kernel)⟩
  | bl b => exact ⟨_, .base (.bl b), kit_ty (a := "bool") (b := "bool") (r := true) (by decide +kernel)⟩
  | int i => exact ⟨_, .base (.int i), kit_ty (a := "int") (b := "bool") (r := false) (by decide +kernel)⟩
  | str x => exact ⟨_, .base (.str x), kit_ty (a := "str") (b := "bool") (r := false) (by decide +kernel)⟩
  | lst h => exact ⟨_, tyx_list h, kit_ty (a := "list") (b := "bool") (r := false) (by decide +kernel)⟩
  | tup h => exact ⟨_, tyx_tup h, kit_ty (a := "tuple") (b := "bool") (r := false) (by decide +kernel)⟩
theorem Kd.isi_str (h : Kd K H v) : ∃ t, TyX K H v t ∧ PySem.W.kitOne K t (.type "str") = some (isS v) := by
  cases h with
  | non => exact ⟨_, .base .non, kit_ty (a := "NoneType") (by decide +kernel)⟩
  | bl b => exact ⟨_, .base (.bl b), kit_ty (a := "bool") (b := "str") (r := false) (by decide +kernel)⟩
  | int i => exact ⟨_, .base (.int i), kit_ty (a := "int") (b := "str") (r := false) (by decide +kernel)⟩
  | str x => exact ⟨_, .base (.str x), kit_ty (a := "str") (b := "str") (r := true) (by decide +kernel)⟩
  | lst h => exact ⟨_, tyx_list h, kit_ty (a := "list") (b := "str") (r := false) (by decide +kernel)⟩
  | tup h => exact ⟨_, tyx_tup h, kit_ty (a := "tuple") (b := "str") (r := false) (by decide +kernel)⟩
theorem sameT {a : Addr} {xs : List V} (e : Same H H') (h : SqT K H a xs) : SqT K H' a xs := by
  rcases h with (h | ⟨o, h⟩) | h
  · exact .inl (.inl (e _ _ h))
  · exact .inl (.inr ⟨o, e _ _ h⟩)
  · exact .inr h
theorem Kd.mono (e : Same H H') (h : Kd K H v) : Kd K H' v := by
  cases h with
  | non => exact .non
  | bl b => exact .bl b
  | int i => exact .int i
  | str x => exact .str x
  | lst h => exact .lst (e.seq h)
  | tup h => exact .tup (sameT e h)
mutual
theorem Dp.mono (e : Same H H') : ∀ (d : PyData) (v : V), Dp K H v d → Dp K H' v d
  | .none, _, h => by cases h; exact .non
  | .bool b, _, h => by cases h; exact .bl b
  | .int i, _, h => by cases h; exact .int i
  | .str x, _, h => by cases h; exact .str x
  | .list ds, _, h => by
    cases h with
    | lst hs ha => exact .lst (e.seq hs) (DpAll.mono e ds _ ha)
  | .tuple ds, _, h => by
    cases h with
    | tup hs ha => exact .tup (sameT e hs) (DpAll.mono e ds _ ha)
  | .dict _, _, h => by cases h
theorem DpAll.mono (e : Same H H') : ∀ (ds : List PyData) (vs : List V), DpAll K H vs ds → DpAll K H' vs ds
  | [], _, h => by cases h; exact .nil
  | d :: ds, _, h => by
    cases h with
    | cons h1 h2 => exact .cons (Dp.mono e d _ h1) (DpAll.mono e ds _ h2)
end
theorem Dp.kd {d : PyData} (h : Dp K H v d) : Kd K H v := by
  cases h with
  | non => exact .non
  | bl b => exact .bl b
  | int i => exact .int i
  | str x => exact .str x
  | lst h _ => exact .lst h
  | tup h _ => exact .tup h
end
/-! ### the promises of `signs` -/
def fromV (v : V) (a b : Int) : Bool := match v with | .int i => decide (a ≤ i) && decide (i ≤ b) | _ => false
def numV (v : V) : Bool := match v with | .int i => decide (0 ≤ i) | _ => false
def spIsInt (K : PySem.W.Frag) : Sp := fun vs H Q _ => ∃ v, vs = [v] ∧ Kd K H v ∧ Q (.bl (isI v)) H
def spFrom (K : PySem.W.Frag) : Sp := fun vs H Q _ => ∃ v a b, vs = [v, .int a, .int b] ∧ Kd K H v ∧ Q (.bl (fromV v a b)) H
def spIsNum (K : PySem.W.Frag) : Sp := fun vs H Q _ => ∃ v, vs = [v] ∧ Kd K H v ∧ Q (.bl (numV v)) H
theorem isI_of (v : V) : (isIB v && !isB v) = isI v := by cases v <;> rfl
theorem isI_int {v : V} (h : isI v = true) : ∃ i, v = .int i := by
  cases v <;> first | exact ⟨_, rfl⟩ | cases h
/-! ### what stays of a heap but for a box -/
theorem same_del (H : Hp) (b : Addr) : Same (del H b) H := fun a o h => by
  unfold del at h
  split at h
  · cases h
  · exact h
theorem Bx.same {b : Addr} {H H' : Hp} (h : Bx b H H') : Same (del H b) (del H' b) := fun a o q => by
  unfold del at q ⊢
  split at q
  · cases q
  · rename_i n
    rw [if_neg n]
    exact h.keep a o n q
theorem same_new {H : Hp} {p : Addr} {o : HO} (h : H p = none) : Same H (upd H p o) := fun a u q => at_upd (ne_of_none q h) q
theorem bx_of_same {b : Addr} {H H' : Hp} (hb : BoxAt H b) (h : Same H H') : Bx b H H' :=
  ⟨fun a o _ q => h a o q, let ⟨x, y, z, q⟩ := hb; ⟨x, y, z, h _ _ q⟩⟩
theorem del_at {H : Hp} {a b : Addr} {o : HO} (n : a ≠ b) (h : H a = some o) : del H b a = some o := (del_ne n).trans h
/-! ### data that may be shown -/
/-- v is data of depth at most k, whose text has at most n signs -/
structure Sh (K : PySem.W.Frag) (H : Hp) (v : V) (d : PyData) (k n : Nat) : Prop where
  dp : Dp K H v d
  sw : d.showable = true
  nd : d.hasDict = false
  cl : d.canLay0 = true
  dpt : d.depth ≤ k
  len : d.shown.length ≤ n
section
variable {K : PySem.W.Frag} {H H' : Hp} {v : V} {d : PyData} {k k' n n' : Nat}
theorem Sh.mono (e : Same H H') (h : Sh K H v d k n) : Sh K H' v d k n := ⟨Dp.mono e _ _ h.dp, h.sw, h.nd, h.cl, h.dpt, h.len⟩
theorem Sh.up (h : Sh K H v d k n) (hk : k ≤ k') (hn : n ≤ n') : Sh K H v d k' n' := ⟨h.dp, h.sw, h.nd, h.cl, Nat.le_trans h.dpt hk, Nat.le_trans h.len hn⟩
theorem Sh.shaped (h : Sh K H v d k n) (hk : k ≤ 64) : SeqAt.shaped d = true := by
  unfold SeqAt.shaped
  rw [h.cl, decide_eq_true (Nat.le_trans h.dpt hk)] <;> rfl
theorem Sh.repr {Q : VK} (h : Sh K H v d k n) (hk : k ≤ 60) (hn : n ≤ 100000) (q : Q (.str d.shown) H) : rRepr K [v] H Q :=
  r_repr h.dp h.sw h.nd (Nat.le_trans h.dpt hk) (sz (Nat.le_trans h.len hn)) q
theorem sh_non : Sh K H .non .none 0 10 := ⟨.non, rfl, rfl, rfl, Nat.le_refl _, by decide +kernel⟩
theorem sh_bl (b : Bool) : Sh K H (.bl b) (.bool b) 0 10 := ⟨.bl b, rfl, rfl, rfl, Nat.le_refl _, by cases b <;> decide +kernel⟩
theorem sh_int {i : Int} (h : i.natAbs < 10 ^ 38) : Sh K H (.int i) (.int i) 0 40 := by
  refine ⟨.int i, ?_, rfl, rfl, Nat.le_refl _, ?_⟩
  · show decide (i.natAbs.log2 < 1920) = true
    refine decide_eq_true ?_
    by_cases h0 : i.natAbs = 0
    · rw [h0]; decide
    · refine (Nat.log2_lt h0).mpr (Nat.lt_trans h (by decide +kernel))
  · show (Str.ofString (toString i)).length ≤ 40
    have e := int_text_length_le10 (k := 38) (by decide) h
    refine Nat.le_trans ?_ (Nat.le_trans e (by decide))
    exact Nat.le_of_eq (PySem.ofString_length _)
theorem sh_str {x : Str} (ok : PyData.canLay0 (.str x) = true) (h : (reprText x).length ≤ n) : Sh K H (.str x) (.str x) 0 n := ⟨.str x, rfl, rfl, ok, Nat.le_refl _, h⟩
theorem sh_all {vs : List V} {ds : List PyData} (h : Paired (fun v d => Sh K H v d k n) vs ds) : DpAll K H vs ds ∧ PyData.showableAll ds = true ∧ PyData.hasDictAll ds = false ∧ PyData.canLayAll0 ds = true ∧ PyData.depthAll ds ≤ k ∧
    ((PyData.shownAll ds).map (·.length)).sum ≤ vs.length * n ∧ ds.length = vs.length ∧ (PyData.shownAll ds).length = vs.length := by
  induction h with
  | nil => exact ⟨.nil, rfl, rfl, rfl, Nat.zero_le _, Nat.zero_le _, rfl, rfl⟩
  | cons h _ ih =>
    obtain ⟨i1, i2, i3, i4, i5, i6, i7, i8⟩ := ih
    refine ⟨.cons h.dp i1, ?_, ?_, ?_, ?_, ?_, ?_, ?_⟩
    · simp only [PyData.showableAll, h.sw, i2, Bool.and_self]
    · simp only [PyData.hasDictAll, h.nd, i3, Bool.or_self]
    · simp only [PyData.canLayAll0, h.cl, i4, Bool.and_self]
    · simp only [PyData.depthAll]; exact Nat.max_le.mpr ⟨h.dpt, i5⟩
    · simp only [PyData.shownAll, List.map_cons, List.sum_cons, List.length_cons]
      have := h.len
      rw [Nat.succ_mul]
      omega
    · simp only [List.length_cons, i7]
    · simp only [PyData.shownAll, List.length_cons, i8]
theorem sh_tup {a : Addr} {vs : List V} {ds : List PyData} {m : Nat} (h : SqT K H a vs) (hp : Paired (fun v d => Sh K H v d k n) vs ds) (hl : vs.length * n + 2 * vs.length + 3 ≤ m) : Sh K H (.ref a) (.tuple ds) (k + 1) m := by
  obtain ⟨i1, i2, i3, i4, i5, i6, i7, i8⟩ := sh_all hp
  refine ⟨.tup h i1, ?_, ?_, ?_, ?_, ?_⟩
  · simp only [PyData.showable, i2]
  · simp only [PyData.hasDict, i3]
  · simp only [PyData.canLay0, i4]
  · simp only [PyData.depth]; omega
  · simp only [PyData.shown]
    have q := tupleText_len_le (PyData.shownAll ds)
    rw [i8] at q
    omega
theorem sh_lst {a : Addr} {vs : List V} {ds : List PyData} {m : Nat} (h : SqL K H a vs) (hp : Paired (fun v d => Sh K H v d k n) vs ds) (hl : vs.length * n + 2 * vs.length + 3 ≤ m) : Sh K H (.ref a) (.list ds) (k + 1) m := by
  obtain ⟨i1, i2, i3, i4, i5, i6, i7, i8⟩ := sh_all hp
  refine ⟨.lst h i1, ?_, ?_, ?_, ?_, ?_⟩
  · simp only [PyData.showable, i2]
  · simp only [PyData.hasDict, i3]
  · simp only [PyData.canLay0, i4]
  · simp only [PyData.depth]; omega
  · simp only [PyData.shown]
    have q := listText_len_le (PyData.shownAll ds)
    rw [i8] at q
    omega
end
/-! ### isinstance of a caught error -/
def rIsG (K : PySem.W.Frag) (a : Addr) (cls : Value) (d : Option Addr) : List V → Hp → VK → Prop := fun xs H Q => ∃ D : Addr, cls = .ref D ∧ d = none ∧ ExcC K D ∧ rIsE K D a xs H Q
theorem c_isG {X : Cx} {a : Addr} {cls : Value} {d : Option Addr} {oe : Obj} {pn : List (Addr × Obj)} (K : PySem.W.Frag) (hz : Zc cls d oe) (hf : ∃ vs, oe.data = .fields vs) (hK : X.K = K := by rfl) :
    CallR (X.suite a ((a, oe) :: pn)) (.builtin "isinstance") (rIsG K a cls d) := by
  subst hK
  intro pins s σ H xs us Q I r h
  obtain ⟨D, rfl, rfl, C, h⟩ := h
  exact call_isE C hz hf pins s σ H xs us Q I r h
theorem r_isG {K : PySem.W.Frag} {a D G : Addr} {b : Bool} {H : Hp} {Q : VK} (C : ExcC K D) (e : PySem.W.kitOne K (.ref D) (.ref G) = some b) (k : Q (.bl b) H) : rIsG K a (.ref D) none [.ref a, .ref G] H Q :=
  ⟨D, rfl, rfl, C, .ref G, .ref G, b, rfl, fun u h => h, e, k⟩
/-! ### fields -/
section
variable {K : PySem.W.Frag} {H : Hp} {Q : VK} {σ : St} {D : Ends} {ta tv : TE} {f : Str} {a C dx : Addr} {fs : List (Str × V)} {v : V}
theorem r_sFld (k : tv σ H fun y H1 => ta σ H1 fun x H2 => ∃ a C dx fs, x = .ref a ∧ H2 a = some (.ins C dx fs) ∧ Cls K C ∧ NoAttr K C f ∧ fs.length < 1000 ∧ D.nx σ (upd H2 a (.ins C dx (putF f y fs)))) : sFld K ta tv f D σ H := k
theorem r_put {R : Hp → Prop} (h : H a = some (.ins C dx fs)) (c : Cls K C) (n : NoAttr K C f) (z : fs.length < 1000) (k : R (upd H a (.ins C dx (putF f v fs)))) :
    ∃ a' C' dx' fs', V.ref a = .ref a' ∧ H a' = some (.ins C' dx' fs') ∧ Cls K C' ∧ NoAttr K C' f ∧ fs'.length < 1000 ∧ R (upd H a' (.ins C' dx' (putF f v fs'))) := ⟨a, C, dx, fs, rfl, h, c, n, z, k⟩
theorem r_fld (k : ta σ H fun x H1 => ∃ a C dx fs v, x = .ref a ∧ H1 a = some (.ins C dx fs) ∧ Cls K C ∧ NoAttr K C f ∧ fs.lookup f = some v ∧ Q v H1) : tFld K ta f σ H Q := k
theorem r_get {R : V → Prop} (h : H a = some (.ins C dx fs)) (c : Cls K C) (n : NoAttr K C f) (l : fs.lookup f = some v) (k : R v) :
    ∃ a' C' dx' fs' v', V.ref a = .ref a' ∧ H a' = some (.ins C' dx' fs') ∧ Cls K C' ∧ NoAttr K C' f ∧ fs'.lookup f = some v' ∧ R v' := ⟨a, C, dx, fs, v, rfl, h, c, n, l, k⟩
end
theorem putF_len {f : Str} {v : V} (l : List (Str × V)) : (putF f v l).length ≤ l.length + 1 := length_putF f v l
/-! ### dicts -/
section
variable {σ : St} {H : Hp} {Q : VK} {D : Ends} {td ty tv : TE}
theorem r_disp {trs : List (TE × TE)} (k : ∀ p, H p = none → tPairs trs σ (upd H p (.dK [])) fun ps H2 => H2 p = some (.dK []) ∧ ∃ kvs : List (Key × V), ps = kvs.map (fun kv => (kV kv.1, kv.2)) ∧ kvs.length ≤ 15 ∧ Q (.ref p) (upd H2 p (.dK (mergeK [] kvs)))) : tDisp trs σ H Q := k
theorem r_pairs {QP : List (V × V) → Hp → Prop} {r : List (TE × TE)} (k : td σ H fun x H1 => tv σ H1 fun y H2 => tPairs r σ H2 fun ps H3 => QP ((x, y) :: ps) H3) : tPairs ((td, tv) :: r) σ H QP := k
theorem r_pairs0 {QP : List (V × V) → Hp → Prop} (k : QP [] H) : tPairs [] σ H QP := k
theorem r_dput (k : tv σ H fun v H1 => td σ H1 fun x H2 => ty σ H2 fun y H3 => ∃ a H4, x = .ref a ∧ DPut H3 a y v H4 ∧ D.nx σ H4) : sDPut td ty tv D σ H := k
theorem r_dget (k : td σ H fun x H1 => ty σ H1 fun y H2 => ∃ a v, x = .ref a ∧ DGet H2 a y (some v) ∧ Q v H2) : tDGet td ty σ H Q := k
theorem r_dg {p : Addr} {kvs : List (Key × V)} {k : Key} {v : V} {R : V → Prop} (h : H p = some (.dK kvs)) (e : valV kvs k = some v) (q : R v) : ∃ a w, V.ref p = .ref a ∧ DGet H a (kV k) (some w) ∧ R w :=
  ⟨p, v, rfl, by rw [← e]; exact DGet.k h, q⟩
theorem r_dp {p : Addr} {kvs : List (Key × V)} {k : Key} {v : V} {R : Hp → Prop} (h : H p = some (.dK kvs)) (z : kvs.length < sizeLine) (q : R (upd H p (.dK (putK kvs k v)))) : ∃ a H4, V.ref p = .ref a ∧ DPut H a (kV k) v H4 ∧ R H4 :=
  ⟨p, _, rfl, DPut.k h z, q⟩
end
/-! ### loops and comprehensions -/
section
variable {σ : St} {H : Hp} {Q : VK} {D : Ends} {K : PySem.W.Frag}
theorem r_rng1 {ta : TA} {R : It → Hp → Prop} (k : ta σ H fun vs H1 => ∃ j : Int, vs = [.int j] ∧ -(2 ^ 62) ≤ j ∧ j < 2 ^ 62 ∧ R (Itr 0 j.toNat) H1) : iRng1 ta σ H R := k
theorem r_rng2 {ta : TA} {R : It → Hp → Prop} (k : ta σ H fun vs H1 => ∃ i j : Int, vs = [.int i, .int j] ∧ (-(2 ^ 62) ≤ i ∧ i < 2 ^ 62 ∧ -(2 ^ 62) ≤ j ∧ j < 2 ^ 62) ∧ R (Itr i (j - i).toNat) H1) : iRng2 ta σ H R := k
theorem r_iL {tl : TE} {R : It → Hp → Prop} (k : tl σ H fun x H1 => ∃ a, x = .ref a ∧ (∃ xs, SqL K H1 a xs) ∧ R (Itl K a) H1) : iList K tl σ H R := k
theorem r_iT {tl : TE} {R : It → Hp → Prop} (k : tl σ H fun x H1 => ∃ a, x = .ref a ∧ (∃ xs, SqT K H1 a xs) ∧ R (Itt K a) H1) : iTup K tl σ H R := k
theorem r_lc {wi : TI} {g : TG} {tt : TT} {te : TE} {vs : List Nat} (k : wi σ H fun J H1 => ∀ D, H1 D = none → ∃ W : Nat → Nat → Hp → Prop, (∃ m, W 0 m (upd H1 D (.lst []))) ∧ ∀ i m H, W i m H →
  (J.stop i H ∧ Q (.ref D) H) ∨ (J.go i H ∧ ∃ Nx : Hp → Prop, (∀ H', Nx H' → ∃ m', m' < m ∧ W (i + 1) m' H') ∧ ∀ x H', J.yld i H x H' → g x (wipe σ vs) H' fun σ2 H2 => wipe σ2 vs = wipe σ vs ∧ tt σ2 H2 fun b H3 =>
    if b = true then te σ2 H3 fun y H4 => ∃ acc, H4 D = some (.lst acc) ∧ acc.length < sizeLine ∧ Nx (upd H4 D (.lst (acc ++ [y]))) else Nx H3)) : tLc wi g tt te vs σ H Q := k
theorem r_gT {n : Nat} {t : TGs} {QS : St → Hp → Prop} {p : Addr} {xs : List V} (h : SqT K H p xs) (e : xs.length = n) (k : t xs σ H QS) : gTup K n t (.ref p) σ H QS := ⟨p, xs, rfl, h, e, k⟩
theorem r_gL {n : Nat} {t : TGs} {QS : St → Hp → Prop} {p : Addr} {xs : List V} (h : SqL K H p xs) (e : xs.length = n) (k : t xs σ H QS) : gLst K n t (.ref p) σ H QS := ⟨p, xs, rfl, h, e, k⟩
theorem r_gCons {t : TG} {u : TGs} {QS : St → Hp → Prop} {v : V} {r : List V} (k : t v σ H fun σ' H' => u r σ' H' QS) : gCons t u (v :: r) σ H QS := ⟨v, r, rfl, k⟩
theorem r_gNil {QS : St → Hp → Prop} (k : QS σ H) : gNil [] σ H QS := ⟨rfl, k⟩
theorem r_yes {QB : Bool → Hp → Prop} (k : QB true H) : tYes σ H QB := k
theorem take_succ {α : Type} : ∀ {l : List α} {i : Nat} {x : α}, l[i]? = some x → l.take (i + 1) = l.take i ++ [x]
  | [], i, x, h => by simp at h
  | a :: l, 0, x, h => by
    simp at h
    subst h
    rfl
  | a :: l, i + 1, x, h => by
    have ih := take_succ (l := l) (i := i) (x := x) (by simpa using h)
    simp only [List.take_succ_cons, ih, List.cons_append]
end
/-! ### what calls raise -/
theorem r_veI {K : PySem.W.Frag} {ta : TA} {σ : St} {H : Hp} {Q : VK} (k : ta σ H fun vs H1 => ∃ (a C : Addr) (ws : List V), vs = .ref a :: ws ∧ ws.length ≤ 1000 ∧ OexC K C ∧ H1 a = some (exo a C none) ∧ Q .non H1) : tVeI K ta σ H Q := k
theorem r_makeS {C : Addr} {sp : Sp} {dvs : List V} {E : St → XK} {t : TA} {σ : St} {H : Hp} {Q : VK} (k : t σ H fun vs H1 => ∀ x dx, H1 x = none → H1 dx = none → dx ≠ x →
  sp (.ref x :: (vs ++ dvs)) (upd (upd H1 dx (.own x)) x (.ins C dx [])) (fun v H2 => v = .non ∧ Q (.ref x) H2) (E σ)) : tMakeS C sp dvs E t σ H Q := k
theorem r_make {C : Addr} {sp : Sp} {dvs : List V} {E : XK} {t : TA} {σ : St} {H : Hp} {Q : VK} (k : t σ H fun vs H1 => ∀ x dx, H1 x = none → H1 dx = none → dx ≠ x →
  sp (.ref x :: (vs ++ dvs)) (upd (upd H1 dx (.own x)) x (.ins C dx [])) (fun v H2 => v = .non ∧ Q (.ref x) H2) E) : tMake C sp dvs E t σ H Q := k
end Hg
end L2
end

section
set_option Elab.async false
set_option linter.all false
set_option maxRecDepth 100000
set_option maxHeartbeats 4000000
/-! Methods and properties of own classes as one hypothesis; tuple * int; what stays of a heap. -/
namespace L2
namespace Hg
open PySem PySem.Spec PyProof.Rows

/-! ### methods -/
structure MetAt (K : PySem.W.Frag) (C : Addr) (m q : Str) (st : Stmt) : Prop where
  cl : Cls K C
  ex : ∃ f fd, Meth K C m f ∧ Fun K m q st f fd
def MetOk (P : Program) (w : World) (K : PySem.W.Frag) (mg : Str → Option Value) (base : Heap) (CX : CXT) (k : Nat) (C : Addr) (m : Str) (ps : List Str) (sp : Sp) : Prop :=
  Cls K C ∧ ∃ f fd, Meth K C m f ∧ FnOk P w K mg base CX k f fd ps sp ∧ Binds K fd ps []
structure PrpAt (K : PySem.W.Frag) (C : Addr) (m q : Str) (st : Stmt) : Prop where
  cl : Cls K C
  ex : ∃ p g fd, PropOf K C m p g ∧ Fun K m q st g fd
def PrpOk (P : Program) (w : World) (K : PySem.W.Frag) (mg : Str → Option Value) (base : Heap) (CX : CXT) (k : Nat) (C : Addr) (m : Str) (sp : Sp) : Prop :=
  Cls K C ∧ ∃ p g fd, PropOf K C m p g ∧ FnOk P w K mg base CX k g fd ["self"] sp ∧ Binds K fd ["self"] []
section
variable {P : Program} {w : World} {K : PySem.W.Frag} {mg : Str → Option Value} {base : Heap} {k : Nat} {m q : Str} {st : Stmt} {C : Addr} {N ps : List Str} {sp : Sp}
theorem MetAt.ok (F : MetAt K C m q st) (S : FnScope N ps (defScope st)) (hb : BindsAs st m q ps) (len : ∀ vs H Q E, sp vs H Q E → vs.length = ps.length)
    (hbody : ∀ (f : Addr) (cdv : Value) (A : Around) (outer : List Env) (s : Shared) (H : Hp) (vs : List V) (Q : VK) (E : XK), Room k (A.deeper (envOfC q (defScope st) s.heap.objs.size f cdv)) → sp vs H Q E →
      ∃ t, PSs (cxOf CX0 P w K mg base N q (defScope st) f cdv A outer s H E).nox (defBody st) t ∧ t { nx := fun _ H' => Q .non H', rt := Q } (start N vs) H) : MetOk P w K mg base CX0 (k + 1) C m ps sp := by
  obtain ⟨f, fd, hm, F1⟩ := F.ex
  exact ⟨F.cl, f, fd, hm, F1.ok S len fun cdv A outer s H vs Q E hr h => hbody f cdv A outer s H vs Q E hr h, F1.binds hb⟩
theorem MetAt.okX (F : MetAt K C m q st) (S : FnScope N ps (defScope st)) (hb : BindsAs st m q ps) (len : ∀ vs H Q E, sp vs H Q E → vs.length = ps.length)
    (hbody : ∀ (f : Addr) (cdv : Value) (A : Around) (outer : List Env) (s : Shared) (H : Hp) (vs : List V) (Q : VK) (E : XK), Room k (A.deeper (envOfC q (defScope st) s.heap.objs.size f cdv)) → sp vs H Q E →
      ∃ t, PSs (cxOf (L2.CX P w) P w K mg base N q (defScope st) f cdv A outer s H E) (defBody st) t ∧ t { nx := fun _ H' => Q .non H', rt := Q } (start N vs) H) : MetOk P w K mg base (L2.CX P w) (k + 1) C m ps sp := by
  obtain ⟨f, fd, hm, F1⟩ := F.ex
  exact ⟨F.cl, f, fd, hm, F1.okX S len fun cdv A outer s H vs Q E hr h => hbody f cdv A outer s H vs Q E hr h, F1.binds hb⟩
theorem PrpAt.ok (F : PrpAt K C m q st) (S : FnScope N ["self"] (defScope st)) (hb : BindsAs st m q ["self"]) (len : ∀ vs H Q E, sp vs H Q E → vs.length = 1)
    (hbody : ∀ (f : Addr) (cdv : Value) (A : Around) (outer : List Env) (s : Shared) (H : Hp) (vs : List V) (Q : VK) (E : XK), Room k (A.deeper (envOfC q (defScope st) s.heap.objs.size f cdv)) → sp vs H Q E →
      ∃ t, PSs (cxOf CX0 P w K mg base N q (defScope st) f cdv A outer s H E).nox (defBody st) t ∧ t { nx := fun _ H' => Q .non H', rt := Q } (start N vs) H) : PrpOk P w K mg base CX0 (k + 1) C m sp := by
  obtain ⟨p, f, fd, hm, F1⟩ := F.ex
  exact ⟨F.cl, p, f, fd, hm, F1.ok S len fun cdv A outer s H vs Q E hr h => hbody f cdv A outer s H vs Q E hr h, F1.binds hb⟩
end
section
variable {X : Cx} {CX : CXT} {k : Nat} {C : Addr} {m : Str} {ps : List Str} {sp : Sp} {E : XK} {ES : St → XK} {o e : Expr} {es : List Expr} {ta : TE} {t : TA} {apos pos : Pos}
theorem pe_metD {pl : Sem Bool} (F : MetOk X.prog X.w X.K X.mg X.base CX k C m ps sp) (hr : Room k X.A) (hx : Passes CX X E) (he : PE X o ta) (ha : PA X (e :: es) t)
    (hst : starEach (e :: es) X.env = (false, eval e X.env) :: starEach es X.env := by rfl) (hpl : (backTo pos (starEach es X.env)).any (·.1) = false := by rfl)
    (ht : eval (.Call (.Attribute o m apos) (e :: es) [] pos) X.env = (do
      let ov ← eval o X.env
      standAt apos.atName
      let (f, first) ← holding [ov] (getMethod ov m pl)
      callWith pos f first (backTo pos (starEach (e :: es) X.env)) (backToKw pos (keywordEach [] X.env))) := by rfl) :
    PE X (.Call (.Attribute o m apos) (e :: es) [] pos) (tMeth C m sp [] E ta t) :=
  let ⟨c, _, _, hm, G, hb⟩ := F
  pe_meth he c hm G hr hb .nil hx ha hst hpl ht
theorem pe_metD0 {pl : Sem Bool} (F : MetOk X.prog X.w X.K X.mg X.base CX k C m ps sp) (hr : Room k X.A) (hx : Passes CX X E) (he : PE X o ta)
    (ht : eval (.Call (.Attribute o m apos) [] [] pos) X.env = (do
      let ov ← eval o X.env
      standAt apos.atName
      let (f, first) ← holding [ov] (getMethod ov m pl)
      callWith pos f first (backTo pos (starEach [] X.env)) (backToKw pos (keywordEach [] X.env))) := by rfl) :
    PE X (.Call (.Attribute o m apos) [] [] pos) (tMeth C m sp [] E ta tNil) :=
  let ⟨c, _, _, hm, G, hb⟩ := F
  pe_meth0 he c hm G hr hb .nil hx ht
/-- o.m(e, ..) where what is raised is wished at the slots -/
def tMetS (C : Addr) (m : Str) (sp : Sp) (E : St → XK) (ta : TE) (t : TA) : TE := fun σ H Q => ta σ H fun x H1 => ∃ a dx fs, x = .ref a ∧ H1 a = some (.ins C dx fs) ∧ fs.lookup m = none ∧
  t σ H1 fun vs H2 => sp (x :: vs) H2 Q (E σ)
theorem pe_metDS {pl : Sem Bool} (F : MetOk X.prog X.w X.K X.mg X.base CX k C m ps sp) (hr : Room k X.A) (hx : ∀ σ, PassesAt CX X σ (ES σ)) (he : PE X o ta) (ha : PA X (e :: es) t)
    (hst : starEach (e :: es) X.env = (false, eval e X.env) :: starEach es X.env := by rfl) (hpl : (backTo pos (starEach es X.env)).any (·.1) = false := by rfl)
    (ht : eval (.Call (.Attribute o m apos) (e :: es) [] pos) X.env = (do
      let ov ← eval o X.env
      standAt apos.atName
      let (f, first) ← holding [ov] (getMethod ov m pl)
      callWith pos f first (backTo pos (starEach (e :: es) X.env)) (backToKw pos (keywordEach [] X.env))) := by rfl) :
    PE X (.Call (.Attribute o m apos) (e :: es) [] pos) (tMetS C m sp ES ta t) := by
  obtain ⟨c, f, fd, hm, G, hb⟩ := F
  refine ⟨fun pins s σ H Q I h => ?_⟩
  refine PySem.W.methodCall_KW (pl := pl) (thn (he.run pins s σ H _ I h) fun u s1 ⟨x, H1, I1, rx, a, dx, fs, ex, ea, l, q⟩ => ?_) ht
  subst ex
  obtain rfl : u = Value.ref a := rx
  refine getmeth_ok I1 ea c hm l ?_
  refine PySem.W.callWith_K (first := [.ref a]) (h₀ := X.base) I.ok.mod.kin hm.kp (thn (ha.run pos pins s1 σ H1 _ I1 q) fun us s2 ⟨vs, H2, I2, r, q2⟩ => ⟨I2.kIn, ?_⟩) hst hpl
  exact run_fnS (us := .ref a :: us) (vs := .ref a :: vs) G hr hb (hx σ) I2 (.cons rfl r) q2
theorem pe_prpD (F : PrpOk X.prog X.w X.K X.mg X.base CX k C m sp) (hr : Room (k + 1) X.A) (hx : Passes CX X.nox E) (he : PE X e ta)
    (hab : attributeBase e m X.env (eval e X.env) = eval e X.env := by rfl) : PE X (.Attribute e m pos) (tProp C sp [] E ta) :=
  let ⟨c, _, _, _, hm, G, hb⟩ := F
  pe_prop he c hm G hr hb .nil hx hab
variable {σ : St} {H : Hp} {Q : VK} {dvs : List V}
theorem r_meth (k : ta σ H fun x H1 => ∃ a dx fs, x = .ref a ∧ H1 a = some (.ins C dx fs) ∧ fs.lookup m = none ∧ t σ H1 fun vs H2 => sp (x :: (vs ++ dvs)) H2 Q E) : tMeth C m sp dvs E ta t σ H Q := k
theorem r_metS (k : ta σ H fun x H1 => ∃ a dx fs, x = .ref a ∧ H1 a = some (.ins C dx fs) ∧ fs.lookup m = none ∧ t σ H1 fun vs H2 => sp (x :: vs) H2 Q (ES σ)) : tMetS C m sp ES ta t σ H Q := k
theorem r_prop (k : ta σ H fun x H1 => ∃ a dx fs, x = .ref a ∧ H1 a = some (.ins C dx fs) ∧ sp (.ref a :: dvs) H1 Q E) : tProp C sp dvs E ta σ H Q := k
theorem r_obj {R : Prop} {a dx : Addr} {fs : List (Str × V)} (h : H a = some (.ins C dx fs)) (l : fs.lookup m = none) (k : R) :
    ∃ a' dx' fs', V.ref a = .ref a' ∧ H a' = some (.ins C dx' fs') ∧ fs'.lookup m = none ∧ R := ⟨a, dx, fs, rfl, h, l, k⟩
theorem r_pobj {R : Addr → Prop} {a dx : Addr} {fs : List (Str × V)} (h : H a = some (.ins C dx fs)) (k : R a) :
    ∃ a' dx' fs', V.ref a = .ref a' ∧ H a' = some (.ins C dx' fs') ∧ R a' := ⟨a, dx, fs, rfl, h, k⟩
/-! ### stars, parallel stores -/
variable {K : PySem.W.Frag} {te : TE} {QL : List V → Hp → Prop} {D : Ends} {i j l : Nat}
theorem r_star (k : te σ H fun x H1 => ∃ p xs, x = V.ref p ∧ (SqT K H1 p xs ∨ SqL K H1 p xs) ∧ t σ H1 fun ys H2 => QL (xs ++ ys) H2) : StX.tStar K te t σ H QL := k
theorem r_st {R : List V → Prop} {p : Addr} {xs : List V} (h : SqT K H p xs ∨ SqL K H p xs) (k : R xs) : ∃ p' xs', V.ref p = V.ref p' ∧ (SqT K H p' xs' ∨ SqL K H p' xs') ∧ R xs' := ⟨p, xs, rfl, h, k⟩
theorem r_par (k : t σ H fun vs H1 => ∃ v w, vs = [v, w] ∧ D.nx ((σ.set i (some v)).set j (some w)) H1) : tPar i j t D σ H := k
theorem r_par3 (k : t σ H fun vs H1 => ∃ u v w, vs = [u, v, w] ∧ D.nx (((σ.set i (some u)).set j (some v)).set l (some w)) H1) : tPar3 i j l t D σ H := k
theorem r_v2 {v w : V} {R : V → V → Prop} (k : R v w) : ∃ v' w', [v, w] = [v', w'] ∧ R v' w' := ⟨v, w, rfl, k⟩
theorem r_v3 {u v w : V} {R : V → V → V → Prop} (k : R u v w) : ∃ u' v' w', [u, v, w] = [u', v', w'] ∧ R u' v' w' := ⟨u, v, w, rfl, k⟩
/-! ### slices -/
variable {r : V → Option Int → Option Int → Hp → VK → Prop} {tl th : TO} {QO : Option Int → Hp → Prop}
theorem r_sl (k : te σ H fun x H1 => tl σ H1 fun l H2 => th σ H2 fun u H3 => r x l u H3 Q) : tSl r te tl th σ H Q := k
theorem r_part (k : te σ H fun x H1 => ∃ i, x = .int i ∧ QO (some i) H1) : tPart te σ H QO := k
theorem r_noPart (k : QO none H) : tNoPart σ H QO := k
theorem r_i {n : Int} {R : Int → Prop} (k : R n) : ∃ i, V.int n = .int i ∧ R i := ⟨n, rfl, k⟩
theorem pa_starK (K : PySem.W.Frag) {X : Cx} {e : Expr} {es : List Expr} {te : TE} {t : TA} {p : Pos} (he : PE X e te) (hr : PA X es t) (hs : starEach (.Starred e p :: es) X.env = (true, eval e X.env) :: starEach es X.env := by rfl) (hK : X.K = K := by rfl) : PA X (.Starred e p :: es) (StX.tStar K te t) := hK ▸ StX.pa_star he hr hs
theorem slT (K : PySem.W.Frag) {X : Cx} (hK : X.K = K := by rfl) : SlR X (rSlT K) := hK ▸ sl_tup
end
/-! ### cuts -/
def tSeqC (t u : TS) : TS := fun D σ H => ∃ P : St → Hp → Prop, t { D with nx := P } σ H ∧ ∀ σ' H', P σ' H' → u D σ' H'
theorem pss_cut {X : Cx} {st : Stmt} {rest : List Stmt} {t u : TS} (h1 : PS X st t) (h2 : PSs X rest u) : PSs X (st :: rest) (tSeqC t u) := by
  refine ⟨fun pins s σ H D I h => ?_⟩
  obtain ⟨P, h, q0⟩ := h
  refine wpAny_execs_cons (thn (h1.run pins s σ H { D with nx := P } I h) fun f s1 q => ?_)
  cases f with
  | next =>
    obtain ⟨σ', H', I', q⟩ := q
    exact h2.run pins s1 σ' H' D I' (q0 _ _ q)
  | ret v => exact q
  | brk => exact q
  | cont => exact q
theorem r_cut {t u : TS} {D : Ends} {σ : St} {H : Hp} (P : St → Hp → Prop) (h : t { D with nx := P } σ H) (k : ∀ σ' H', P σ' H' → u D σ' H') : tSeqC t u D σ H := ⟨P, h, k⟩
def tCut (t : TE) : TE := fun σ H Q => ∃ P : VK, t σ H P ∧ ∀ v H', P v H' → Q v H'
theorem pe_cut {X : Cx} {e : Expr} {t : TE} (h : PE X e t) : PE X e (tCut t) := by
  refine ⟨fun pins s σ H Q I hq => ?_⟩
  obtain ⟨P, hq, q0⟩ := hq
  refine thn (h.run pins s σ H P I hq) fun u s1 ⟨v, H1, I1, r, q⟩ => ⟨v, H1, I1, r, q0 _ _ q⟩
theorem r_cutE {t : TE} {σ : St} {H : Hp} {Q : VK} (P : VK) (h : t σ H P) (k : ∀ v H', P v H' → Q v H') : tCut t σ H Q := ⟨P, h, k⟩
def tCutT (t : TT) : TT := fun σ H Q => ∃ P : Bool → Hp → Prop, t σ H P ∧ ∀ v H', P v H' → Q v H'
theorem pt_cut {X : Cx} {e : Expr} {t : TT} (h : PT X e t) : PT X e (tCutT t) := by
  refine ⟨fun pins s σ H Q I hq => ?_⟩
  obtain ⟨P, hq, q0⟩ := hq
  exact thn (h.run pins s σ H P I hq) fun u s1 ⟨H1, I1, q⟩ => ⟨H1, I1, q0 _ _ q⟩
theorem r_cutT {t : TT} {σ : St} {H : Hp} {Q : Bool → Hp → Prop} (P : Bool → Hp → Prop) (h : t σ H P) (k : ∀ v H', P v H' → Q v H') : tCutT t σ H Q := ⟨P, h, k⟩
/-! ### tuple * int -/
theorem tuple_mul1 (l : Addr) (items : Array Value) (n : Nat) (dd : Option Addr) (sl : Array (Option Value)) (u : Tok) :
    Meets (Builtin.«tuple.__mul__» ⟨[.ref l, .int 1 u], []⟩) (fun _ R s => s.heap.get? l = some { cls := .type "tuple", dict := dd, data := .seq items n, slots := sl } ∧ R (.ok (.ret (Value.ref l))) s) :=
  .of_wp fun prog w A R s h => by
    obtain ⟨hp, g, d, tk, os⟩ := s
    obtain ⟨hl, h⟩ := h
    have f1 := AutoSeq1.idx_int
    have c1 : (items.isEmpty || (1 : Int) == 1) = true := by rw [Bool.or_eq_true]; exact .inr rfl
    have c0 : (decide ((1 : Int) < -(2 ^ 63)) || decide ((1 : Int) ≥ 2 ^ 63)) = false := by decide
    wp_walk using wpAny_loadPart' hl
    repeat (first
      | (refine wpAny_ite_false (decide_eq_false (by rw [c0]; exact Bool.false_ne_true)) ?_; wp_walk using wpAny_loadPart' hl)
      | (refine wpAny_ite_true (decide_eq_true c1) ?_; wp_walk using wpAny_loadPart' hl))
    exact ⟨_, rfl, h⟩
def rRep1 (K : PySem.W.Frag) : R2 := fun x y H Q => ∃ l xs, x = .ref l ∧ y = .int 1 ∧ SqT K H l xs ∧ Q (.ref l) H
theorem op_rep1 {X : Cx} : OpR X (binaryOp .Mult) (rRep1 X.K) := by
  intro pins s σ H x y v u Q I rx ry h
  obtain ⟨l, xs, rfl, rfl, hT, q⟩ := h
  cases rx
  obtain ⟨t, rfl⟩ := ry
  obtain ⟨its, r, ⟨⟨cls, dd, data, sl⟩, ho, hc, n, hd⟩, hs⟩ := I.tuple hT
  simp only at hc hd
  subst hc hd
  refine wpAny_binaryOp_repeat_ref (T := "tuple") (U := "int") (by decide) ⟨_, ho, rfl⟩ (fun s' => typeIs_int s' 1 t) noFill_tuple_mul F.fills_int_mul F.slot_int_rmul repeat_tuple F.slot_int_index.lookup
    (call_meets F.slot_int_rmul (typeIs_int s 1 t) F.entry_int_rmul (F.args_int_rmul_2 _ _) (int_rmul_tuple 1 t l its.toArray n dd sl)
      ⟨ho, rfl, ⟨_, ho, rfl⟩, call_meets F.slot_tuple_mul ⟨_, ho, rfl⟩ F.entry_tuple_mul (F.args_tuple_mul_2 _ _) (tuple_mul1 l its.toArray n dd sl t) ⟨ho, ?_⟩⟩)
  exact ⟨.ref l, H, I, rfl, q⟩
def uMulT (K : PySem.W.Frag) : R2 := fun x y H Q => rRep1 K x y H Q ∨ rRepT K x y H Q
theorem o_mulT (K : PySem.W.Frag) {X : Cx} (hK : X.K = K := by rfl) : OpR X (binaryOp .Mult) (uMulT K) := hK ▸ OpR.or op_rep1 op_repT
theorem flat_one {α : Type} (n : Nat) (x : α) : (List.replicate n [x]).flatten = List.replicate n x := by
  induction n with
  | zero => rfl
  | succ n ih => rw [List.replicate_succ, List.flatten_cons, ih]; rfl
theorem r_mulT1 {K : PySem.W.Frag} {H : Hp} {Q : VK} {l : Addr} {v : V} {k : Int} (h : H l = some (.tup [v])) (h1 : 1 ≤ k) (h2 : k ≤ 1000)
    (q : ∀ (p : Addr) (H' : Hp), Same H H' → H' p = some (.tup (List.replicate k.toNat v)) → Q (.ref p) H') : uMulT K (.ref l) (.int k) H Q := by
  by_cases e : k = 1
  · subst e
    exact .inl ⟨l, _, rfl, rfl, SqT.of h, q l H (fun _ _ z => z) h⟩
  · refine .inr ⟨l, k, _, rfl, rfl, SqT.of h, by simp, by omega, h2, by simp, fun p hp => q p _ (same_new hp) ?_⟩
    rw [upd_same, flat_one]
/-! ### what stays -/
/-- all tuples stay -/
def Tk (H H' : Hp) : Prop := ∀ q xs, H q = some (.tup xs) → H' q = some (.tup xs)
section
variable {H0 H H' H1 H2 : Hp} {p b a : Addr} {o : HO}
theorem Tk.refl : Tk H H := fun _ _ h => h
theorem Tk.trans (h : Tk H H1) (g : Tk H1 H2) : Tk H H2 := fun q xs e => g q xs (h q xs e)
theorem Same.refl : Same H H := fun _ _ h => h
theorem Same.at (s : Same H H1) (h : H p = some o) : H1 p = some o := s p o h
theorem Same.tk (h : Same H H') : Tk H H' := fun q xs e => h q _ e
theorem Bx.tk (h : Bx b H H') (hb : BoxAt H b) : Tk H H' := fun q xs e => h.keep q _ (hb.ne e fun _ _ _ z => nomatch z) e
theorem Tk.new (h : Tk H0 H) (hp : H p = none) : Tk H0 (upd H p o) := fun q xs e => at_upd (ne_of_none (h q xs e) hp) (h q xs e)
theorem Tk.newF (h : Tk H0 H) (hp : H0 p = none) : Tk H0 (upd H p o) := fun q xs e => at_upd (ne_of_none e hp) (h q xs e)
theorem Tk.setL {xs : List V} (h : Tk H0 H) (hp : H p = some (.lst xs)) : Tk H0 (upd H p o) := fun q ys e => by
  have g := h q ys e
  refine at_upd (fun z => ?_) g
  subst z
  rw [hp] at g
  exact nomatch Option.some.inj g
theorem Tk.setI {C dx : Addr} {fs : List (Str × V)} (h : Tk H0 H) (hp : H p = some (.ins C dx fs)) : Tk H0 (upd H p o) := fun q ys e => by
  have g := h q ys e
  refine at_upd (fun z => ?_) g
  subst z
  rw [hp] at g
  exact nomatch Option.some.inj g
theorem Same.updF (s : Same H0 H) (h : H0 p = none) : Same H0 (upd H p o) := fun q u e => at_upd (ne_of_none e h) (s q u e)
theorem Same.new (s : Same H0 H) (h : H p = none) : Same H0 (upd H p o) := fun q u e => at_upd (ne_of_none (s q u e) h) (s q u e)
theorem Same.bx (s : Same H0 H) (hx : Bx b H H') (h : H0 b = none) : Same H0 H' := fun q u e => hx.keep q u (ne_of_none e h) (s q u e)
theorem Same.free (s : Same H0 H) (h : H p = none) : H0 p = none := by
  cases e : H0 p with
  | none => rfl
  | some u => rw [s p u e] at h; cases h
theorem BoxAt.same (h : BoxAt H b) (s : Same H H') : BoxAt H' b := let ⟨x, y, z, q⟩ := h; ⟨x, y, z, s _ _ q⟩
theorem BoxAt.at (h : BoxAt H b) (n : b ≠ p) : BoxAt (L2.upd H p o) b := let ⟨x, y, z, q⟩ := h; ⟨x, y, z, at_upd n q⟩
/-- all stays but x -/
def Kx (x : Addr) (H H' : Hp) : Prop := ∀ q o, q ≠ x → H q = some o → H' q = some o
theorem Kx.at (k : Kx a H H') (n : p ≠ a) (h : H p = some o) : H' p = some o := k p o n h
theorem Kx.refl : Kx a H H := fun _ _ _ h => h
theorem Kx.trans (h : Kx a H H1) (g : Kx a H1 H2) : Kx a H H2 := fun q o n e => g q o n (h q o n e)
theorem Kx.set (h : Kx a H H1) : Kx a H (upd H1 a o) := fun q u n e => at_upd n (h q u n e)
theorem Kx.new (h : Kx a H H1) (hp : H p = none) : Kx a H (upd H1 p o) := fun q u n e => at_upd (ne_of_none e hp) (h q u n e)
theorem Kx.same (h : Kx a H H1) (s : Same H1 H2) : Kx a H H2 := fun q u n e => s q u (h q u n e)
theorem Same.kx (s : Same H0 H) (k : Kx a H H') (h : H0 a = none) : Same H0 H' := fun q u e => k q u (ne_of_none e h) (s q u e)
theorem Kx.tk {C dx : Addr} {fs : List (Str × V)} (k : Kx a H H') (hp : H a = some (.ins C dx fs)) : Tk H H' := fun q ys e => k q _ (fun z => by
  subst z
  rw [hp] at e
  exact nomatch Option.some.inj e) e
theorem BoxAt.fresh (h : BoxAt H b) (hp : H p = none) : b ≠ p := fun e => by
  obtain ⟨x, y, z, q⟩ := h
  rw [e, hp] at q
  exact nomatch q
/-- a pick of a list that was just written -/
theorem r_pickN {K : PySem.W.Frag} {Q : VK} {E : XK} {xs : List V} (h : BoxAt H b) (hp : H p = none) (h1 : 1 ≤ xs.length) (h2 : xs.length < 1000000) (k : ∀ (v : V) (H' : Hp), v ∈ xs → Bx b H H' → Q v H') :
    spPick K [.ref b, .ref p] (upd H p (.lst xs)) Q E :=
  ⟨b, p, xs, rfl, h.upd hp, .inl (SqL.of upd_same), Ne.symm (h.fresh hp), h1, h2, fun v H' hv hx => k v H' hv (((Bx.refl h).upd hp).trans hx)⟩
theorem r_pickT {K : PySem.W.Frag} {Q : VK} {E : XK} {xs : List V} (h : BoxAt H b) (hp : H p = none) (h1 : 1 ≤ xs.length) (h2 : xs.length < 1000000) (k : ∀ (v : V) (H' : Hp), v ∈ xs → Bx b H H' → Q v H') :
    spPick K [.ref b, .ref p] (upd H p (.tup xs)) Q E :=
  ⟨b, p, xs, rfl, h.upd hp, .inr (SqT.of upd_same), Ne.symm (h.fresh hp), h1, h2, fun v H' hv hx => k v H' hv (((Bx.refl h).upd hp).trans hx)⟩
theorem r_take {Q : VK} {E : XK} {m : Int} (h : BoxAt H b) (h1 : 1 ≤ m) (h2 : m < 100000000000000000000) (k : ∀ (d : Int) (H' : Hp), 0 ≤ d → d < m → Bx b H H' → Q (.int d) H') : spTake [.ref b, .int m] H Q E := ⟨b, m, rfl, h, h1, h2, k⟩
theorem ne_kind {u : HO} (h : H p = some o) (g : H a = some u) (n : o ≠ u) : p ≠ a := fun e => by
  subst e
  rw [h] at g
  exact n (Option.some.inj g)
theorem Same.seqL {K : PySem.W.Frag} {l : Addr} {xs : List V} (s : Same H H') (q : SqL K H l xs) : SqL K H' l xs := by
  rcases q with (q | ⟨u, q⟩) | q
  · exact .inl (.inl (s _ _ q))
  · exact .inl (.inr ⟨u, s _ _ q⟩)
  · exact .inr q
end
end Hg
end L2
end

section
set_option Elab.async false
set_option linter.all false
set_option maxRecDepth 100000
set_option maxHeartbeats 4000000
/-! The end of a law's row from a promise that is asked where no guard is set. -/
namespace L2
namespace Hg
open PySem PySem.Spec PyProof.Rows

theorem kit_sub {K : PySem.W.Frag} {C D : Addr} {b : Bool} (hd : PySem.W.hasDictIn K C = true) (ht : PySem.W.typeIn K (.ref C) = some (.type "type")) (h : PySem.W.subIn K (.ref D) (.ref C) = some b) (self : PySem.W.subIn K (.ref D) (.ref D) = some true) : PySem.W.kitOne K (.ref D) (.ref C) = some b := by
  obtain ⟨cd, hc, _⟩ := PySem.W.any_some hd
  have e2 : ((PySem.W.clsIn K C).isSome && PySem.W.typeIn K (.ref C) == some (.type "type")) = true := by rw [hc, ht] <;> rfl
  by_cases e : D = C
  · subst e
    rw [self] at h
    cases h
    show (if ((Value.ref D == Value.ref D) = true) then some true else _) = some true
    rw [if_pos (beq_self_eq_true _)]
  · show (if ((Value.ref D == Value.ref C) = true) then some true else (if ((PySem.W.clsIn K C).isSome && PySem.W.typeIn K (.ref C) == some (.type "type")) = true then PySem.W.subIn K (.ref D) (.ref C) else none)) = some b
    rw [if_neg (fun z => e (by have := beq_iff_eq.mp z; cases this; rfl)), if_pos e2]
    exact h

theorem law_callG {P : Program} {w : World} {K : PySem.W.Frag} {mg mb : Str → Option Value} {k : Nat} {fa a : Addr} {nm x : Str} {sp : Sp} {s₁ : Shared} {vs : List Value} {ns : List Int}
    (KX : K.In s₁.heap) (hns : s₁.heap.Ns mainGlobals mg) (hb : s₁.heap.Ns builtinsNs mb) (hbb : ∀ x : Str, x ≠ "__name__" → mb x = bootBuiltins x) (hlim : s₁.heap.NoLimit) (hg : s₁.gens = #[])
    (ha : s₁.heap.get? a = some { cls := .type "list", data := .seq vs.toArray }) (hi : IntsAre vs ns) (hl : ns.length ≤ sizeLine) (hr : Room k callerA)
    (hmg : mg nm = some (.ref fa)) (F : ∀ base : Heap, K.In base → base.Ns mainGlobals mg → DefG P w K mg base CX0 k nm [x] sp)
    (hsp : ∀ H : Hp, SqL K H a (ns.map V.int) → sp [.ref a] H (fun v _ => v = .bl true) fun _ _ _ => False) :
    codeAny (model P w) callerA (.call (.ref fa) ⟨[.ref a], []⟩) (fun r s' => r = .ok (.ret (.bool true)) ∧ OldK s₁.heap s'.heap ∧ s'.os = s₁.os ∧ AllBare s'.gens) s₁ := by
  have rv := vals_ints hi
  have lenV := hi.length
  have core : ∀ H : Hp, Only H → SqL K H a (ns.map V.int) → HOk P w H s₁.heap → (∀ b, H b ≠ none → b = a) → (H a ≠ none → K.lookup a = none) →
      codeAny (model P w) callerA (.call (.ref fa) ⟨[.ref a], []⟩) (fun r s' => r = .ok (.ret (.bool true)) ∧ OldK s₁.heap s'.heap ∧ s'.os = s₁.os ∧ AllBare s'.gens) s₁ := by
    intro H hO hS hok hA hK
    have only : ∀ {b : Addr}, H b ≠ none → b = a := fun {b} n => hA b n
    have hidK : ∀ {b : Addr} {o : Obj}, s₁.heap.get? b = some o → H b = none → (hidT s₁.heap H).get? b = some o := fun z n => hidT_get z n
    have noDict : ∀ {b : Addr} {o : Obj} {es : Array DictEntry} {ep : Nat}, s₁.heap.get? b = some o → o.data = .dict es ep → H b = none := by
      intro b o es ep z d
      cases q : H b with
      | none => rfl
      | some u =>
        obtain rfl : b = a := only (by rw [q]; simp)
        rw [ha] at z
        cases z
        cases (show Data.seq vs.toArray _ = Data.dict es ep from d)
    have nsK : ∀ {b : Addr} {m : Str → Option Value}, s₁.heap.Ns b m → (hidT s₁.heap H).Ns b m := by
      rintro b m ⟨o, es, ep, z, d, r⟩
      exact ⟨o, es, ep, hidK z (noDict z d), d, r⟩
    have hKb : K.In (hidT s₁.heap H) := by
      intro b o z
      refine hidK (KX b o z) ?_
      cases q : H b with
      | none => rfl
      | some u =>
        obtain rfl : b = a := only (by rw [q]; simp)
        rw [hK (by rw [q]; simp)] at z
        cases z
    have hM : Mod K mg (hidT s₁.heap H) := by
      obtain ⟨mc, h1, h2⟩ := hlim
      exact ⟨hKb, nsK hns, ⟨mb, nsK hb, hbb⟩, ⟨mc, nsK h1, h2⟩⟩
    have e0 : Env0 P w K mg (hidT s₁.heap H) callerA [] s₁ H := by
      refine ⟨rfl, hM, fun b o z => of_hidT z, Nat.le_of_eq (hidT_size _ _), trivial, fun b hb => ?_, hok, .of_eq hg⟩
      cases (show b ∈ ([] : List Addr) from hb)
    obtain ⟨f, fd, hm, _, FG, hbind⟩ := F _ hKb (nsK hns)
    rw [hmg] at hm
    cases hm
    have main := FG.run callerA [] s₁ H ⟨[.ref a], []⟩ [.ref a] [.ref a] _ _ rfl hr e0 (hbind s₁ [.ref a] KX rfl) (.cons rfl .nil) (hsp H hS)
    refine codeAny_mono main fun r s' h => ?_
    cases r with
    | error e => exact False.elim h
    | ok fl =>
      cases fl with
      | next => exact False.elim h
      | brk => exact False.elim h
      | cont => exact False.elim h
      | ret u =>
        obtain ⟨v, H', os, bare, un, hok', r', q⟩ := h
        obtain rfl : v = .bl true := q
        obtain rfl : u = Value.bool true := r'
        refine ⟨rfl, OldK.of_keep fun b o z => ?_, os, bare⟩
        cases q : H b with
        | none => exact un.keep b o z q (fun y => by cases (show b ∈ ([] : List Addr) from y)) (by simp)
        | some u =>
          rcases hO b with y | ⟨ob, xs, y⟩
          · rw [q] at y; cases y
          · obtain ⟨e1, _⟩ := hok b _ y
            obtain ⟨e2, _⟩ := hok' b _ (un.frzs b ob _ y)
            rw [z] at e1
            cases e1
            exact e2
  cases hk : K.lookup a with
  | some o =>
    have z := KX a o hk
    rw [ha] at z
    cases z
    refine core (fun _ => none) (fun _ => .inl rfl) (.inr ⟨_, vs.toArray, _, hk, rfl, rfl, rfl, ?_, by simpa using rv⟩) (fun b u y => ?_) (fun b y => absurd rfl y) fun y => absurd rfl y
    · rw [List.size_toArray, lenV]; exact hl
    · cases (show (none : Option HO) = some u from y)
  | none =>
    let ob : Obj := { cls := .type "list", data := .seq vs.toArray }
    refine core (fun b => if b = a then some (.frz ob (.lst (ns.map V.int))) else none) (fun b => ?_) (.inl (.inr ⟨ob, if_pos rfl⟩)) (fun b u y => ?_) (fun b y => ?_) fun _ => hk
    · by_cases e : b = a
      · exact .inr ⟨_, _, if_pos e⟩
      · exact .inl (if_neg e)
    · by_cases e : b = a
      · have y' := (if_pos e).symm.trans y
        cases y'
        subst e
        exact ⟨ha, by rw [List.length_map]; exact hl, vs, _, rv, ha⟩
      · have y' := (if_neg e).symm.trans y
        cases y'
    · by_cases e : b = a
      · exact e
      · exact absurd (if_neg e) y

theorem walk_ofG {l : PySem.W.OpenLaw} {n k : Nat} {q : Program} {loose : List Str} {XP : (Str → Option Value) → Heap → Prop} {YP : World → Heap → Prop} {d : DefRec} {K : Params → PySem.W.Frag} {sp : PySem.W.Frag → Sp} {x : Str}
    (hn : l.most = some n) (hn2 : n ≤ sizeLine) (hdf : d.params.defaults = []) (hr : Room k callerA)
    (hY : ∀ (w : World) (h : Heap), YP w h → (K w.params).In h)
    (F : ∀ (w : World) (mg : Str → Option Value) (h : Heap), (K w.params).In h → h.Ns mainGlobals mg →
      ∀ base : Heap, (K w.params).In base → base.Ns mainGlobals mg → DefG l.prog w (K w.params) mg base CX0 k d.name [x] (sp (K w.params)))
    (hsp : ∀ (K : PySem.W.Frag) (H : Hp) (a : Addr) (ns : List Int), ns.length ≤ n → SqL K H a (ns.map V.int) → sp K [.ref a] H (fun v _ => v = .bl true) fun _ _ _ => False) :
    PySem.W.WalkO q loose XP YP l.row.toRowW d [] (fun f vs => PySem.call f vs) := by
  refine Att.attach_call hn hdf fun w s₀ s₁ mg mb fa o pm cd doc a vs ns G Y ho hd hcd hmg hobj hints hlen hg => ?_
  exact law_callG (hY w _ Y) G.T.g G.T.b G.T.builtins G.T.nolimit hg hobj hints (Nat.le_trans hlen hn2) hr hmg (F w mg _ (hY w _ Y) G.T.g) fun H hS => hsp (K w.params) H a ns hlen hS
end Hg
end L2
end

section
set_option Elab.async false
set_option linter.all false
set_option maxRecDepth 100000
set_option maxHeartbeats 4000000
/-! Iterables that are a list or a tuple; attributes as targets; dicts: comprehensions, keys, members. -/
namespace L2
namespace Hg
open PySem PySem.Spec PyProof.Rows
def uAt (K : PySem.W.Frag) (x : V) (H1 : Hp) (R : It → Hp → Prop) : Prop := ∃ a, x = .ref a ∧ (((∃ xs, SqL K H1 a xs) ∧ R (Itl K a) H1) ∨ ((∃ xs, SqT K H1 a xs) ∧ R (Itt K a) H1))
/-- a list or a tuple -/
def uIter (K : PySem.W.Frag) (te : TE) : TI := fun σ H R => te σ H fun x H1 => uAt K x H1 R
section
variable {X : Cx} {tg l o : Expr} {tl ta : TE} {f : Str} {pos : Pos}
theorem pi_u (K : PySem.W.Frag) (hl : PE X l tl) (hK : X.K = K := by rfl) : PI X tg l (uIter K tl) := by
  subst hK
  refine ⟨fun pins s σ H R I h => ?_⟩
  refine thn (hl.run pins s σ H _ I h) fun v s1 ⟨x, H1, I1, r1, q1⟩ => ?_
  obtain ⟨a, e, q1⟩ := q1
  subst e
  cases r1
  rcases q1 with ⟨⟨xs, hq⟩, q⟩ | ⟨⟨xs, hq⟩, q⟩
  · obtain ⟨its, rv, p, hz⟩ := I1.list hq
    refine wpAny_pyIter_list p.isList ?_
    refine ⟨s1.heap.objs.size, [s1.heap.objs.size], _, _, H1, rfl, I1.kept (t' := s1.toks) fun b o e => Heap.get?_push_of_some _ e, turn_list a _, ⟨_, Heap.get?_push_size _ rfl, rfl, rfl⟩, fun b hb => ?_, q⟩
    have e : b = s1.heap.objs.size := by simpa using hb
    subst e
    exact I1.fpOk (Nat.le_refl _) (I1.hok.fresh (Nat.le_refl _))
  · obtain ⟨its, rv, p, hz⟩ := I1.tuple hq
    refine wpAny_pyIter_tuple (show s1.heap.IsTuple a its.toArray from p) ?_
    refine ⟨s1.heap.objs.size, [s1.heap.objs.size], _, _, H1, rfl, I1.kept (t' := s1.toks) fun b o e => Heap.get?_push_of_some _ e, turn_tuple a _, ⟨_, Heap.get?_push_size _ rfl, rfl, rfl⟩, fun b hb => ?_, q⟩
    have e : b = s1.heap.objs.size := by simpa using hb
    subst e
    exact I1.fpOk (Nat.le_refl _) (I1.hok.fresh (Nat.le_refl _))
theorem r_iU {K : PySem.W.Frag} {te : TE} {σ : St} {H : Hp} {R : It → Hp → Prop} (k : te σ H fun x H1 => uAt K x H1 R) : uIter K te σ H R := k
/-- the walk over a list or a tuple, told alike -/
theorem r_walk {K : PySem.W.Frag} {H : Hp} {R : It → Hp → Prop} {p : Addr} {xs : List V} (h : SqL K H p xs ∨ SqT K H p xs)
    (k : ∀ (J : It) (G : Hp → Prop), Walk J xs.length G (YAt xs) → G H → (∀ H' H'', Same H' H'' → G H' → G H'') → R J H) :
    uAt K (.ref p) H R := by
  refine ⟨p, rfl, ?_⟩
  rcases h with h | h
  · exact .inl ⟨⟨xs, h⟩, k _ _ walk_list h fun H' H'' s g => Same.seqL s g⟩
  · exact .inr ⟨⟨xs, h⟩, k _ _ walk_tup h fun H' H'' s g => sameT s g⟩
/-! ### o.f as a target -/
def gFld (K : PySem.W.Frag) (ta : TE) (f : Str) : TG := fun v σ H QS => ta σ H fun x H2 => ∃ a C dx fs, x = .ref a ∧ H2 a = some (.ins C dx fs) ∧ Cls K C ∧ NoAttr K C f ∧ fs.length < 1000 ∧ QS σ (upd H2 a (.ins C dx (putF f v fs)))
theorem pg_fld (K : PySem.W.Frag) (ho : PE X o ta) (hK : X.K = K := by rfl) : PG X (.Attribute o f pos) (gFld K ta f) := by
  subst hK
  refine ⟨fun pins s σ H v u Q I r h => ?_⟩
  rw [assign_Attribute]
  refine wpAny_bind (wpAny_holding (thn (ho.run pins s σ H _ I h) fun ov s1 ⟨x, H2, I2, rx, a, C, dx, fs, ex, ea, c, n, l, q2⟩ => ?_))
  subst ex
  obtain rfl : ov = Value.ref a := rx
  refine wpAny_bind (wpAny_standAt (wpAny_bind (wpAny_holding (setattr_ok I2 ea c n l r fun s3 I3 => ?_))))
  exact wpAny_release ⟨σ, _, I3, q2⟩
theorem r_gFld {K : PySem.W.Frag} {v : V} {σ : St} {H : Hp} {QS : St → Hp → Prop} (k : ta σ H fun x H2 => ∃ a C dx fs, x = .ref a ∧ H2 a = some (.ins C dx fs) ∧ Cls K C ∧ NoAttr K C f ∧ fs.length < 1000 ∧ QS σ (upd H2 a (.ins C dx (putF f v fs)))) : gFld K ta f v σ H QS := k
theorem r_putG {K : PySem.W.Frag} {C a dx : Addr} {H : Hp} {fs : List (Str × V)} {R : Addr → Addr → Addr → List (Str × V) → Prop} (h : H a = some (.ins C dx fs)) (c : Cls K C) (n : NoAttr K C f) (z : fs.length < 1000) (k : R a C dx fs) :
    ∃ a' C' dx' fs', V.ref a = .ref a' ∧ H a' = some (.ins C' dx' fs') ∧ Cls K C' ∧ NoAttr K C' f ∧ fs'.length < 1000 ∧ R a' C' dx' fs' := ⟨a, C, dx, fs, rfl, h, c, n, z, k⟩
end
/-! ### dicts -/
section
variable {σ : St} {H : Hp} {Q : VK} {QB : Bool → Hp → Prop} {td ty : TE}
theorem r_lockE {t : TE} {d : Addr} {kvs : List (Key × V)} (h : H d = some (.dK kvs)) (k : ∀ od, t σ (upd H d (.frz od (.dK kvs))) fun v H' => H' d = some (.frz od (.dK kvs)) ∧ Q v (upd H' d (.dK kvs))) : tLockE t σ H Q := ⟨d, _, h, trivial, k⟩
theorem r_keys {R : It → Hp → Prop} (k : td σ H fun x H1 => ∃ d o, x = .ref d ∧ ((∃ kvs, H1 d = some (.frz o (.dK kvs)) ∧ R (Itk d o kvs) H1) ∨ ∃ kvs, H1 d = some (.frz o (.dT kvs)) ∧ R (Itkt d o kvs) H1)) : iKeys td σ H R := k
theorem r_din (k : ty σ H fun y H1 => td σ H1 fun x H2 => ∃ a o, x = .ref a ∧ DGet H2 a y o ∧ Q (.bl o.isSome) H2) : tDIn ty td σ H Q := k
theorem r_dinG {p : Addr} {kvs : List (Key × V)} {k : Key} {R : Option V → Prop} (h : H p = some (.dK kvs)) (q : R (valV kvs k)) : ∃ a o, V.ref p = .ref a ∧ DGet H a (kV k) o ∧ R o := ⟨p, _, rfl, DGet.k h, q⟩
theorem r_dc {wi : TI} {g : TG} {tt : TT} {tk tv : TE} {vs : List Nat} (k : wi σ H fun J H1 => ∀ D, H1 D = none → ∃ W : Nat → Nat → Hp → Prop, (∃ m, W 0 m (upd H1 D (.dK []))) ∧ ∀ i m H, W i m H →
  (J.stop i H ∧ Q (.ref D) H) ∨ (J.go i H ∧ ∃ Nx : Hp → Prop, (∀ H', Nx H' → ∃ m', m' < m ∧ W (i + 1) m' H') ∧ ∀ x H', J.yld i H x H' → g x (wipe σ vs) H' fun σ2 H2 => wipe σ2 vs = wipe σ vs ∧ tt σ2 H2 fun b H3 =>
    if b = true then tk σ2 H3 fun y H4 => tv σ2 H4 fun z H5 => ∃ kvs k, y = kV k ∧ H5 D = some (.dK kvs) ∧ kvs.length < sizeLine ∧ Nx (upd H5 D (.dK (putK kvs k z))) else Nx H3)) : tDc wi g tt tk tv vs σ H Q := k
/-- a dict comprehension over any walk -/
theorem dc_it {J : It} {n : Nat} {G : Hp → Prop} {Y : Nat → Hp → V → Hp → Prop} (w : Walk J n G Y) {g : TG} {tt : TT} {tk tv : TE} {vs : List Nat} {H1 : Hp} {D : Addr} {Qd : Hp → Prop} (Pv : Nat → Hp → Prop) (h0 : Pv 0 (upd H1 D (.dK []))) (hG : ∀ i H, i ≤ n → Pv i H → G H)
    (hs : ∀ i x H H', i < n → Pv i H → Y i H x H' → g x (wipe σ vs) H' fun σ2 H2 => wipe σ2 vs = wipe σ vs ∧ tt σ2 H2 fun b H3 =>
      if b = true then tk σ2 H3 fun y H4 => tv σ2 H4 fun z H5 => ∃ kvs k, y = kV k ∧ H5 D = some (.dK kvs) ∧ kvs.length < sizeLine ∧ Pv (i + 1) (upd H5 D (.dK (putK kvs k z))) else Pv (i + 1) H3) (hd : ∀ H, Pv n H → Qd H) :
    ∃ W : Nat → Nat → Hp → Prop, (∃ m, W 0 m (upd H1 D (.dK []))) ∧ ∀ i m H, W i m H →
      (J.stop i H ∧ Qd H) ∨ (J.go i H ∧ ∃ Nx : Hp → Prop, (∀ H', Nx H' → ∃ m', m' < m ∧ W (i + 1) m' H') ∧ ∀ x H', J.yld i H x H' → g x (wipe σ vs) H' fun σ2 H2 => wipe σ2 vs = wipe σ vs ∧ tt σ2 H2 fun b H3 =>
        if b = true then tk σ2 H3 fun y H4 => tv σ2 H4 fun z H5 => ∃ kvs k, y = kV k ∧ H5 D = some (.dK kvs) ∧ kvs.length < sizeLine ∧ Nx (upd H5 D (.dK (putK kvs k z))) else Nx H3) := by
  refine ⟨fun i m H => m = n - i ∧ i ≤ n ∧ Pv i H, ⟨n, by simp, Nat.zero_le _, h0⟩, ?_⟩
  rintro i m H ⟨rfl, hi, p⟩
  have q := hG i H hi p
  by_cases hlt : i < n
  · refine .inr ⟨w.goes i H hlt q, Pv (i + 1), fun H' p' => ⟨n - (i + 1), by omega, rfl, hlt, p'⟩, fun x H' y => hs i x H H' hlt p (w.yields i H x H' hlt q y)⟩
  · have e : i = n := by omega
    subst e
    exact .inl ⟨w.stops H q, hd H p⟩
end
theorem r_xf {a C : Addr} {cls : Value} {d : Option Addr} {f : Str} {te : TE} {σ : St} {H : Hp} {Q : VK} (k : te σ H fun x H1 => x = .ref a ∧ cls = .ref C ∧ ∃ (dd : Addr) (fs : List (Str × V)) (v : V), d = some dd ∧ H1 dd = some (.xd fs) ∧ fs.lookup f = some v ∧ Q v H1) : tXf a cls d C f te σ H Q := k
theorem r_bm {K : PySem.W.Frag} {T : String} {r : V → List V → Hp → VK → Prop} {to : TE} {t : TA} {σ : St} {H : Hp} {Q : VK} (k : to σ H fun x H1 => tyV K T x H1 ∧ t σ H1 fun xs H2 => r x xs H2 Q) : tBM K T r to t σ H Q := k
theorem r_append {l : Addr} {xs : List V} {y : V} {H : Hp} {Q : VK} (h : H l = some (.lst xs)) (z : xs.length < sizeLine) (k : Q .non (upd H l (.lst (xs ++ [y])))) : rAppend (.ref l) [y] H Q := ⟨l, xs, y, rfl, rfl, h, z, k⟩
/-! ### a name that is a dict comprehension -/
section
variable {X : Cx}
theorem ps_setDc {i : Nat} {y : Str} {py : Pos} {kx vx tg iter : Expr} {ifs : List Expr} {scope : Scope} {own : List (Str × Nat)} {pos spos : Pos} {wi : TI} {g : TG} {tt : TT} {tk tv : TE} (hc : X.calm = true) (hN : X.N.Nodup) (hy : X.N[i]? = some y) (hyl : X.env.scope.names.lookup y = some .local)
    (hsw : swapsWith (.DictComp kx vx [⟨tg, iter, ifs, 0⟩] scope pos) (some (.Name y py)) spos.line X.env = pure true) (hi : PI X tg iter wi) (ok : BlkOk X.N X.env.scope scope own)
    (hg : ∀ (s : Shared) (H : Hp) (C : Addr) (cl : List (Str × Addr)) (fp : List Addr), PG (X.blk s H scope (compEnvC scope cl C X.env) fp) tg g) (ht : ∀ (s : Shared) (H : Hp) (C : Addr) (cl : List (Str × Addr)) (fp : List Addr), PTs (X.blk s H scope (compEnvC scope cl C X.env) fp) ifs tt)
    (hk : ∀ (s : Shared) (H : Hp) (C : Addr) (cl : List (Str × Addr)) (fp : List Addr), PE (X.blk s H scope (compEnvC scope cl C X.env) fp) kx tk)
    (he : ∀ (s : Shared) (H : Hp) (C : Addr) (cl : List (Str × Addr)) (fp : List Addr), PE (X.blk s H scope (compEnvC scope cl C X.env) fp) vx tv) (hs : ∀ x, foldedSetIterable iter X.env x = pure x := by intro _; rfl) :
    PS X (.Assign [.Name y py] (.DictComp kx vx [⟨tg, iter, ifs, 0⟩] scope pos) spos) (tAsg (tDc wi g tt tk tv (own.map (·.2))) (gName i)) := by
  refine ⟨fun pins s σ H D I h => ?_⟩
  rw [exec_Assign_Name_used _ _ _ _ hsw]
  refine wpAny_bind (wpAny_standAt (wpAny_bind ?_))
  show wpAny _ X.A (do let _ ← comprehension (.DictComp kx vx [⟨tg, iter, ifs, 0⟩] scope pos) scope X.env (firstIterPos [⟨tg, iter, ifs, 0⟩] pos) newDict false (eval iter X.env) (some (assign (.Name y py) X.env))) _ _ s
  have h : tDc wi g tt tk tv (own.map (·.2)) σ H (fun x H1 => gName i x σ H1 D.nx) := h
  refine wpAny_bind (thn (dc_core (Qf := fun _ s' => SP X pins D .next s') hc hN I hi ok hg ht hk he hs h fun L C s' m H' I' q hn f => ?_) fun _ s' hq => wpAny_pure (wpAny_pure hq))
  show wpAny _ _ (assign (.Name y py) X.env (.ref L)) _ _ _
  refine wpAny_assign_Name (store_ok2 (v := V.ref L) I' hN hy (.inl hyl) rfl (fun s2 I2 ⟨a, sb, ha⟩ => ?_) (.inr hyl))
  obtain ⟨f0, f1, f2, f3, f4, f5⟩ := f
  have haC : C ≠ a := by
    rcases ha with z | z
    · rw [z]; exact f1
    · exact fun e => f4 y a z e.symm
  refine ⟨m, hn.sameBut sb haC, fun h3 sb3 => ?_⟩
  exact ⟨_, H', I2.turned (t' := s2.toks) (fun b o hb e => (sb3.2 b hb).trans e) f0 f1 f3 f4 f5, q⟩
theorem sw_trueD {k v : Expr} {gs : List Comprehension} {scope : Scope} {pos py : Pos} {y : Str} {l : Nat} {env : Env} (hk : env.scope.kind = .function) (hy : env.scope.names.lookup y = some .local) (hl : (py.line == pos.line) = true)
    (ha : (scope.names.any fun (n, k) => n == y && (k == .local || k == .cell)) = false) : swapsWith (.DictComp k v gs scope pos) (some (.Name y py)) l env = pure true := by
  have ky : env.kindOf y = some .local := hy
  have hb : env.blockKind = .function := by unfold Env.blockKind; rw [hk]; rfl
  unfold swapsWith
  simp only [hb, ky, ha, Expr.pos, hl]
  rfl
end
end Hg
end L2
end

section
set_option Elab.async false
set_option linter.all false
set_option maxRecDepth 100000
set_option maxHeartbeats 4000000
/-! Operators of own classes: a op b, -a, x in a, a == b, a[i], a as a test. -/
namespace L2
namespace Hg
open PySem PySem.Spec PyProof.Rows
section
variable {X : Cx} {CX : CXT} {k : Nat} {C : Addr} {ps : List Str} {sp : Sp} {E : XK}
/-- the method runs at an instance and what stands behind it -/
theorem own_call {f : Addr} {fd : FuncData} {pins : List (Addr × Obj)} {σ : St} {H : Hp} {s : Shared} {Q : VK} {us : List Value} {vs : List V} (F : FnOk X.prog X.w X.K X.mg X.base CX k f fd ps sp) (hb : Binds X.K fd ps []) (hr : Room k X.A) (hx : Passes CX X E)
    (I : Inv X pins σ H s) (r : Vals vs us) (h : sp vs H Q E) : wpAny (model X.prog X.w) X.A (call (.ref f) us) (EP X pins σ Q) X.xe s := by
  have h' : sp (vs ++ []) H Q E := by rw [List.append_nil]; exact h
  exact run_fn F hr hb .nil hx I r h'
theorem relV_back {v : V} {u : Value} {s : Shared} {Q : Value → Shared → Prop} (r : RelV v u) (q : Q u s) : PySem.W.CmpBack Q u s := by
  cases v with
  | non => cases r; exact q
  | bl b => cases r; exact q
  | int i => obtain ⟨t, rfl⟩ := r; exact q
  | str x => obtain ⟨t, rfl⟩ := r; exact q
  | ref a => cases r; exact q
  | byt b => obtain ⟨t, rfl⟩ := r; exact q
  | flt b => obtain ⟨t, rfl⟩ := r; exact q
  | ty n => cases r; exact q
theorem ins_at {pins : List (Addr × Obj)} {σ : St} {H : Hp} {s : Shared} {a dx : Addr} {fs : List (Str × V)} (I : Inv X pins σ H s) (e : H a = some (.ins C dx fs)) : ∃ ox od, PySem.W.InstAt s.heap a ox C od := by
  obtain ⟨mA, O, _⟩ := ins_get I.hok e
  obtain ⟨od, J, _⟩ := O.look
  exact ⟨_, _, J⟩
/-- a op b, both of the class C -/
def rOwn (C : Addr) (sp : Sp) (E : XK) : R2 := fun x y H Q => ∃ (a dx : Addr) (fs : List (Str × V)) (b dy : Addr) (gs : List (Str × V)), x = .ref a ∧ y = .ref b ∧ H a = some (.ins C dx fs) ∧ H b = some (.ins C dy gs) ∧ sp [x, y] H Q E
theorem o_own {op : Operator} {m : Str} (M : MetOk X.prog X.w X.K X.mg X.base CX k C m ps sp) (sf : PySem.W.selfFirst X.K C = true) (hr : Room k X.A) (hx : Passes CX X E) (hm : PySem.dunder op.info.2 = m := by rfl) : OpR X (binaryOp op) (rOwn C sp E) := by
  subst hm
  obtain ⟨_, f, fd, hM, F, hb⟩ := M
  intro pins s σ H x y v u Q I rx ry h
  obtain ⟨a, dx, fs, b, dy, gs, rfl, rfl, ha, hb', q⟩ := h
  obtain rfl : v = Value.ref a := rx
  obtain rfl : u = Value.ref b := ry
  obtain ⟨m, Fr⟩ := I.fr
  obtain ⟨ox, od, J⟩ := ins_at I ha
  obtain ⟨oy, oe, J2⟩ := ins_at I hb'
  refine PySem.W.binop_K Fr I.ok.mod.kin J J2.type sf hM.at_ hM.fn (wpAny_mono (own_call (vs := [V.ref a, V.ref b]) F hb hr hx I (.cons rfl (.cons rfl .nil)) q) (fun w s' hq => ?_) fun _ _ z => z)
  obtain ⟨z, H1, I1, rz, q1⟩ := hq
  exact relV_back rz ⟨z, H1, I1, rz, q1⟩
/-- x in b, b of the class C -/
def rInOwn (C : Addr) (sp : Sp) (E : XK) : R2 := fun x y H Q => ∃ (b dy : Addr) (gs : List (Str × V)), y = .ref b ∧ H b = some (.ins C dy gs) ∧ sp [y, x] H (fun v H' => ∃ c, v = .bl c ∧ Q (.bl c) H') E
theorem truthy_bool {M : Model} {A : Around} {b : Bool} {Q : Bool → Shared → Prop} {E' : Value → Shared → Prop} {s : Shared} (h : Q b s) : wpAny M A (truthy (.bool b)) Q E' s := wpAny_pure h
theorem o_inOwn (M : MetOk X.prog X.w X.K X.mg X.base CX k C "__contains__" ps sp) (hr : Room k X.A) (hx : Passes CX X E) : OpR X (compareOp .In) (rInOwn C sp E) := by
  obtain ⟨_, f, fd, hM, F, hb⟩ := M
  intro pins s σ H x y v u Q I rx ry h
  obtain ⟨b, dy, gs, rfl, hb', q⟩ := h
  obtain rfl : u = Value.ref b := ry
  obtain ⟨m, Fr⟩ := I.fr
  obtain ⟨ox, od, J⟩ := ins_at I hb'
  refine PySem.W.in_K Fr I.ok.mod.kin J hM.at_ hM.fn (wpAny_mono (own_call (vs := [V.ref b, x]) F hb hr hx I (.cons rfl (.cons rx .nil)) q) (fun w s' hq => ?_) fun _ _ z => z)
  obtain ⟨z, H1, I1, rz, c, rfl, q1⟩ := hq
  obtain rfl : w = Value.bool c := rz
  exact truthy_bool ⟨.bl c, H1, I1, rfl, q1⟩
theorem o_notInOwn (M : MetOk X.prog X.w X.K X.mg X.base CX k C "__contains__" ps sp) (hr : Room k X.A) (hx : Passes CX X E) :
    OpR X (compareOp .NotIn) (fun x y H Q => ∃ (b dy : Addr) (gs : List (Str × V)), y = .ref b ∧ H b = some (.ins C dy gs) ∧ sp [y, x] H (fun v H' => ∃ c, v = .bl c ∧ Q (.bl (!c)) H') E) := by
  obtain ⟨_, f, fd, hM, F, hb⟩ := M
  intro pins s σ H x y v u Q I rx ry h
  obtain ⟨b, dy, gs, rfl, hb', q⟩ := h
  obtain rfl : u = Value.ref b := ry
  obtain ⟨m, Fr⟩ := I.fr
  obtain ⟨ox, od, J⟩ := ins_at I hb'
  refine PySem.W.notIn_K Fr I.ok.mod.kin J hM.at_ hM.fn (wpAny_mono (own_call (vs := [V.ref b, x]) F hb hr hx I (.cons rfl (.cons rx .nil)) q) (fun w s' hq => ?_) fun _ _ z => z)
  obtain ⟨z, H1, I1, rz, c, rfl, q1⟩ := hq
  obtain rfl : w = Value.bool c := rz
  exact truthy_bool ⟨.bl (!c), H1, I1, rfl, q1⟩
/-- a < b, a == b and so on, both of the class C -/
theorem o_cmpOwn {op : CmpOp} {m : Str} (M : MetOk X.prog X.w X.K X.mg X.base CX k C m ps sp) (hu : X.A.units < cLine) (hn : PySem.W.notFirst X.K C (.ref C) = true) (hr : Room k X.A) (hx : Passes CX X E) (hm : (cmpInfo op).2.1 = m := by rfl)
    (ho : ∀ a b, compareOp op a b = richCompare op a b := by intro _ _; rfl) : OpR X (compareOp op) (rOwn C sp E) := by
  subst hm
  obtain ⟨_, f, fd, hM, F, hb⟩ := M
  intro pins s σ H x y v u Q I rx ry h
  obtain ⟨a, dx, fs, b, dy, gs, rfl, rfl, ha, hb', q⟩ := h
  obtain rfl : v = Value.ref a := rx
  obtain rfl : u = Value.ref b := ry
  obtain ⟨m, Fr⟩ := I.fr
  obtain ⟨ox, od, J⟩ := ins_at I ha
  obtain ⟨oy, oe, J2⟩ := ins_at I hb'
  rw [ho]
  refine PySem.W.cmp_K hu Fr I.ok.mod.kin J J2.type hn hM.at_ hM.fn (wpAny_mono (own_call (vs := [V.ref a, V.ref b]) F hb hr hx I (.cons rfl (.cons rfl .nil)) q) (fun w s' hq => ?_) fun _ _ z => z)
  obtain ⟨z, H1, I1, rz, q1⟩ := hq
  exact relV_back rz ⟨z, H1, I1, rz, q1⟩
/-- -a, ~a -/
def rUnOwn (C : Addr) (sp : Sp) (E : XK) : V → Hp → VK → Prop := fun x H Q => ∃ (a dx : Addr) (fs : List (Str × V)), x = .ref a ∧ H a = some (.ins C dx fs) ∧ sp [x] H Q E
theorem un_invOwn (M : MetOk X.prog X.w X.K X.mg X.base CX k C "__invert__" ps sp) (hr : Room k X.A) (hx : Passes CX X E) : UnR X (unaryOp .Invert) (rUnOwn C sp E) := by
  obtain ⟨_, f, fd, hM, F, hb⟩ := M
  intro pins s σ H x v Q I rx h
  obtain ⟨a, dx, fs, rfl, ha, q⟩ := h
  obtain rfl : v = Value.ref a := rx
  obtain ⟨ox, od, J⟩ := ins_at I ha
  unfold unaryOp
  refine wpAny_holding ?_
  refine wpAny_bind (m := callSpecial? (.ref a) (Str.ofString "__invert__")) (PySem.W.special_fn I.kIn J hM.at_ (beq_iff_eq.mp hM.fn) ?_)
  exact wpAny_mono (own_call (vs := [V.ref a]) F hb hr hx I (.cons rfl .nil) q) (fun w s' hq => wpAny_pure hq) fun _ _ z => z
theorem un_negOwn (M : MetOk X.prog X.w X.K X.mg X.base CX k C "__neg__" ps sp) (hr : Room k X.A) (hx : Passes CX X E) : UnR X (unaryOp .USub) (rUnOwn C sp E) := by
  obtain ⟨_, f, fd, hM, F, hb⟩ := M
  intro pins s σ H x v Q I rx h
  obtain ⟨a, dx, fs, rfl, ha, q⟩ := h
  obtain rfl : v = Value.ref a := rx
  obtain ⟨ox, od, J⟩ := ins_at I ha
  unfold unaryOp
  refine wpAny_holding ?_
  refine wpAny_bind (m := callSpecial? (.ref a) (Str.ofString "__neg__")) (PySem.W.special_fn I.kIn J hM.at_ (beq_iff_eq.mp hM.fn) ?_)
  exact wpAny_mono (own_call (vs := [V.ref a]) F hb hr hx I (.cons rfl .nil) q) (fun w s' hq => wpAny_pure hq) fun _ _ z => z
/-- a as a test, by its `__bool__` -/
def rTruOwn (C : Addr) (sp : Sp) (E : XK) : V → Hp → (Bool → Hp → Prop) → Prop := fun x H Q => ∃ (a dx : Addr) (fs : List (Str × V)), x = .ref a ∧ H a = some (.ins C dx fs) ∧ sp [x] H (fun v H' => ∃ c, v = .bl c ∧ Q c H') E
theorem tru_own (M : MetOk X.prog X.w X.K X.mg X.base CX k C "__bool__" ps sp) (hr : Room k X.A) (hx : Passes CX X E) : TruR X (rTruOwn C sp E) := by
  obtain ⟨_, f, fd, hM, F, hb⟩ := M
  intro pins s σ H x v Q I rx h
  obtain ⟨a, dx, fs, rfl, ha, q⟩ := h
  obtain rfl : v = Value.ref a := rx
  obtain ⟨ox, od, J⟩ := ins_at I ha
  obtain ⟨m, Fr⟩ := I.fr
  refine PySem.W.truthy_K Fr I.ok.mod.kin J hM.at_ hM.fn (wpAny_mono (own_call (vs := [V.ref a]) F hb hr hx I (.cons rfl .nil) q) (fun w s' hq => ?_) fun _ _ z => z)
  obtain ⟨z, H1, I1, rz, c, rfl, q1⟩ := hq
  obtain rfl : w = Value.bool c := rz
  exact ⟨H1, I1, q1⟩
end
theorem ifBound_B {M : Model} {A : Around} {E : Value → Shared → Prop} {s : Shared} {K : PySem.W.Frag} {x C : Addr} {ox : Obj} {od : Option Obj} {name : Str} {id : String} {args : List Value} {Q : Option Value → Shared → Prop}
    (X : K.In s.heap) (J : PySem.W.InstAt s.heap x ox C od) (hs : PySem.W.findIn K (.ref C) name = some (some (.builtin id))) (hbd : bindSpecial (.builtin id) (.ref x) = pure (.builtin id, [.ref x]))
    (h : wpAny M A (call (.builtin id) (.ref x :: args)) (fun v => Q (some v)) E s) : wpAny M A (callSpecialIfBound? (.ref x) name args) Q E s := by
  simp only [callSpecialIfBound?, bindSpecialIfBound?, hbd]
  refine wpAny_holding ?_
  refine wpAny_bind (wpAny_bind (wpAny_bind (J.type.here ?_)))
  refine (PySem.W.looks_findIn X hs).here ?_
  refine wpAny_bind (wpAny_askSetting (wpAny_ite ?_))
  have last : wpAny M A (call (.builtin id) ([.ref x] ++ args) >>= fun v => pure (some v)) Q E s := wpAny_bind (wpAny_mono h (fun _ _ z => wpAny_pure z) fun _ _ z => z)
  split
  · exact wpAny_bind (wpAny_of_eq hbd (wpAny_pure (by exact last)))
  · exact wpAny_tryCatch (wpAny_bind (wpAny_of_eq hbd (wpAny_pure (by exact last))))
theorem ne_bind (self : Value) : bindSpecial (.builtin "object.__ne__") self = pure (.builtin "object.__ne__", [self]) := PySem.F.slot_object_ne.bind self
theorem ne_kind' : builtinKind "object.__ne__" = some .slot := by decide +kernel
theorem ne_split : splitId "object.__ne__" = some ("object", "__ne__") := by decide +kernel
theorem ne_plain : plainId "object.__ne__" = true := by decide +kernel
section
variable {X : Cx} {k : Nat} {C : Addr} {ps : List Str} {sp : Sp}
/-- a != b by object's own, which asks the class's == -/
theorem o_neOwn (M : MetOk X.prog X.w X.K X.mg X.base CX0 k C "__eq__" ps sp) (hne : PySem.W.findIn X.K (.ref C) "__ne__" = some (some (.builtin "object.__ne__"))) (hob : PySem.W.mroIn X.K C (.type "object") = some true)
    (hu : X.A.units + 64 < cLine) (hr : Room (k + 1) X.A) : OpR X (compareOp .NotEq) (fun x y H Q => ∃ (a dx : Addr) (fs : List (Str × V)) (b dy : Addr) (gs : List (Str × V)), x = .ref a ∧ y = .ref b ∧ H a = some (.ins C dx fs) ∧ H b = some (.ins C dy gs) ∧
      sp [x, y] H (fun v H' => ∃ c, v = .bl c ∧ Q (.bl (!c)) H') E0) := by
  obtain ⟨_, f, fd, hM, F, hb⟩ := M
  intro pins s σ H x y v u Q I rx ry h
  obtain ⟨a, dx, fs, b, dy, gs, rfl, rfl, ha, hb', q⟩ := h
  obtain rfl : v = Value.ref a := rx
  obtain rfl : u = Value.ref b := ry
  obtain ⟨ox, od, J⟩ := ins_at I ha
  obtain ⟨oy, oe, J2⟩ := ins_at I hb'
  show wpAny _ _ (richCompare .NotEq (.ref a) (.ref b)) _ _ _
  have run : wpAny (model X.prog X.w) X.A.in1 (call (.ref f) [.ref a, .ref b]) (EP X pins σ fun v H' => ∃ c, v = .bl c ∧ Q (.bl (!c)) H') (fun _ _ => False) s := by
    have h' : sp ([V.ref a, V.ref b] ++ []) H (fun v H' => ∃ c, v = .bl c ∧ Q (.bl (!c)) H') E0 := by rw [List.append_nil]; exact q
    have vals : Vals ([V.ref a, V.ref b] ++ []) ([Value.ref a, Value.ref b] ++ []) := .cons (show RelV (.ref a) (.ref a) from rfl) (.cons (show RelV (.ref b) (.ref b) from rfl) .nil)
    refine wpAny_call (codeAny_mono (F.run X.A.in1 X.stack s H ⟨[.ref a, .ref b], []⟩ ([Value.ref a, Value.ref b] ++ []) ([V.ref a, V.ref b] ++ []) _ E0 hr.in1 I.env0.in1 (hb s [.ref a, .ref b] I.kIn (F.len _ _ _ _ h')) vals h') fun r s' hq => ?_)
    cases r with
    | error e => exact False.elim hq
    | ok fl =>
      cases fl with
      | ret u => exact I.after hq
      | next => exact False.elim hq
      | brk => exact False.elim hq
      | cont => exact False.elim hq
  have inst : PySem.W.Looks (model X.prog X.w) s.heap (isInstance (.ref a) (.type "object")) true := J.type.andThen (PySem.W.looks_mroIn I.kIn hob)
  obtain ⟨m, Fr⟩ := I.fr
  have core : wpAny (model X.prog X.w) X.A (tryCompare (.ref a) "__ne__" (.ref b)) (fun r s' => ∃ v, r = some v ∧ EP X pins σ Q v s') X.xe s := by
    unfold tryCompare
    refine wpAny_bind (ifBound_B I.kIn J hne (ne_bind _) ?_)
    refine wpAny_call (codeAny_call_builtin ne_plain PySem.F.entry_object_ne ?_)
    refine PySem.W.check_slot ne_kind' ne_split inst (PySem.F.args_object_ne_2 _ _) ?_
    have hu1 : X.A.in1.units < cLine := by
      show X.A.units + 1 < cLine
      omega
    unfold Builtin.«object.__ne__»
    refine wpAny_bind (wpAny_pure ?_)
    refine wpAny_bind (wpAny_cRoomFor hu1 ?_)
    refine wpAny_bind (PySem.W.ifBound_K I.kIn J hM.at_ hM.fn (wpAny_mono run (fun w s' hq => ?_) fun _ _ z => False.elim z))
    obtain ⟨z, H1, I1, rz, c, rfl, q1⟩ := hq
    obtain rfl : w = Value.bool c := rz
    refine wpAny_bind (truthy_bool ?_)
    refine wpAny_pure ?_
    exact wpAny_pure ⟨_, rfl, .bl (!c), H1, I1, rfl, q1⟩
  have same : PySem.W.notFirst X.K C (.ref C) = true := by
    unfold PySem.W.notFirst
    rw [Bool.or_eq_true]
    exact .inl (beq_self_eq_true _)
  have hu0 : X.A.units < cLine := by omega
  unfold richCompare
  simp only [oneThing_ref]
  refine wpAny_holding (wpAny_bind (wpAny_cRoomFor hu0 ?_))
  refine wpAny_bind (J.type.here ?_)
  refine wpAny_bind (J2.type.here ?_)
  rw [if_neg (by simp)]
  refine wpAny_bind (wpAny_pure ?_)
  rw [if_neg Bool.false_ne_true]
  refine wpAny_bind (wpAny_mono core (fun r s' z => ?_) fun _ _ e => e)
  obtain ⟨v, rfl, hq⟩ := z
  exact wpAny_pure hq
end
theorem nf_self {K : PySem.W.Frag} {C : Addr} : PySem.W.notFirst K C (.ref C) = true := by
  unfold PySem.W.notFirst
  rw [Bool.or_eq_true]
  exact .inl (beq_self_eq_true _)
theorem hu0_of {A : Around} {k : Nat} (hr : Room k A) : A.units < cLine := Nat.lt_of_le_of_lt (Nat.le_add_right _ 64) hr.units
end Hg
end L2
end

section
set_option Elab.async false
set_option linter.all false
set_option maxRecDepth 100000
set_option maxHeartbeats 4000000
/-! a == b where b is of any kind; str(a) by an own `__str__`; a[i] by an own `__getitem__`; joined texts. -/
namespace L2
namespace Hg
open PySem PySem.Spec PyProof.Rows
theorem kit_tyOwn {K : PySem.W.Frag} {C : Addr} {T : String} {b : Bool} (hd : PySem.W.hasDictIn K C = true) (ht : PySem.W.typeIn K (.ref C) = some (.type "type")) (h : PySem.W.subIn K (.type T) (.ref C) = some b) : PySem.W.kitOne K (.type T) (.ref C) = some b := by
  obtain ⟨cd, hc, _⟩ := PySem.W.any_some hd
  have e2 : ((PySem.W.clsIn K C).isSome && PySem.W.typeIn K (.ref C) == some (.type "type")) = true := by rw [hc, ht] <;> rfl
  show (if ((Value.type T == Value.ref C) = true) then some true else (if ((PySem.W.clsIn K C).isSome && PySem.W.typeIn K (.ref C) == some (.type "type")) = true then PySem.W.subIn K (.type T) (.ref C) else none)) = some b
  rw [if_neg (fun z => by have := beq_iff_eq.mp z; cases this), if_pos e2]
  exact h
theorem kitAny2 {K : PySem.W.Frag} {t u1 u2 : Value} {a b : Bool} (h1 : PySem.W.kitOne K t u1 = some a) (h2 : PySem.W.kitOne K t u2 = some b) : PySem.W.kitAny K t [u1, u2] = some (a || b) := by
  unfold PySem.W.kitAny
  rw [h1]
  cases a with
  | true => rfl
  | false =>
    show (match PySem.W.kitOne K t u2 with | some true => some true | some false => PySem.W.kitAny K t [] | none => none) = _
    rw [h2]
    cases b <;> rfl
theorem nf_ty {K : PySem.W.Frag} {C : Addr} {T : String} (h : PySem.W.subIn K (.type T) (.ref C) = some false) : PySem.W.notFirst K C (.type T) = true := by
  unfold PySem.W.notFirst
  rw [Bool.or_eq_true]
  exact .inr (by rw [h]; rfl)
section
variable {X : Cx} {CX : CXT} {k : Nat} {C : Addr} {ps : List Str} {sp : Sp} {E : XK} {pins : List (Addr × Obj)} {σ : St} {H : Hp} {s : Shared}
theorem ty_at {x : V} {u t : Value} (I : Inv X pins σ H s) (rx : RelV x u) (ty : TyX X.K H x t) : PySem.W.Looks (model X.prog X.w) s.heap (typeOf u) t := by
  obtain ⟨P, kx, hp, _⟩ := kit_of I rx ty
  exact kx.ty _ _ I.kIn hp
/-- a < b, a == b, .., a of the class C, b of a kind that is no class below C -/
def rCmpA (K : PySem.W.Frag) (C : Addr) (sp : Sp) (E : XK) : R2 := fun x y H Q => ∃ (a dx : Addr) (fs : List (Str × V)) (t : Value), x = .ref a ∧ H a = some (.ins C dx fs) ∧ TyX K H y t ∧ PySem.W.notFirst K C t = true ∧ sp [x, y] H Q E
theorem o_cmpAny {op : CmpOp} {m : Str} (M : MetOk X.prog X.w X.K X.mg X.base CX k C m ps sp) (K : PySem.W.Frag) (hu : X.A.units < cLine) (hr : Room k X.A) (hx : Passes CX X E) (hm : (cmpInfo op).2.1 = m := by rfl)
    (ho : ∀ a b, compareOp op a b = richCompare op a b := by intro _ _; rfl) (hK : X.K = K := by rfl) : OpR X (compareOp op) (rCmpA K C sp E) := by
  subst hm hK
  obtain ⟨_, f, fd, hM, F, hb⟩ := M
  intro pins s σ H x y v u Q I rx ry h
  obtain ⟨a, dx, fs, t, rfl, ha, ty, hn, q⟩ := h
  obtain rfl : v = Value.ref a := rx
  obtain ⟨m, Fr⟩ := I.fr
  obtain ⟨ox, od, J⟩ := ins_at I ha
  rw [ho]
  refine PySem.W.cmp_K hu Fr I.ok.mod.kin J (ty_at I ry ty) hn hM.at_ hM.fn (wpAny_mono (own_call (vs := [V.ref a, y]) F hb hr hx I (.cons rfl (.cons ry .nil)) q) (fun w s' hq => ?_) fun _ _ z => z)
  obtain ⟨z, H1, I1, rz, q1⟩ := hq
  exact relV_back rz ⟨z, H1, I1, rz, q1⟩
theorem r_cmpA {K : PySem.W.Frag} {a dx : Addr} {fs : List (Str × V)} {t : Value} {y : V} {Q : VK} (ha : H a = some (.ins C dx fs)) (ty : TyX K H y t) (nf : PySem.W.notFirst K C t = true) (k : sp [.ref a, y] H Q E) : rCmpA K C sp E (.ref a) y H Q := ⟨a, dx, fs, t, rfl, ha, ty, nf, k⟩
theorem r_ownB {a dx b dy : Addr} {fs gs : List (Str × V)} {Q : VK} (ha : H a = some (.ins C dx fs)) (hb : H b = some (.ins C dy gs)) (k : sp [.ref a, .ref b] H Q E) : rOwn C sp E (.ref a) (.ref b) H Q := ⟨a, dx, fs, b, dy, gs, rfl, rfl, ha, hb, k⟩
theorem r_inOwn {x : V} {b dy : Addr} {gs : List (Str × V)} {Q : VK} (hb : H b = some (.ins C dy gs)) (k : sp [.ref b, x] H (fun v H' => ∃ c, v = .bl c ∧ Q (.bl c) H') E) : rInOwn C sp E x (.ref b) H Q := ⟨b, dy, gs, rfl, hb, k⟩
/-- str(a) by the class's own `__str__` -/
def rStrOwn (C : Addr) (sp : Sp) : List V → Hp → VK → Prop := fun xs H Q => ∃ (a dx : Addr) (fs : List (Str × V)), xs = [.ref a] ∧ H a = some (.ins C dx fs) ∧ sp [.ref a] H (fun v H' => ∃ y, v = .str y ∧ Q (.str y) H') E0
theorem c_strOwn (M : MetOk X.prog X.w X.K X.mg X.base CX0 k C "__str__" ps sp) (hu : X.A.units + 64 < cLine) (hr : Room (k + 2) X.A) : CallR X (.type "str") (rStrOwn C sp) := by
  obtain ⟨_, f, fd, hM, F, hb⟩ := M
  intro pins s σ H xs us Q I r h
  obtain ⟨a, dx, fs, rfl, ha, q⟩ := h
  cases r with
  | cons r1 r2 =>
    cases r2
    cases (show _ = Value.ref a from r1)
    obtain ⟨ox, od, J⟩ := ins_at I ha
    have run : wpAny (model X.prog X.w) X.A.in1.in1 (call (.ref f) [.ref a]) (EP X pins σ fun v H' => ∃ y, v = .str y ∧ Q (.str y) H') (fun _ _ => False) s := by
      have h' : sp ([V.ref a] ++ []) H (fun v H' => ∃ y, v = .str y ∧ Q (.str y) H') E0 := by rw [List.append_nil]; exact q
      have vals : Vals ([V.ref a] ++ []) ([Value.ref a] ++ []) := .cons (show RelV (.ref a) (.ref a) from rfl) .nil
      refine wpAny_call (codeAny_mono (F.run X.A.in1.in1 X.stack s H ⟨[.ref a], []⟩ ([Value.ref a] ++ []) ([V.ref a] ++ []) _ E0 hr.in1.in1 I.env0.in1.in1 (hb s [.ref a] I.kIn (F.len _ _ _ _ h')) vals h') fun r s' hq => ?_)
      cases r with
      | error e => exact False.elim hq
      | ok fl =>
        cases fl with
        | ret u => exact I.after hq
        | next => exact False.elim hq
        | brk => exact False.elim hq
        | cont => exact False.elim hq
    refine PySem.W.kso_call (by show X.A.units + 1 + 1 < cLine; omega) I.kIn J hM.at_ hM.fn (wpAny_mono run (fun u s' hq => ?_) fun _ _ z => False.elim z)
    obtain ⟨z, H1, I1, rz, y, rfl, q1⟩ := hq
    obtain ⟨t, rfl⟩ := rz
    exact ⟨.str y, H1, I1, ⟨t, rfl⟩, q1⟩
theorem r_strOwn {a dx : Addr} {fs : List (Str × V)} {Q : VK} (ha : H a = some (.ins C dx fs)) (k : sp [.ref a] H (fun v H' => ∃ y, v = .str y ∧ Q (.str y) H') E0) : rStrOwn C sp [.ref a] H Q := ⟨a, dx, fs, rfl, ha, k⟩
end
/-! ### a as a test -/
def tTrO (C : Addr) (sp : Sp) (E : XK) (ta : TE) : TT := fun σ H Q => ta σ H fun x H' => rTruOwn C sp E x H' Q
theorem pt_own {X : Cx} {CX : CXT} {k : Nat} {C : Addr} {ps : List Str} {sp : Sp} {E : XK} {a : Expr} {ta : TE} (M : MetOk X.prog X.w X.K X.mg X.base CX k C "__bool__" ps sp) (hr : Room k X.A) (hx : Passes CX X E) (ha : PE X a ta)
    (he : ∀ whole, isTrue a X.env whole = (do let v ← whole; standAt a.pos; holding [v] (truthy v)) := by intro _; rfl) : PT X a (tTrO C sp E ta) := pt_truthR ha (tru_own M hr hx) he
theorem r_trO {C : Addr} {sp : Sp} {E : XK} {ta : TE} {σ : St} {H : Hp} {Q : Bool → Hp → Prop} (k : ta σ H fun x H' => rTruOwn C sp E x H' Q) : tTrO C sp E ta σ H Q := k
theorem r_truO {C a dx : Addr} {sp : Sp} {E : XK} {fs : List (Str × V)} {H : Hp} {Q : Bool → Hp → Prop} (ha : H a = some (.ins C dx fs)) (k : sp [.ref a] H (fun v H' => ∃ c, v = .bl c ∧ Q c H') E) : rTruOwn C sp E (.ref a) H Q := ⟨a, dx, fs, rfl, ha, k⟩
/-! ### bool(a) by an own `__bool__` -/
open Builtin in
theorem bool_new_tree (v : Value) : «bool.__new__» ⟨[.type "bool", v], []⟩ = (do
    if !(← isType (.type "bool")) then
      rule "bool.__new__.no-type"; raiseError "TypeError" s!"bool.__new__(X): X is not a type object ({← typeNameOf (.type "bool")})"
    if !(← isSubtype (.type "bool") (.type "bool")) then
      rule "bool.__new__.no-subtype"; raiseError "TypeError" s!"bool.__new__({← typeName (.type "bool")}): {← typeName (.type "bool")} is not a subtype of bool"
    ret (.bool (← truthy v))) := rfl
section
variable {X : Cx} {k : Nat} {C : Addr} {ps : List Str} {sp : Sp} {H : Hp}
def rBoolOwn (C : Addr) (sp : Sp) : List V → Hp → VK → Prop := fun xs H Q => ∃ (a dx : Addr) (fs : List (Str × V)), xs = [.ref a] ∧ H a = some (.ins C dx fs) ∧ sp [.ref a] H (fun v H' => ∃ c, v = .bl c ∧ Q (.bl c) H') E0
theorem c_boolOwn (M : MetOk X.prog X.w X.K X.mg X.base CX0 k C "__bool__" ps sp) (hr : Room (k + 2) X.A) : CallR X (.type "bool") (rBoolOwn C sp) := by
  obtain ⟨_, f, fd, hM, F, hb⟩ := M
  intro pins s σ H xs us Q I r h
  obtain ⟨a, dx, fs, rfl, ha, q⟩ := h
  cases r with
  | cons r1 r2 =>
    cases r2
    cases (show _ = Value.ref a from r1)
    obtain ⟨ox, od, J⟩ := ins_at I ha
    obtain ⟨m, Fr⟩ := I.fr
    have run : wpAny (model X.prog X.w) X.A.in1.in1 (call (.ref f) [.ref a]) (EP X pins σ fun v H' => ∃ c, v = .bl c ∧ Q (.bl c) H') (fun _ _ => False) s := by
      have h' : sp ([V.ref a] ++ []) H (fun v H' => ∃ c, v = .bl c ∧ Q (.bl c) H') E0 := by rw [List.append_nil]; exact q
      have vals : Vals ([V.ref a] ++ []) ([Value.ref a] ++ []) := .cons (show RelV (.ref a) (.ref a) from rfl) .nil
      refine wpAny_call (codeAny_mono (F.run X.A.in1.in1 X.stack s H ⟨[.ref a], []⟩ ([Value.ref a] ++ []) ([V.ref a] ++ []) _ E0 hr.in1.in1 I.env0.in1.in1 (hb s [.ref a] I.kIn (F.len _ _ _ _ h')) vals h') fun r s' hq => ?_)
      cases r with
      | error e => exact False.elim hq
      | ok fl =>
        cases fl with
        | ret u => exact I.after hq
        | next => exact False.elim hq
        | brk => exact False.elim hq
        | cont => exact False.elim hq
    refine callType_codes (T := "bool") (Bi := Builtin.«object.__init__») (Q₁ := fun r s₁ => ∃ c, r = .bool c ∧ EP X pins σ Q (.bool c) s₁) PySem.F.called_bool (PySem.F.typeCall_bool_1 _) PySem.F.entry_object_init ?_ ?_
    · refine codeAny_of_tree (show wpAny _ X.A.in1.in1 (do checkBuiltinCall "bool.__new__" ⟨[.type "bool", .ref a], []⟩; again (.builtin "bool.__new__" ⟨[.type "bool", .ref a], []⟩)) _ _ s from ?_)
      refine wpAny_bind (wpAny_of_eq (PySem.F.newCall_bool_1 _) (wpAny_pure ⟨plainId_quiet (by decide +kernel) _, codeAny_builtin PySem.F.entry_bool_new ?_⟩))
      rw [Around.under_plainId (by decide +kernel) _, bool_new_tree]
      refine wpAny_bind (wpAny_pure ?_)
      refine wpAny_bind (wpAny_of_eq PySem.F.conv_sub_bool ?_)
      refine wpAny_bind (PySem.W.truthy_K Fr I.ok.mod.kin J hM.at_ hM.fn (wpAny_mono run (fun u s' hq => ?_) fun _ _ z => False.elim z))
      obtain ⟨z, H1, I1, rz, c, rfl, q1⟩ := hq
      obtain rfl : u = Value.bool c := rz
      exact wpAny_pure ⟨c, rfl, .bl c, H1, I1, rfl, q1⟩
    · rintro obj s₁ ⟨c, rfl, hq⟩
      exact ⟨rfl, PySem.F.args_object_init_2 _ _, object_init_meets PySem.F.called_bool.init.lookup PySem.F.called_bool.made (by decide) X.prog X.w X.A.in1 _ s₁ ⟨rfl, rfl, hq⟩⟩
theorem r_boolOwn {a dx : Addr} {fs : List (Str × V)} {Q : VK} (ha : H a = some (.ins C dx fs)) (k : sp [.ref a] H (fun v H' => ∃ c, v = .bl c ∧ Q (.bl c) H') E0) : rBoolOwn C sp [.ref a] H Q := ⟨a, dx, fs, rfl, ha, k⟩
end
/-! ### a[i] by an own `__getitem__` -/
def tSubO (C : Addr) (sp : Sp) (E : St → XK) (ta tb : TE) : TE := fun σ H Q => ta σ H fun x H1 => tb σ H1 fun y H2 => ∃ (a dx : Addr) (fs : List (Str × V)), x = .ref a ∧ H2 a = some (.ins C dx fs) ∧ sp [x, y] H2 Q (E σ)
section
variable {X : Cx} {CX : CXT} {k : Nat} {C : Addr} {ps : List Str} {sp : Sp} {E : St → XK} {a b : Expr} {ta tb : TE} {pos : Pos} {σ : St} {H : Hp} {Q : VK}
theorem pe_subOwn (M : MetOk X.prog X.w X.K X.mg X.base CX k C "__getitem__" ps sp) (hfi : ∀ f, PySem.W.findIn X.K (.ref C) "__getitem__" = some (some (.ref f)) → PySem.W.fnIn X.K f = true) (hr : Room (k + 1) X.A) (hx : ∀ σ, PassesAt CX X σ (E σ)) (ha : PE X a ta) (hb : PE X b tb)
    (hsl : ∀ v i, subscripted b true v i = runValue (.builtin "lifetime.subscript" ⟨[v, i], []⟩) := by intro _ _; with_unfolding_all rfl) : PE X (.Subscript a b pos) (tSubO C sp E ta tb) := by
  obtain ⟨_, f, fd, hM, F, hbi⟩ := M
  refine ⟨fun pins s σ H Q I h => ?_⟩
  refine Subscript_ (binT ha hb I (R := fun x y H2 => ∃ (a dx : Addr) (fs : List (Str × V)), x = .ref a ∧ H2 a = some (.ins C dx fs) ∧ sp [x, y] H2 Q (E σ)) h fun v u s2 x y H2 I2 rx ry q => ?_)
  obtain ⟨a, dx, fs, rfl, ea, q⟩ := q
  obtain rfl : v = Value.ref a := rx
  obtain ⟨m, Fr⟩ := I2.fr
  obtain ⟨ox, od, J⟩ := ins_at I2 ea
  refine PySem.W.sub_K Fr I2.ok.mod.kin J hM.at_ (hfi f hM.at_) hM.fn ?_ (hsl _ _)
  have h' : sp ([V.ref a, y] ++ []) H2 Q (E σ) := by rw [List.append_nil]; exact q
  have vals : Vals ([V.ref a, y] ++ []) ([Value.ref a, u] ++ []) := .cons (show RelV (.ref a) (.ref a) from rfl) (.cons ry .nil)
  refine wpAny_call (codeAny_mono (F.run X.A.in1 X.stack s2 H2 ⟨[.ref a, u], []⟩ ([Value.ref a, u] ++ []) ([V.ref a, y] ++ []) _ (E σ) hr.in1 I2.env0.in1 (hbi s2 [.ref a, u] I2.kIn (F.len _ _ _ _ h')) vals h') fun r s' hq => ?_)
  cases r with
  | error e => exact hx σ pins H2 s2 e s' I2 hq
  | ok fl =>
    cases fl with
    | ret u => exact I2.after hq
    | next => exact False.elim hq
    | brk => exact False.elim hq
    | cont => exact False.elim hq
theorem r_subO (k : ta σ H fun x H1 => tb σ H1 fun y H2 => ∃ (a dx : Addr) (fs : List (Str × V)), x = .ref a ∧ H2 a = some (.ins C dx fs) ∧ sp [x, y] H2 Q (E σ)) : tSubO C sp E ta tb σ H Q := k
theorem r_subI {p dx : Addr} {fs : List (Str × V)} {R : Addr → Prop} (h : H p = some (.ins C dx fs)) (q : R p) : ∃ (a dx : Addr) (fs : List (Str × V)), V.ref p = .ref a ∧ H a = some (.ins C dx fs) ∧ R a := ⟨p, dx, fs, rfl, h, q⟩
end
/-- raise C(name) -/
theorem r_mkV {K : PySem.W.Frag} {C : Addr} {f : Str} {v : V} {i : Nat} {σ : St} {H : Hp} {Q : XK} (T : OexC K C) (hf : PySem.W.findIn K (.ref C) f = some none) (hv : σ[i]? = some (some v)) (k : ∀ d, H d = none → Q (.ref C) (some d) (upd H d (.xd [(f, v)]))) :
    tMkO C (spInitF K C f) [] (tCons (tVar i) tNil) σ H Q := r_mkF (x := v) T hf ⟨v, hv, v, rfl, k⟩ (fun hh ⟨v, hv, h⟩ => ⟨v, hv, hh _ _ h⟩)
/-! ### str of ints and texts, joined texts -/
section
variable {X : Cx} {σ : St} {H : Hp} {Q : VK}
def uStr : List V → Hp → VK → Prop := fun xs H Q => (∃ i, xs = [.int i] ∧ i.natAbs.log2 < 1920 ∧ Q (.str (toString i)) H) ∨ ∃ a, xs = [.str a] ∧ Q (.str a) H
theorem c_str : CallR X (.type "str") uStr := CallR.or call_str_int SkE.call_str_str
theorem r_strI {i : Int} (z : i.natAbs.log2 < 1920) (k : Q (.str (toString i)) H) : uStr [.int i] H Q := .inl ⟨i, rfl, z, k⟩
def tFs (ts : List TE) : TE := fun σ H Q => tJs ts Str.empty σ H fun out H1 => Q (.str out) H1
theorem pe_fs {v1 v2 : Expr} {rest : List Expr} {ts : List TE} {pos : Pos} (h : PJ X (v1 :: v2 :: rest) ts) : PE X (.JoinedStr (v1 :: v2 :: rest) pos) (tFs ts) := pe_joined h
theorem r_fs {ts : List TE} (k : tJs ts Str.empty σ H fun out H1 => Q (.str out) H1) : tFs ts σ H Q := k
variable {QS : Str → Hp → Prop} {acc : Str} {t : TE} {ts : List TE} {te to : TE}
theorem r_js (k : t σ H fun x H1 => ∃ y, x = .str y ∧ (acc ++ y).length ≤ sizeLine ∧ tJs ts (acc ++ y) σ H1 QS) : tJs (t :: ts) acc σ H QS := k
theorem r_js0 (k : QS acc H) : tJs [] acc σ H QS := k
theorem r_jy {y : Str} {R : Str → Prop} (z : (acc ++ y).length ≤ sizeLine) (k : R y) : ∃ y', V.str y = .str y' ∧ (acc ++ y').length ≤ sizeLine ∧ R y' := ⟨y, rfl, z, k⟩
theorem r_fmt (k : te σ H fun x H1 => (∃ y : Str, x = .str y ∧ y.length ≤ sizeLine ∧ Q (.str y) H1) ∨ ∃ i : Int, x = .int i ∧ i.natAbs.log2 < 1920 ∧ Q (.str (toString i)) H1) : tFmt te σ H Q := k
theorem r_fmS {y : Str} {R : Str → Prop} {R2 : Int → Prop} (z : y.length ≤ sizeLine) (k : R y) : (∃ y' : Str, V.str y = .str y' ∧ y'.length ≤ sizeLine ∧ R y') ∨ ∃ i : Int, V.str y = .int i ∧ i.natAbs.log2 < 1920 ∧ R2 i := .inl ⟨y, rfl, z, k⟩
theorem r_fmI {i : Int} {R : Str → Prop} {R2 : Int → Prop} (z : i.natAbs.log2 < 1920) (k : R2 i) : (∃ y' : Str, V.int i = .str y' ∧ y'.length ≤ sizeLine ∧ R y') ∨ ∃ j : Int, V.int i = .int j ∧ j.natAbs.log2 < 1920 ∧ R2 j := .inr ⟨i, rfl, z, k⟩
def rJoin (K : PySem.W.Frag) : V → List V → Hp → VK → Prop := fun x xs H Q => ∃ a p, ∃ ys : List Str, x = .str a ∧ xs = [.ref p] ∧ (SqL K H p (ys.map V.str) ∨ SqT K H p (ys.map V.str)) ∧ (ys.map (·.length)).sum + ys.length * a.length ≤ 16777216 ∧ Q (.str (Txt.join a ys)) H
theorem pe_joinK {o e : Expr} {apos pos : Pos} (K : PySem.W.Frag) (ho : PE X o to) (he : PE X e te) (hs : starEach [e] X.env = [(false, eval e X.env)] := by rfl) (hbase : attributeBase o "join" X.env (eval o X.env) = eval o X.env := by rfl) (hline : (apos.endLine == pos.line) = true := by rfl) (hK : X.K = K := by rfl) :
    PE X (.Call (.Attribute o "join" apos) [e] [] pos) (tM1 (rJoin K) to te) := hK ▸ pe_join ho he hs hbase hline
def rSplit : V → List V → Hp → VK → Prop := fun x xs H Q => ∃ a b, x = .str a ∧ xs = [.str b] ∧ (b.length == 0) = false ∧ a.length + 2 ≤ sizeLine ∧ rNewStrs (Txt.split a b) H Q
theorem pe_splitK {o e : Expr} {apos pos : Pos} (ho : PE X o to) (he : PE X e te) (hs : starEach [e] X.env = [(false, eval e X.env)] := by rfl) (hbase : attributeBase o "split" X.env (eval o X.env) = eval o X.env := by rfl) (hline : (apos.endLine == pos.line) = true := by rfl) :
    PE X (.Call (.Attribute o "split" apos) [e] [] pos) (tM1 rSplit to te) := pe_split ho he hs hbase hline
theorem slL (K : PySem.W.Frag) {X : Cx} (hK : X.K = K := by rfl) : SlR X (rSlL K) := hK ▸ sl_list
theorem r_slL {K : PySem.W.Frag} {p : Addr} {xs : List V} {lo hi : Option Int} (h : SqL K H p xs) (k : ∀ q, H q = none → Q (.ref q) (upd H q (.lst (cutV xs lo hi)))) : rSlL K (.ref p) lo hi H Q := ⟨p, xs, rfl, h, k⟩
theorem cut_take (xs : List V) (n : Nat) : cutV xs none (some (n : Int)) = xs.take n := by
  unfold cutV HT.sIx
  have h : ¬ ((n : Int) < 0) := by omega
  simp only [if_neg h, List.drop_zero, Nat.sub_zero, Int.toNat_natCast]
  rw [List.take_eq_take_iff]
  omega
theorem r_bm0 {K : PySem.W.Frag} {T : String} {r : V → List V → Hp → VK → Prop} (k : to σ H fun x H1 => tyV K T x H1 ∧ r x [] H1 Q) : tBM0 K T r to σ H Q := k
theorem r_m1 {r : V → List V → Hp → VK → Prop} (k : to σ H fun x H1 => (∃ a, x = .str a) ∧ te σ H1 fun y H2 => r x [y] H2 Q) : tM1 r to te σ H Q := k
theorem r_isS {z : Str} {R : Prop} (k : R) : (∃ a, V.str z = .str a) ∧ R := ⟨⟨z, rfl⟩, k⟩
theorem r_join {K : PySem.W.Frag} {a : Str} {p : Addr} {ys : List Str} (h : SqL K H p (ys.map V.str) ∨ SqT K H p (ys.map V.str)) (z : (ys.map (·.length)).sum + ys.length * a.length ≤ 16777216) (k : Q (.str (Txt.join a ys)) H) : rJoin K (.str a) [.ref p] H Q := ⟨a, p, ys, rfl, rfl, h, z, k⟩
end
end Hg
end L2
end

section
set_option Elab.async false
set_option linter.all false
set_option maxRecDepth 100000
set_option maxHeartbeats 4000000
/-! max(xs, key=int), max(a, b, key=int). -/
namespace L2
namespace Hg
open PySem PySem.Spec PyProof.Rows
/-- what the list of the best one so far holds -/
def BestAt (h : Heap) (S : Addr) : Option Int → Prop
  | none => ∃ c, h.get? S = some (seqObj "list" #[] c)
  | some M => ∃ c t u, h.get? S = some (seqObj "list" #[.int M t, .int M u] c)
theorem BestAt.keep {h h' : Heap} {S : Addr} {b : Option Int} (k : ∀ o, h.get? S = some o → h'.get? S = some o) (x : BestAt h S b) : BestAt h' S b := by
  cases b with
  | none => obtain ⟨c, e⟩ := x; exact ⟨c, k _ e⟩
  | some M => obtain ⟨c, t, u, e⟩ := x; exact ⟨c, t, u, k _ e⟩
section
variable {prog : Program} {w : World} {A : Around} {s : Shared} {R : Result → Shared → Prop} {I S : Addr} {fp : List Addr} {n : Nat} {P : Nat → Value → Prop} {St : Nat → Heap → Prop} {ns : Nat → Int} {h0 : Heap}
theorem maxk_loop (W : Walks prog w A.in1 I fp [I] n P St) (hP : ∀ i v, P i v → ∃ t, v = .int (ns i) t) (fS : S ∉ fp) (ne : S ≠ I) (oI : h0.get? I = none) (oS : h0.get? S = none) (n0 : 0 < n)
    (fin : ∀ M t h tk, (∃ i, i < n ∧ ns i = M) → (∀ i, i < n → ns i ≤ M) → (∀ b o, h0.get? b = some o → h.get? b = some o) → R (.ok (.ret (.int M t))) { s with heap := h, toks := tk }) :
    ∀ (r j : Nat) (b : Option Int) (h : Heap) (tk : Nat), n - j = r → j ≤ n → St j h → BestAt h S b → (∀ b o, h0.get? b = some o → h.get? b = some o) → (b = none → j = 0) → (∀ M, b = some M → (∃ i, i < j ∧ ns i = M) ∧ ∀ i, i < j → ns i ≤ M) →
      codeAny (model prog w) A (.builtin "max.loop" ⟨[.ref I, .type "int", .ref S], []⟩) R { s with heap := h, toks := tk } := by
  have nm : (toString "max" ++ toString ".loop" : String) = "max.loop" := by decide
  have nbI : ∀ b o, h0.get? b = some o → b ∉ [I] := fun b o e z => by
    rw [List.mem_singleton.mp z, oI] at e
    exact nomatch e
  have nbS : ∀ b o, h0.get? b = some o → b ≠ S := fun b o e z => by
    rw [z, oS] at e
    exact nomatch e
  have SI : S ∉ [I] := fun z => ne (List.mem_singleton.mp z)
  intro r
  induction r with
  | zero =>
    intro j b h tk hr hj hst hb hk h1 h2
    have ej : j = n := by omega
    subst ej
    cases b with
    | none => have := h1 rfl; omega
    | some M =>
      obtain ⟨c, t, u, e⟩ := hb
      refine codeAny_builtin (PySem.F.entry_max_loop) ?_
      rw [Around.under_plainId (PySem.F.plain_max_loop) _]
      refine (show wpAny _ A.in1 (seqItems? (.ref S) >>= _) _ _ _ from wpAny_bind (wpAny_seqItems e rfl ?_))
      refine (show wpAny _ A.in1 (tryCatch (pyNext (.ref I)) _ >>= _) _ _ _ from wpAny_bind (wpAny_tryCatch (W.done _ _ _ hst fun g tk' kg => ?_)))
      have eS := kg S _ SI e
      have same := Heap.SameBut.update g S (Obj.mapSeq fun _ => (#[] : Array Value))
      refine (show wpAny _ A.in1 (updateSeq S (fun _ => #[]) >>= _) _ _ _ from wpAny_bind (wpAny_updateSeq eS rfl (wpAny_bind (wpAny_letGo (wpAny_pure ?_)))))
      obtain ⟨q1, q2⟩ := h2 M rfl
      exact fin M t _ _ q1 q2 fun b o z => (same.2 b (nbS b o z)).trans (kg b o (nbI b o z) (hk b o z))
  | succ r ih =>
    intro j b h tk hr hj hst hb hk h1 h2
    have lt : j < n := by omega
    have step : ∀ (d : Option Int) (t u : Tok) (g : Heap) (tk' : Nat), St (j + 1) g → BestAt g S d → (∀ b o, h0.get? b = some o → g.get? b = some o) → d ≠ none → (∀ M, d = some M → (∃ i, i < j + 1 ∧ ns i = M) ∧ ∀ i, i < j + 1 → ns i ≤ M) →
        codeAny (model prog w) A (.builtin "max.loop" ⟨[.ref I, .type "int", .ref S], []⟩) R { s with heap := g, toks := tk' } := fun d t u g tk' g1 g2 g3 g4 g5 =>
      ih (j + 1) d g tk' (by omega) lt g1 g2 g3 (fun z => absurd z g4) g5
    obtain ⟨its, c, e, hits⟩ : ∃ its c, h.get? S = some (seqObj "list" its c) ∧ ((b = none ∧ its = #[]) ∨ ∃ M t u, b = some M ∧ its = #[.int M t, .int M u]) := by
      cases b with
      | none => obtain ⟨c, e⟩ := hb; exact ⟨_, c, e, .inl ⟨rfl, rfl⟩⟩
      | some M => obtain ⟨c, t, u, e⟩ := hb; exact ⟨_, c, e, .inr ⟨M, t, u, rfl, rfl⟩⟩
    have isz : its.size ≤ sizeLine := by
      rcases hits with ⟨_, rfl⟩ | ⟨M, t, u, _, rfl⟩
      · exact Nat.zero_le _
      · exact (by decide : 2 ≤ sizeLine)
    refine codeAny_builtin (PySem.F.entry_max_loop) ?_
    rw [Around.under_plainId (PySem.F.plain_max_loop) _]
    refine (show wpAny _ A.in1 (seqItems? (.ref S) >>= _) _ _ _ from wpAny_bind (wpAny_seqItems e rfl ?_))
    refine (show wpAny _ A.in1 (tryCatch (pyNext (.ref I)) _ >>= _) _ _ _ from wpAny_bind (wpAny_tryCatch (W.item j _ _ _ lt hst fun v g tk' hv hst' kg => ?_)))
    obtain ⟨t, rfl⟩ := hP j v hv
    have eS := kg S _ SI e
    have hk' : ∀ b o, h0.get? b = some o → g.get? b = some o := fun b o z => kg b o (nbI b o z) (hk b o z)
    refine (show wpAny _ A.in1 (tryCatch (holding [Value.int (ns j) t] (call (.type "int") [.int (ns j) t])) _ >>= _) _ _ _ from wpAny_bind (wpAny_tryCatch (wpAny_holding (PySem.call_int_int ?_))))
    have put : ∀ (x y : Tok), St (j + 1) (g.update S (Obj.mapSeq fun _ => #[.int (ns j) x, .int (ns j) y])) ∧ BestAt (g.update S (Obj.mapSeq fun _ => #[.int (ns j) x, .int (ns j) y])) S (some (ns j)) ∧
        ∀ b o, h0.get? b = some o → (g.update S (Obj.mapSeq fun _ => #[.int (ns j) x, .int (ns j) y])).get? b = some o := fun x y => by
      have same := Heap.SameBut.update g S (Obj.mapSeq fun _ => #[Value.int (ns j) x, .int (ns j) y])
      exact ⟨W.frame _ _ _ hst' fun b hb o z => (same.2 b (fun q => fS (q ▸ hb))).trans z, ⟨_, _, _, get?_update_seq eS fun _ => #[.int (ns j) x, .int (ns j) y]⟩, fun b o z => (same.2 b (nbS b o z)).trans (hk' b o z)⟩
    rcases hits with ⟨rfl, rfl⟩ | ⟨M, t1, u1, rfl, rfl⟩
    · have j0 := h1 rfl
      subst j0
      obtain ⟨p1, p2, p3⟩ := put t t
      refine (show wpAny _ A.in1 (updateSeq S (fun _ => #[.int (ns 0) t, .int (ns 0) t]) >>= _) _ _ _ from wpAny_bind (wpAny_updateSeq eS rfl ?_))
      rw [nm]
      refine wpAny_pure ⟨plainId_quiet (PySem.F.plain_max_loop) _, step _ t t _ _ p1 p2 p3 (fun z => nomatch z) fun M' e' => ?_⟩
      cases e'
      exact ⟨⟨0, Nat.lt_succ_self _, rfl⟩, fun i hi => by rw [show i = 0 by omega]; exact Int.le_refl _⟩
    · obtain ⟨⟨i0, i1, rfl⟩, i3⟩ := h2 M rfl
      refine (show wpAny _ A.in1 (tryCatch (holding [Value.int (ns j) t, .int (ns j) t] (richCompare .Gt (.int (ns j) t) (.int (ns i0) u1) >>= _)) _ >>= _) _ _ _ from
        wpAny_bind (wpAny_tryCatch (wpAny_holding (wpAny_bind (CmpOf.ints_gt (P := fun i v => ∃ t, v = .int (ns i) t) ns (fun i v h => h) j i0 _ _ _ _ _ ⟨t, rfl⟩ ⟨u1, rfl⟩ ?_)))))
      refine wpAny_bind (wpAny_holding (wpAny_truthy_bool (wpAny_bind (wpAny_letGo (wpAny_pure ?_)))))
      by_cases better : ns j > ns i0
      · obtain ⟨p1, p2, p3⟩ := put t t
        simp only [better, decide_true, if_true]
        refine wpAny_bind (wpAny_updateSeq eS rfl (wpAny_bind (wpAny_letGo ?_)))
        rw [nm]
        refine wpAny_pure ⟨plainId_quiet (PySem.F.plain_max_loop) _, step _ t t _ _ p1 p2 p3 (fun z => nomatch z) fun M' e' => ?_⟩
        cases e'
        refine ⟨⟨j, Nat.lt_succ_self _, rfl⟩, fun i hi => ?_⟩
        by_cases e : i = j
        · rw [e]; exact Int.le_refl _
        · have := i3 i (by omega)
          omega
      · simp only [better, decide_false, Bool.false_eq_true, if_false]
        refine wpAny_bind (wpAny_letGo ?_)
        rw [nm]
        refine wpAny_pure ⟨plainId_quiet (PySem.F.plain_max_loop) _, step (some (ns i0)) t t _ _ hst' ⟨_, _, _, eS⟩ hk' (fun z => nomatch z) fun M' e' => ?_⟩
        cases e'
        refine ⟨⟨i0, by omega, rfl⟩, fun i hi => ?_⟩
        by_cases e : i = j
        · rw [e]; omega
        · exact i3 i (by omega)
end
/-- max(xs, key=int) of a list of ints -/
def rMaxKey (K : PySem.W.Frag) : List V → List V → Hp → VK → Prop := fun xs zs H Q => ∃ (a : Addr) (ns : List Int), xs = [.ref a] ∧ zs = [.ty "int"] ∧ SqL K H a (ns.map V.int) ∧ 0 < ns.length ∧ ∀ m, m ∈ ns → (∀ y, y ∈ ns → y ≤ m) → Q (.int m) H
theorem bind_key (v : Value) : Builtin.Builtins.bindParams "max" ["key", "default"] 0 ⟨[], [(Str.ofString "key", v)]⟩ = pure [some v, none] := rfl
theorem max_key2 (a b v : Value) : argsOk "max" ⟨[a, b], [(Str.ofString "key", v)]⟩ := by unfold argsOk; kernel_rfl
section
variable {X : Cx}
theorem cr_maxKey (K : PySem.W.Frag) (hc : X.calm = true) (hK : X.K = K := by rfl) : CallRK X (.builtin "max") [Str.ofString "key"] (rMaxKey K) := by
  subst hK
  intro pins s σ H xs zs us ws Q I r rz h
  obtain ⟨a, ns, rfl, rfl, hs, hne, q⟩ := h
  obtain ⟨its, rv, hl, _⟩ := I.list hs
  have hl := hl.isList
  rw [Vals.ref1 r]
  cases rz with
  | cons r1 r2 =>
    cases r2
    cases (show _ = Value.type "int" from r1)
    have hi := rv.ints
    have hlen := hi.length
    have la : a < s.heap.objs.size := let ⟨o, e, _⟩ := hl; Heap.lt_size e
    refine PyProof.Rows.kmk_tree (args := [.ref a]) (kw := [(Str.ofString "key", .type "int")]) PySem.F.kind_max PySem.F.plain_max PySem.F.entry_max (PyProof.Rows.kmk_max_key _ _) ?_
    refine (show wpAny _ X.A.in1 (Builtin.Builtins.bindParams "max" ["key", "default"] 0 ⟨[], [(Str.ofString "key", .type "int")]⟩ >>= _) _ _ s from wpAny_bind (wpAny_of_eq (bind_key _) (wpAny_bind (wpAny_pure (wpAny_bind (wpAny_pyIter_list hl (wpAny_bind (wpAny_newList ?_ (Nat.zero_le _)))))))))
    rw [show (toString "max" ++ toString ".loop" : String) = "max.loop" by decide]
    have sz : (s.heap.push { cls := .type "list_iterator", data := .fields #[.ref a, .int 0 0] }).objs.size = s.heap.objs.size + 1 := size_push' ..
    have eI : ((s.heap.push { cls := .type "list_iterator", data := .fields #[.ref a, .int 0 0] }).push (seqObj "list" #[] 0)).get? s.heap.objs.size = some { cls := .type "list_iterator", data := .fields #[.ref a, .int 0 0] } := Heap.get?_push_of_some _ (Heap.get?_push_size _ rfl)
    have W : Walks X.prog X.w X.A.in1 s.heap.objs.size [s.heap.objs.size, a] [s.heap.objs.size] its.toArray.size (fun i v => its.toArray[i]? = some v) (fun i h => h.IsListIter s.heap.objs.size a i ∧ h.IsList a its.toArray) := Walks.list (A := X.A.in1) (I.ok.hd hc) s.heap.objs.size a (Nat.ne_of_lt la) its.toArray
    have st0 : ((s.heap.push { cls := .type "list_iterator", data := .fields #[.ref a, .int 0 0] }).push (seqObj "list" #[] 0)).IsListIter s.heap.objs.size a 0 ∧ ((s.heap.push { cls := .type "list_iterator", data := .fields #[.ref a, .int 0 0] }).push (seqObj "list" #[] 0)).IsList a its.toArray :=
      ⟨⟨_, eI, rfl, rfl⟩, let ⟨o, e, rest⟩ := hl; ⟨o, Heap.get?_push_of_some _ (Heap.get?_push_of_some _ e), rest⟩⟩
    refine wpAny_pure ⟨plainId_quiet (PySem.F.plain_max_loop) _, ?_⟩
    refine maxk_loop (h0 := s.heap) (ns := fun i => ns.getD i 0) W (fun i v hv => ?_) (fun z => ?_) (by rw [sz]; exact Nat.succ_ne_self _) (Heap.get?_none_of_le (Nat.le_refl _)) (Heap.get?_none_of_le (by rw [sz]; exact Nat.le_succ _)) (by rw [List.size_toArray, hlen]; exact hne)
      (fun M t h tk m1 m2 k => ?_) _ 0 none _ _ rfl (Nat.zero_le _) st0 ⟨0, Heap.get?_push_size _ rfl⟩ (fun b o e => Heap.get?_push_of_some _ (Heap.get?_push_of_some _ e)) (fun _ => rfl) (fun M e => nomatch e)
    · have hv : its[i]? = some v := by simpa using hv
      have hi' : i < its.length := (List.getElem?_eq_some_iff.mp hv).1
      have hn : ns[i]? = some ns[i] := List.getElem?_eq_getElem (by omega)
      obtain ⟨t, ht⟩ := hi.get i _ hn
      rw [ht] at hv
      cases hv
      exact ⟨t, by simp [hn]⟩
    · rw [sz] at z
      rcases List.mem_cons.mp z with z | z
      · exact Nat.succ_ne_self _ z
      · exact absurd (List.mem_singleton.mp z) (Nat.ne_of_gt (Nat.lt_succ_of_lt la))
    · obtain ⟨i, i1, rfl⟩ := m1
      rw [List.size_toArray] at i1 m2
      refine ⟨.int _, H, I.kept k, ⟨_, rfl⟩, q _ ?_ fun y hy => ?_⟩
      · have hn : ns[i]? = some ns[i] := List.getElem?_eq_getElem (by omega)
        simp only [List.getD_eq_getElem?_getD, hn, Option.getD_some]
        exact List.getElem_mem _
      · obtain ⟨j, hj, rfl⟩ := List.getElem_of_mem hy
        have z := m2 j (by omega)
        have hn : ns[j]? = some ns[j] := List.getElem?_eq_getElem hj
        simp only [List.getD_eq_getElem?_getD, hn, Option.getD_some] at z ⊢
        exact z
/-- max(a, b, key=int) of two ints -/
def rMaxKey2 : List V → List V → Hp → VK → Prop := fun xs zs H Q => ∃ i j : Int, xs = [.int i, .int j] ∧ zs = [.ty "int"] ∧ Q (.int (if j > i then j else i)) H
theorem cr_maxKey2 (hc : X.calm = true) : CallRK X (.builtin "max") [Str.ofString "key"] rMaxKey2 := by
  intro pins s σ H xs zs us ws Q I r rz h
  obtain ⟨i, j, rfl, rfl, q⟩ := h
  cases r with
  | cons r1 r2 =>
  cases r2 with
  | cons r2 r3 =>
  cases r3
  obtain ⟨t1, rfl⟩ := r1
  obtain ⟨t2, rfl⟩ := r2
  cases rz with
  | cons r4 r5 =>
    cases r5
    cases (show _ = Value.type "int" from r4)
    let tup : Obj := { cls := .type "tuple", data := .seq [Value.int i t1, .int j t2].toArray }
    let itr : Obj := { cls := .type "tuple_iterator", data := .fields #[.ref s.heap.objs.size, .int 0 0] }
    have s1 : (s.heap.push tup).objs.size = s.heap.objs.size + 1 := size_push' ..
    have s2 : ((s.heap.push tup).push itr).objs.size = s.heap.objs.size + 1 + 1 := by rw [size_push', s1]
    have hT : (s.heap.push tup).IsTuple s.heap.objs.size [Value.int i t1, .int j t2].toArray := ⟨tup, Heap.get?_push_size _ rfl, rfl, _, rfl⟩
    refine PyProof.Rows.kmk_tree (args := [.int i t1, .int j t2]) (kw := [(Str.ofString "key", .type "int")]) PySem.F.kind_max PySem.F.plain_max PySem.F.entry_max (max_key2 _ _ _) ?_
    refine (show wpAny _ X.A.in1 (Builtin.Builtins.bindParams "max" ["key", "default"] 0 ⟨[], [(Str.ofString "key", .type "int")]⟩ >>= _) _ _ s from wpAny_bind (wpAny_of_eq (bind_key _) (wpAny_bind (wpAny_newTuple (wpAny_bind (wpAny_pyIter_tuple hT (wpAny_bind (wpAny_newList ?_ (Nat.zero_le _)))))))))
    rw [show (toString "max" ++ toString ".loop" : String) = "max.loop" by decide]
    have W : Walks X.prog X.w X.A.in1 (s.heap.push tup).objs.size [(s.heap.push tup).objs.size, s.heap.objs.size] [(s.heap.push tup).objs.size] [Value.int i t1, .int j t2].toArray.size (fun k v => [Value.int i t1, .int j t2].toArray[k]? = some v) (fun k h => h.IsTupleIter (s.heap.push tup).objs.size s.heap.objs.size k ∧ h.IsTuple s.heap.objs.size [Value.int i t1, .int j t2].toArray) :=
      Walks.tuple (A := X.A.in1) (I.ok.hd hc) (s.heap.push tup).objs.size s.heap.objs.size (by rw [s1]; exact Nat.ne_of_lt (Nat.lt_succ_self _)) _
    refine wpAny_pure ⟨plainId_quiet (PySem.F.plain_max_loop) _, ?_⟩
    refine maxk_loop (h0 := s.heap) (ns := fun k => if k = 0 then i else j) W (fun k v hv => ?_) (fun z => ?_) (by show ((s.heap.push tup).push itr).objs.size ≠ _; rw [s2, s1]; exact Nat.succ_ne_self _) (Heap.get?_none_of_le (by rw [s1]; exact Nat.le_succ _)) (Heap.get?_none_of_le (by show _ ≤ ((s.heap.push tup).push itr).objs.size; rw [s2]; exact Nat.le_add_right _ 2)) (show 0 < 2 by decide)
      (fun M t h tk m1 m2 k => ?_) _ 0 none _ _ rfl (Nat.zero_le _) ⟨⟨itr, Heap.get?_push_of_some _ (Heap.get?_push_size _ rfl), rfl, rfl⟩, ⟨tup, Heap.get?_push_of_some _ (Heap.get?_push_of_some _ (Heap.get?_push_size _ rfl)), rfl, _, rfl⟩⟩ ⟨0, Heap.get?_push_size _ rfl⟩
      (fun b o e => Heap.get?_push_of_some _ (Heap.get?_push_of_some _ (Heap.get?_push_of_some _ e))) (fun _ => rfl) (fun M e => nomatch e)
    · match k, hv with
      | 0, hv => exact ⟨t1, by cases hv; rfl⟩
      | 1, hv => exact ⟨t2, by cases hv; rfl⟩
      | k + 2, hv => simp at hv
    · have z : ((s.heap.push tup).push itr).objs.size ∈ [(s.heap.push tup).objs.size, s.heap.objs.size] := z
      rw [s2, s1] at z
      rcases List.mem_cons.mp z with z | z
      · exact Nat.succ_ne_self _ z
      · exact absurd (List.mem_singleton.mp z) (Nat.ne_of_gt (Nat.lt_succ_of_lt (Nat.lt_succ_self _)))
    · obtain ⟨k0, k1, rfl⟩ := m1
      have a0 := m2 0 (show 0 < 2 by decide)
      have a1 := m2 1 (show 1 < 2 by decide)
      refine ⟨.int _, H, I.kept k, ⟨_, rfl⟩, ?_⟩
      rw [if_pos rfl] at a0
      rw [if_neg (by decide)] at a1
      have e : (if k0 = 0 then i else j) = if j > i then j else i := by
        have : k0 = 0 ∨ k0 = 1 := by
          have : k0 < 2 := k1
          omega
        rcases this with rfl | rfl
        · rw [if_pos rfl] at a1 ⊢
          rw [if_neg (by omega)]
        · rw [if_neg (by decide)] at a0 ⊢
          split <;> omega
      rw [e]
      exact q
end
end Hg
end L2
end

section
set_option Elab.async false
set_option linter.all false
set_option maxRecDepth 100000
set_option maxHeartbeats 4000000
/-! Classmethods by place and by name; a class called by a local name. -/
namespace L2
namespace Hg
open PySem PySem.Spec PyProof.Rows
theorem fn_in {K : PySem.W.Frag} {f : Addr} {oc : Value} {od : Option Addr} {fd : FuncData} {sl : Array (Option Value)} (h : K.lookup f = some ⟨oc, od, .func fd, sl⟩) : PySem.W.fnIn K f = true := by
  show (match K.lookup f with | some ⟨_, _, .func _, _⟩ => true | _ => false) = true
  rw [h]
structure CmAt (K : PySem.W.Frag) (C : Addr) (m q : Str) (st : Stmt) : Prop where
  ex : ∃ (mc : Value) (p g : Addr) (fd : FuncData), ClX.CRead K C mc ∧ ClX.CMet K C mc m p g ∧ Fun K m q st g fd
def CmOk (P : Program) (w : World) (K : PySem.W.Frag) (mg : Str → Option Value) (base : Heap) (CX : CXT) (k : Nat) (C : Addr) (m q : Str) (st : Stmt) (ps : List Str) (sp : Sp) : Prop :=
  ∃ (mc : Value) (p g : Addr) (fd : FuncData), ClX.CRead K C mc ∧ ClX.CMet K C mc m p g ∧ Fun K m q st g fd ∧ FnOk P w K mg base CX k g fd ps sp ∧ Binds K fd ps []
section
variable {P : Program} {w : World} {K : PySem.W.Frag} {mg : Str → Option Value} {base : Heap} {k : Nat} {m q : Str} {st : Stmt} {C : Addr} {N ps : List Str} {sp : Sp}
theorem CmAt.ok (F : CmAt K C m q st) (S : FnScope N ps (defScope st)) (hb : BindsAs st m q ps) (len : ∀ vs H Q E, sp vs H Q E → vs.length = ps.length)
    (hbody : ∀ (f : Addr) (cdv : Value) (A : Around) (outer : List Env) (s : Shared) (H : Hp) (vs : List V) (Q : VK) (E : XK), Room k (A.deeper (envOfC q (defScope st) s.heap.objs.size f cdv)) → sp vs H Q E →
      ∃ t, PSs (cxOf CX0 P w K mg base N q (defScope st) f cdv A outer s H E).nox (defBody st) t ∧ t { nx := fun _ H' => Q .non H', rt := Q } (start N vs) H) : CmOk P w K mg base CX0 (k + 1) C m q st ps sp := by
  obtain ⟨mc, p, f, fd, r, c, F1⟩ := F.ex
  exact ⟨mc, p, f, fd, r, c, F1, F1.ok S len fun cdv A outer s H vs Q E hr h => hbody f cdv A outer s H vs Q E hr h, F1.binds hb⟩
theorem CmAt.okX (F : CmAt K C m q st) (S : FnScope N ps (defScope st)) (hb : BindsAs st m q ps) (len : ∀ vs H Q E, sp vs H Q E → vs.length = ps.length)
    (hbody : ∀ (f : Addr) (cdv : Value) (A : Around) (outer : List Env) (s : Shared) (H : Hp) (vs : List V) (Q : VK) (E : XK), Room k (A.deeper (envOfC q (defScope st) s.heap.objs.size f cdv)) → sp vs H Q E →
      ∃ t, PSs (cxOf (L2.CX P w) P w K mg base N q (defScope st) f cdv A outer s H E) (defBody st) t ∧ t { nx := fun _ H' => Q .non H', rt := Q } (start N vs) H) : CmOk P w K mg base (L2.CX P w) (k + 1) C m q st ps sp := by
  obtain ⟨mc, p, f, fd, r, c, F1⟩ := F.ex
  exact ⟨mc, p, f, fd, r, c, F1, F1.okX S len fun cdv A outer s H vs Q E hr h => hbody f cdv A outer s H vs Q E hr h, F1.binds hb⟩
/-- keywords alone, behind n values by place -/
theorem Fun.kb {f : Addr} {fd : FuncData} (F : Fun K m q st f fd) (n : Nat) (ks : List Str)
    (h : ∀ (kV doc pm : Value) (an : Option Addr) (cdv ct : Value) (us ws : List Value), us.length = n → ws.length = ks.length → bindArgs (PySem.W.fnOf m q (defArgs st) (defBody st) (defScope st) .none kV doc pm an cdv ct) ⟨us, ks.zip ws⟩ = pure (ps.zip (us ++ ws))) :
    KBn K fd ps n ks (fun us ws => us ++ ws) (fun vs zs => vs ++ zs) := by
  obtain ⟨oc, od, kV, doc, pm, an, cdv, ct, osl, rfl, lk, hcd⟩ := F.ex
  exact ⟨fun s us ws X l1 l2 => BindsTo.of_looks fun M => PySem.W.Looks.of_pure (h kV doc pm an cdv ct us ws l1 l2), fun r z => r.append z⟩
end
section
variable {X : Cx} {CX : CXT} {k : Nat} {C : Addr} {m q : Str} {st : Stmt} {ps : List Str} {sp : Sp} {E : XK} {o e : Expr} {es : List Expr} {kws : List Keyword} {pos apos p : Pos} {ta : TE} {t tk : TA} {pl : Sem Bool}
/-- C.m(e, ..) -/
def tCm (C : Addr) (sp : Sp) (E : XK) (ta : TE) (t : TA) : TE := fun σ H Q => ta σ H fun x H1 => x = .ref C ∧ t σ H1 fun vs H2 => sp (.ref C :: vs) H2 Q E
theorem pe_cm (F : CmOk X.prog X.w X.K X.mg X.base CX k C m q st ps sp) (hr : Room k X.A) (hx : Passes CX X E) (he : PE X o ta) (ha : PA X (e :: es) t)
    (hst : starEach (e :: es) X.env = (false, eval e X.env) :: starEach es X.env := by rfl) (hpl : (backTo pos (starEach es X.env)).any (·.1) = false := by rfl)
    (ht : eval (.Call (.Attribute o m apos) (e :: es) [] pos) X.env = (do
      let ov ← eval o X.env
      standAt apos.atName
      let (f, first) ← holding [ov] (getMethod ov m pl)
      callWith pos f first (backTo pos (starEach (e :: es) X.env)) (backToKw pos (keywordEach [] X.env))) := by rfl) :
    PE X (.Call (.Attribute o m apos) (e :: es) [] pos) (tCm C sp E ta t) := by
  obtain ⟨mc, pp, g, fd, r, c, F1, G, hb⟩ := F
  have R : FnR X.prog X.w X.K X.mg X.base CX k g sp := (G.raw hb .nil).imp fun vs H Q E h => by rw [List.append_nil]; exact h
  exact ClX.pe_cmeth he r c R hr hx ha hst hpl ht
/-- C.m() -/
theorem pe_cm0 (F : CmOk X.prog X.w X.K X.mg X.base CX k C m q st ps sp) (hr : Room k X.A) (hx : Passes CX X E) (he : PE X o ta)
    (ht : eval (.Call (.Attribute o m apos) [] [] pos) X.env = (do
      let ov ← eval o X.env
      standAt apos.atName
      let (f, first) ← holding [ov] (getMethod ov m pl)
      callWith pos f first (backTo pos (starEach [] X.env)) (backToKw pos (keywordEach [] X.env))) := by rfl) :
    PE X (.Call (.Attribute o m apos) [] [] pos) (tCm C sp E ta tNil) := by
  obtain ⟨mc, pp, g, fd, r, c, F1, G, hb⟩ := F
  have R : FnR X.prog X.w X.K X.mg X.base CX k g sp := (G.raw hb .nil).imp fun vs H Q E h => by rw [List.append_nil]; exact h
  refine ⟨fun pins s σ H Q I h => PySem.W.methodCall_KW (pl := pl) (thn (he.run pins s σ H _ I h) fun u s1 ⟨x, H1, I1, rx, ex, q⟩ => ?_) ht⟩
  subst ex
  obtain rfl : u = Value.ref C := rx
  refine ClX.getmethcm_ok I1 r c fun s2 I2 => ?_
  refine PySem.W.callWith_M0 (K := X.K) (g := g) (self := .ref C) ⟨ClX.pin_at I2, I2.kIn⟩ c.fi ?_
  exact ClX.run_cm R hr hx I2 .nil q
/-- C.m(k = e, ..) -/
theorem pe_cmK {ks : List Str} (F : CmOk X.prog X.w X.K X.mg X.base CX k C m q st ps sp) (hr : Room k X.A) (hx : Passes CX X E) (he : PE X o ta) (hkw : PK X kws tk)
    (hb : ∀ (kV doc pm : Value) (an : Option Addr) (cdv ct : Value) (us ws : List Value), us.length = 1 → ws.length = ks.length → bindArgs (PySem.W.fnOf m q (defArgs st) (defBody st) (defScope st) .none kV doc pm an cdv ct) ⟨us, ks.zip ws⟩ = pure (ps.zip (us ++ ws)))
    (hall : (backToKw pos (keywordEach kws X.env)).all (·.1.isSome) = true := by rfl) (hks : (backToKw pos (keywordEach kws X.env)).filterMap (·.1) = ks := by rfl)
    (hpl : ((backTo pos (starEach [] X.env)).any (·.1) || (backToKw pos (keywordEach kws X.env)).any (·.1.isNone)) = false := by rfl)
    (ht : eval (.Call (.Attribute o m apos) [] kws pos) X.env = (do
      let ov ← eval o X.env
      standAt apos.atName
      let (f, first) ← holding [ov] (getMethod ov m pl)
      callWith pos f first (backTo pos (starEach [] X.env)) (backToKw pos (keywordEach kws X.env))) := by rfl) :
    PE X (.Call (.Attribute o m apos) [] kws pos) (tCm C sp E ta fun σ H QL => tk σ H fun vs H2 => vs.length = ks.length ∧ QL vs H2) := by
  obtain ⟨mc, pp, g, fd, r, c, F1, G, _⟩ := F
  have KB := Fun.kb (ps := ps) F1 1 ks hb
  refine ⟨fun pins s σ H Q I h => PySem.W.methodCall_KW (pl := pl) (thn (he.run pins s σ H _ I h) fun u s1 ⟨x, H1, I1, rx, ex, q⟩ => ?_) ht⟩
  subst ex
  obtain rfl : u = Value.ref C := rx
  refine ClX.getmethcm_ok I1 r c fun s2 I2 => ?_
  refine PySem.W.callWith_of (P := PySem.W.MethP X.K s1.heap.objs.size g (.ref C)) hpl (PySem.W.keeps_M c.fi) (evalArgs_kw2_nil hall (thn (hkw.run pos _ s2 σ H1 _ I2 q) fun ws s3 ⟨zs, H2, I3, rz, lz, q2⟩ => ⟨⟨ClX.pin_at I3, I3.kIn⟩, ?_⟩))
  rw [hks]
  have z : wpAny (model X.prog X.w) X.A (call (.ref s1.heap.objs.size) [] (ks.zip ws)) (EP X ((s1.heap.objs.size, PySem.W.methodObj (.ref g) (.ref C)) :: pins) σ Q) X.xe s3 := by
    refine wpAny_call (PySem.W.method_call (ClX.pin_at I3) (codeAny_mono (G.run X.A X.stack s3 H2 ⟨[.ref C], ks.zip ws⟩ ([Value.ref C] ++ ws) ([V.ref C] ++ zs) Q E hr I3.env0 (KB.to s3 [.ref C] ws I3.kIn rfl (rz.length.symm.trans lz)) (KB.rel (.cons (show RelV (.ref C) (.ref C) from rfl) .nil) rz) q2) fun r s' hq => ?_))
    cases r with
    | error e => exact hx _ σ H2 s3 e s' I3 hq
    | ok fl =>
      cases fl with
      | ret u => exact I3.after hq
      | next => exact False.elim hq
      | brk => exact False.elim hq
      | cont => exact False.elim hq
  exact thn z fun _ _ y => ClX.unpinE y
/-- C.m(e, ..) where what is raised is wished at the slots -/
def tCmS (C : Addr) (sp : Sp) (ES : St → XK) (ta : TE) (t : TA) : TE := fun σ H Q => ta σ H fun x H1 => x = .ref C ∧ t σ H1 fun vs H2 => sp (.ref C :: vs) H2 Q (ES σ)
theorem pe_cmS {ES : St → XK} (F : CmOk X.prog X.w X.K X.mg X.base CX k C m q st ps sp) (hr : Room k X.A) (hx : ∀ σ, PassesAt CX X σ (ES σ)) (he : PE X o ta) (ha : PA X (e :: es) t)
    (hst : starEach (e :: es) X.env = (false, eval e X.env) :: starEach es X.env := by rfl) (hpl : (backTo pos (starEach es X.env)).any (·.1) = false := by rfl)
    (ht : eval (.Call (.Attribute o m apos) (e :: es) [] pos) X.env = (do
      let ov ← eval o X.env
      standAt apos.atName
      let (f, first) ← holding [ov] (getMethod ov m pl)
      callWith pos f first (backTo pos (starEach (e :: es) X.env)) (backToKw pos (keywordEach [] X.env))) := by rfl) :
    PE X (.Call (.Attribute o m apos) (e :: es) [] pos) (tCmS C sp ES ta t) := by
  obtain ⟨mc, pp, g, fd, r, c, F1, G, hb⟩ := F
  refine ⟨fun pins s σ H Q I h => PySem.W.methodCall_KW (pl := pl) (thn (he.run pins s σ H _ I h) fun u s1 ⟨x, H1, I1, rx, ex, q⟩ => ?_) ht⟩
  subst ex
  obtain rfl : u = Value.ref C := rx
  refine ClX.getmethcm_ok I1 r c fun s2 I2 => ?_
  refine ClX.callwith_cm I2 (ClX.base_none I1 (Nat.le_refl _)) c.fi (thn (ha.run pos _ s2 σ H1 _ I2 q) fun us s3 ⟨vs, H2, I3, rv, q2⟩ => ⟨⟨ClX.pin_at I3, I3.kIn⟩, ?_⟩) hst hpl
  have q3 : sp (V.ref C :: (vs ++ [])) H2 Q (ES σ) := by rw [List.append_nil]; exact q2
  have vals : Vals (V.ref C :: (vs ++ [])) (Value.ref C :: (us ++ [])) := .cons (show RelV (.ref C) (.ref C) from rfl) (rv.append .nil)
  have hl : ((Value.ref C :: us) ++ []).length = ps.length := by
    have z := vals.length
    rw [G.len _ _ _ _ q3] at z
    exact z.symm
  have hbb : BindsTo s3 fd ⟨.ref C :: us, []⟩ (ps.zip (Value.ref C :: (us ++ []))) := by
    have y := hb s3 (.ref C :: us) I3.kIn hl
    rwa [List.cons_append] at y
  have z : wpAny (model X.prog X.w) X.A (call (.ref s1.heap.objs.size) us) (EP X ((s1.heap.objs.size, PySem.W.methodObj (.ref g) (.ref C)) :: pins) σ Q) X.xe s3 := by
    refine wpAny_call (PySem.W.method_call (ClX.pin_at I3) (codeAny_mono (G.run X.A X.stack s3 H2 ⟨.ref C :: us, []⟩ (Value.ref C :: (us ++ [])) (V.ref C :: (vs ++ [])) Q (ES σ) hr I3.env0 hbb vals q3) fun r s' hq => ?_))
    cases r with
    | error e => exact hx σ _ H2 s3 e s' I3 hq
    | ok fl =>
      cases fl with
      | ret u => exact I3.after hq
      | next => exact False.elim hq
      | brk => exact False.elim hq
      | cont => exact False.elim hq
  exact thn z fun _ _ y => ClX.unpinE y
variable {σ : St} {H : Hp} {Q : VK} {QL : List V → Hp → Prop}
theorem r_cmS {ES : St → XK} (k : ta σ H fun x H1 => x = .ref C ∧ t σ H1 fun vs H2 => sp (.ref C :: vs) H2 Q (ES σ)) : tCmS C sp ES ta t σ H Q := k
theorem r_cm (k : ta σ H fun x H1 => x = .ref C ∧ t σ H1 fun vs H2 => sp (.ref C :: vs) H2 Q E) : tCm C sp E ta t σ H Q := k
theorem r_isC {R : Prop} (k : R) : V.ref C = .ref C ∧ R := ⟨rfl, k⟩
/-! ### isinstance of a caught error, of several classes -/
def rIsGT (K : PySem.W.Frag) (a : Addr) (cls : Value) (d : Option Addr) : List V → Hp → VK → Prop := fun xs H Q => ∃ (D tp : Addr) (cs : List V) (ws : List Value) (b : Bool), cls = .ref D ∧ d = none ∧ ExcC K D ∧ xs = [.ref a, .ref tp] ∧ H tp = some (.tup cs) ∧
  Paired ClsV cs ws ∧ PySem.W.kitAny K (.ref D) ws = some b ∧ Q (.bl b) H
theorem c_isGT {X : Cx} {a : Addr} {cls : Value} {d : Option Addr} {oe : Obj} {pn : List (Addr × Obj)} (K : PySem.W.Frag) (hz : Zc cls d oe) (hf : ∃ vs, oe.data = .fields vs) (hK : X.K = K := by rfl) :
    CallR (X.suite a ((a, oe) :: pn)) (.builtin "isinstance") (rIsGT K a cls d) := by
  subst hK
  intro pins s σ H xs us Q I r h
  obtain ⟨D, tp, cs, ws, b, rfl, rfl, C, rfl, hT, k, e, q⟩ := h
  obtain ⟨u1, u2, rfl, r1, r2⟩ := vals2 r
  cases (show u2 = Value.ref tp from r2)
  cases (show u1 = Value.ref a from r1)
  obtain ⟨hget, _⟩ := I.pin (a, oe) (List.mem_append.mpr (.inl List.mem_cons_self))
  obtain ⟨vs, hv⟩ := hf
  have J : PySem.W.InstAt s.heap a oe D none := by
    obtain ⟨oc, od, oda, osl⟩ := oe
    obtain ⟨h1, h2⟩ := hz
    dsimp only at h1 h2 hv
    subst h1 h2 hv
    exact ⟨hget, rfl, rfl, trivial⟩
  obtain ⟨_, its, rv, o, h1, h2, n, h3⟩ := (show ObjOk X.prog X.w H s.heap tp (.tup cs) from I.hok tp _ hT)
  have e3 := ClsV.all k rv
  subst e3
  obtain ⟨oc, od, dt, sl⟩ := o
  simp only at h2 h3
  subst h2 h3
  exact PySem.W.kia_tup (PySem.W.handS_kitx_exc C.hg C.hk C.hs C.hd C.ha C.hn C.ht C.hm) I.kIn J h1 e (fun z => nomatch z) fun tk => ⟨.bl b, H, I.kept (t' := tk) fun _ _ z => z, rfl, q⟩
/-! ### a class held by a local name -/
def tMakeL (i : Nat) (C : Addr) (sp : Sp) (dvs : List V) (E : XK) (t : TA) : TE := fun σ H Q => σ[i]? = some (some (.ref C)) ∧ tMakeS C sp dvs (fun _ => E) t σ H Q
theorem pe_makeL {i : Nat} {x y : Str} {dvs : List V} (F : MakeOk X.prog X.w X.K X.mg X.base CX k x C ps dvs sp) (hr : Room (k + 1) X.A) (hx : Passes CX X E) (hN : X.N[i]? = some y) (hv : Vis X.env.scope y) (ha : PA X (e :: es) t)
    (hdb : (y == ("__debug__" : Str)) = false := by decide) (hcd : (y == ("__classdict__" : Str)) = false := by decide)
    (he : starEach (e :: es) X.env = (false, eval e X.env) :: starEach es X.env := by rfl) (hpl : (backTo pos (starEach es X.env)).any (·.1) = false := by rfl) : PE X (.Call (.Name y p) (e :: es) [] pos) (tMakeL i C sp dvs E t) := by
  obtain ⟨hm, _, _, _, M, G, hb, hd⟩ := F
  refine ⟨fun pins s σ H Q I h => ?_⟩
  obtain ⟨hs, h⟩ := h
  refine wpAny_Call_Name_kw (thn ((pe_var (pos := p) hN hv hdb hcd).run pins s σ H (fun v H1 => v = .ref C ∧ H1 = H) I ⟨.ref C, hs, rfl, rfl⟩) fun u s1 ⟨v, H1, I1, r1, q1⟩ => ?_)
  obtain ⟨rfl, rfl⟩ := q1
  cases r1
  exact PySem.W.callWith_K (h₀ := X.base) I.ok.mod.kin M.kp (thn (ha.run pos pins s1 σ _ _ I1 h) fun us s2 ⟨vs, H2, I2, r, q⟩ => ⟨I2.kIn, run_makeS (E := fun _ => E) M G hr hb hd (fun pins H s e s' => hx pins σ H s e s') I2 r q⟩) he hpl
theorem r_makeL {i : Nat} {dvs : List V} (hs : σ[i]? = some (some (.ref C))) (k : tMakeS C sp dvs (fun _ => E) t σ H Q) : tMakeL i C sp dvs E t σ H Q := ⟨hs, k⟩
/-! ### xs[::-1], keywords of built-ins -/
theorem pe_revK {te : TE} {kk : Nat} {p1 p2 p3 : Pos} (K' : PySem.W.Frag) (he : PE X e te) (hK : X.K = K' := by rfl) : PE X (.Subscript e (.Slice none none (some (.UnaryOp .USub (.Constant (.int 1) kk p1) p2)) p3) pos) (tRevL K' te) := hK ▸ pe_revL he
theorem r_revL {K : PySem.W.Frag} {te : TE} (k : te σ H fun x H1 => ∃ a xs, x = .ref a ∧ SqL K H1 a xs ∧ ∀ p, H1 p = none → Q (.ref p) (upd H1 p (.lst xs.reverse))) : tRevL K te σ H Q := k
theorem r_rev {K : PySem.W.Frag} {a : Addr} {xs : List V} {R : Addr → List V → Prop} (h : SqL K H a xs) (k : R a xs) : ∃ a' xs', V.ref a = .ref a' ∧ SqL K H a' xs' ∧ R a' xs' := ⟨a, xs, rfl, h, k⟩
theorem r_iStr {te : TE} {R : It → Hp → Prop} (k : te σ H fun v H1 => ∃ x, v = .str x ∧ R (Its x) H1) : iStr te σ H R := k
theorem r_ckw {r : List V → List V → Hp → VK → Prop} (k : t σ H fun vs H1 => tk σ H1 fun zs H2 => r vs zs H2 Q) : tCKw r t tk σ H Q := k
theorem r_maxK {K : PySem.W.Frag} {a : Addr} {ns : List Int} (h : SqL K H a (ns.map V.int)) (ne : 0 < ns.length) (k : ∀ m, m ∈ ns → (∀ y, y ∈ ns → y ≤ m) → Q (.int m) H) : rMaxKey K [.ref a] [.ty "int"] H Q := ⟨a, ns, rfl, rfl, h, ne, k⟩
theorem r_maxK2 {i j : Int} (k : Q (.int (if j > i then j else i)) H) : rMaxKey2 [.int i, .int j] [.ty "int"] H Q := ⟨i, j, rfl, rfl, k⟩
end
end Hg
end L2
end

section
set_option Elab.async false
set_option linter.all false
set_option maxRecDepth 100000
set_option maxHeartbeats 4000000
/-! Own operators with ints on either side, own operators in place. -/
namespace L2
namespace Hg
open PySem PySem.Spec PyProof.Rows

/-- no class along C's line has an own `__iNAME__` -/
def noIp (K : PySem.W.Frag) (C : Addr) (nm : String) : Bool := match PySem.W.clsIn K C with
  | some cd => cd.mro.all fun c => match PySem.W.findIn K c (PySem.dunderI nm) with | some none => true | _ => false
  | none => false
section
variable {M : Model} {K : PySem.W.Frag} {C : Addr} {nm : String}
theorem anyM_no {h : Heap} (X : K.In h) {add : Bool} : ∀ {l : List Value}, (l.all fun c => match PySem.W.findIn K c (PySem.dunderI nm) with | some none => true | _ => false) = true → PySem.W.Looks M h (l.anyM fun c => do
    let some x ← typeLookup c (PySem.dunderI nm) | return false
    if let .type _ := c then return !isSeqSlot (some x)
    if !ownNameWrapper x (PySem.dunderI nm) then return true
    if !(← inheritsSeqSlot c (PySem.dunderI nm)) then return true
    if add then return (← seqSlot? c (PySem.dunderI nm)).isSome
    return false) false
  | [], _ => .now
  | c :: r, e => by
    obtain ⟨a, b⟩ := Bool.and_eq_true_iff.mp (List.all_cons ▸ e)
    have hf : PySem.W.findIn K c (PySem.dunderI nm) = some none := by
      split at a
      · assumption
      · cases a
    rw [List.anyM_cons]
    exact ((PySem.W.looks_findIn X hf).andThen (b := false) .now).andThen (anyM_no X b)
theorem looks_noIp {h : Heap} (X : K.In h) (e : noIp K C nm = true) (add : Bool) : PySem.W.Looks M h (fillsInplaceSlot (.ref C) nm add) false := by
  unfold noIp at e
  split at e
  · rename_i cd hc
    have Lm : PySem.W.Looks M h (mroOf (.ref C)) cd.mro := (PySem.W.looks_clsIn X hc).andThen (f := fun cd => pure cd.mro) .now
    unfold fillsInplaceSlot
    exact Lm.andThen (anyM_no X e)
  · cases e
end
section
variable {prog : Program} {w : World} {A : Around} {E : Value → Shared → Prop} {s : Shared} {K : PySem.W.Frag} {x C L f : Addr} {h₀ : Heap} {m : Str → Option Value} {ox : Obj} {od : Option Obj}
open PySem.W PySem.Calls
/-- own op= own falls to the class's `__NAME__` -/
theorem ipop_K {op : Operator} {b : Value} {Q : Value → Shared → Prop} (F : Fr h₀ L s.heap m) (X₀ : K.In h₀) (I : InstAt s.heap x ox C od) (hb : Looks (model prog w) s.heap (typeOf b) (.ref C)) (hc : selfFirst K C = true) (hi : noIp K C op.info.2 = true)
    (hs : findIn K (.ref C) (PySem.dunder op.info.2) = some (some (.ref f))) (hf : isFn K (.ref f) = true)
    (h : wpAny (model prog w) A (call (.ref f) [.ref x, b]) (PySem.W.CmpBack Q) E s) : wpAny (model prog w) A (inplaceOp op (.ref x) b) Q E s := by
  have X := X₀.keeps F.keep
  obtain ⟨cd, rest, hcd, hm⟩ := ksp_first hc
  have one := ksp_try X I hs hf h
  unfold inplaceOp
  refine wpAny_holding (wpAny_bind (I.type.here (wpAny_bind ((looks_noIp X hi _).here ?_))))
  simp only [Bool.false_eq_true, if_false]
  refine wpAny_bind ?_
  unfold binaryOp1
  refine wpAny_bind (I.type.here (wpAny_bind (hb.here (wpAny_bind ((fills_K X hcd hm hs).here ?_)))))
  simp only [beq_self_eq_true, if_true]
  refine wpAny_bind (wpAny_pure ?_)
  simp only [Bool.and_false, Bool.false_eq_true, if_false, Bool.false_and]
  refine wpAny_bind (wpAny_pure ?_)
  simp only [Bool.false_eq_true, if_false]
  refine wpAny_bind (wpAny_mono one (fun r s' hr' => ?_) fun _ _ e => e)
  obtain ⟨v, rfl, hq⟩ := hr'
  exact wpAny_pure (wpAny_pure hq)
theorem bin1T {nm : String} {T : String} {b : Value} {fo ro rc : Option Value} {Q : Value → Shared → Prop} (X : K.In s.heap) (I : InstAt s.heap x ox C od) (hb : typeOf b = pure (.type T)) (hc : selfFirst K C = true)
    (hs : findIn K (.ref C) (PySem.dunder nm) = some (some (.ref f))) (hf : isFn K (.ref f) = true) (hr : findIn K (.ref C) (dunderR nm) = some rc) (hp : rc = none ∨ ∃ g : Addr, rc = some (.ref g))
    (h1 : findIn K (.type T) (PySem.dunder nm) = some fo) (h2 : findIn K (.type T) (dunderR nm) = some ro) (hsub : subIn K (.type T) (.ref C) = some false)
    (h : wpAny (model prog w) A (call (.ref f) [.ref x, b]) (PySem.W.CmpBack Q) E s) : wpAny (model prog w) A (binaryOp1 nm (.ref x) b) (fun r s' => ∃ v, r = some v ∧ Q v s') E s := by
  obtain ⟨cd, rest, hcd, hm⟩ := ksp_first hc
  have one := ksp_try X I hs hf h
  obtain ⟨hh, g, d, tk, os⟩ := s
  have L1 : Looks (model prog w) hh (typeOf (.ref x)) (.ref C) := I.type
  have L2 : Looks (model prog w) hh (typeOf b) (.type T) := Looks.of_pure hb
  have L3 : Looks (model prog w) hh (fillsNumberSlot (.ref C) nm) true := fills_K X hcd hm hs
  have L4 : Looks (model prog w) hh (fillsNumberSlot (.type T) nm) ((fo.isSome && !isSeqSlot fo) || (ro.isSome && !isSeqSlot ro)) := ksp_fillsT X h1 h2
  have L5 : Looks (model prog w) hh (isSubtype (.type T) (.ref C)) false := looks_subIn X hsub
  have L6 : Looks (model prog w) hh (numberSlotInPython (.ref C) nm) true := ksp_inPy X hs hr hp
  have L7 : Looks (model prog w) hh (numberSlotInPython (.type T) nm) false := Looks.of_pure rfl
  have L8 : Looks (model prog w) hh (typeLookup (.type T) (dunderR nm)) ro := looks_findIn X h2
  generalize ((fo.isSome && !isSeqSlot fo) || (ro.isSome && !isSeqSlot ro)) = right at L4
  have hne : (Value.ref C == Value.type T) = false := Bool.eq_false_iff.mpr fun q => by cases beq_iff_eq.mp q
  unfold binaryOp1
  refine wpAny_bind (L1.at (wpAny_bind (L2.at (wpAny_bind (L3.at ?_)))))
  simp only [hne, Bool.false_eq_true, if_false]
  cases right with
  | false =>
    ksp_lk
    refine wpAny_mono one (fun r s' hr' => ?_) fun _ _ e => e
    obtain ⟨v, rfl, hq⟩ := hr'
    ksp_lk
    exact ⟨_, rfl, hq⟩
  | true =>
    ksp_lk
    refine wpAny_mono one (fun r s' hr' => ?_) fun _ _ e => e
    obtain ⟨v, rfl, hq⟩ := hr'
    ksp_lk
    exact ⟨_, rfl, hq⟩
/-- own op= int falls to the class's `__NAME__` -/
theorem ipopT_K {op : Operator} {T : String} {b : Value} {fo ro rc : Option Value} {Q : Value → Shared → Prop} (F : Fr h₀ L s.heap m) (X₀ : K.In h₀) (I : InstAt s.heap x ox C od) (hb : typeOf b = pure (.type T)) (hc : selfFirst K C = true) (hi : noIp K C op.info.2 = true)
    (hs : findIn K (.ref C) (PySem.dunder op.info.2) = some (some (.ref f))) (hf : isFn K (.ref f) = true) (hr : findIn K (.ref C) (dunderR op.info.2) = some rc) (hp : rc = none ∨ ∃ g : Addr, rc = some (.ref g))
    (h1 : findIn K (.type T) (PySem.dunder op.info.2) = some fo) (h2 : findIn K (.type T) (dunderR op.info.2) = some ro) (hsub : subIn K (.type T) (.ref C) = some false)
    (h : wpAny (model prog w) A (call (.ref f) [.ref x, b]) (PySem.W.CmpBack Q) E s) : wpAny (model prog w) A (inplaceOp op (.ref x) b) Q E s := by
  have X := X₀.keeps F.keep
  have one := bin1T X I hb hc hs hf hr hp h1 h2 hsub h
  unfold inplaceOp
  refine wpAny_holding (wpAny_bind (I.type.here (wpAny_bind ((looks_noIp X hi _).here ?_))))
  simp only [Bool.false_eq_true, if_false]
  refine wpAny_bind (wpAny_mono one (fun r s' hr' => ?_) fun _ _ e => e)
  obtain ⟨v, rfl, hq⟩ := hr'
  exact wpAny_pure hq
/-- int op own falls to the class's `__rNAME__` -/
theorem rbin_K {op : Operator} {a : Value} {T idl : String} {g : Addr} {Q : Value → Shared → Prop} (F : Fr h₀ L s.heap m) (X₀ : K.In h₀) (I : InstAt s.heap x ox C od) (ha : s.TypeIs a T) (hc : selfFirst K C = true)
    (hs : findIn K (.ref C) (PySem.dunder op.info.2) = some (some (.ref g))) (hr : findIn K (.ref C) (dunderR op.info.2) = some (some (.ref f))) (hf : isFn K (.ref f) = true)
    (hta : typeOf a = pure (.type T)) (hfT : fillsNumberSlot (.type T) op.info.2 = pure true) (hsub : subIn K (.ref C) (.type T) = some false) (hl : Slot T (PySem.dunder op.info.2) idl)
    (hd : ∀ Q' : Value → Shared → Prop, Q' .notImplemented s → wpAny (model prog w) A (call (.builtin idl) [a, .ref x]) Q' E s)
    (h : wpAny (model prog w) A (call (.ref f) [.ref x, a]) (PySem.W.CmpBack Q) E s) : wpAny (model prog w) A (binaryOp op a (.ref x)) Q E s := by
  have X := X₀.keeps F.keep
  obtain ⟨cd, rest, hcd, hm⟩ := ksp_first hc
  rcases hi' : op.info with ⟨sym, nm'⟩
  rw [hi'] at hs hr hfT hl
  dsimp only at hs hr hfT hl
  have one := ksp_try X I hr hf h
  have two : wpAny (model prog w) A (tryMethod a (PySem.dunder nm') (.ref x)) (fun r s' => r = none ∧ wpAny (model prog w) A (tryMethod (.ref x) (dunderR nm') a) (fun r s' => ∃ v, r = some v ∧ Q v s') E s') E s :=
    wpAny_tryMethod_declines ha hl (hd _ ⟨rfl, rfl, one⟩)
  obtain ⟨hh, gg, d, tk, os⟩ := s
  have L1 : Looks (model prog w) hh (typeOf (.ref x)) (.ref C) := I.type
  have L2 : Looks (model prog w) hh (typeOf a) (.type T) := Looks.of_pure hta
  have L3 : Looks (model prog w) hh (fillsNumberSlot (.ref C) nm') true := fills_K X hcd hm hs
  have L4 : Looks (model prog w) hh (fillsNumberSlot (.type T) nm') true := Looks.of_pure hfT
  have L5 : Looks (model prog w) hh (isSubtype (.ref C) (.type T)) false := looks_subIn X hsub
  have L7 : Looks (model prog w) hh (numberSlotInPython (.type T) nm') false := Looks.of_pure rfl
  have hne : (Value.type T == Value.ref C) = false := Bool.eq_false_iff.mpr fun q => by cases beq_iff_eq.mp q
  simp only [binaryOp, hi']
  refine wpAny_holding (wpAny_bind ?_)
  unfold binaryOp1
  refine wpAny_bind (L2.at (wpAny_bind (L1.at (wpAny_bind (L4.at ?_)))))
  simp only [hne, Bool.false_eq_true, if_false]
  ksp_lk
  refine wpAny_mono two (fun r s' hr' => ?_) fun _ _ e => e
  obtain ⟨rfl, h2⟩ := hr'
  ksp_lk
  refine wpAny_mono h2 (fun r s2 hr' => ?_) fun _ _ e => e
  obtain ⟨v, rfl, hq⟩ := hr'
  ksp_lk
  exact hq
/-- int cmp own falls to the class's own reflected one -/
theorem rcmp_K {op : CmpOp} {a : Value} {T idl : String} {Q : Value → Shared → Prop} (hu : A.units < cLine) (F : Fr h₀ L s.heap m) (X₀ : K.In h₀) (I : InstAt s.heap x ox C od) (ha : s.TypeIs a T)
    (hta : typeOf a = pure (.type T)) (hr : findIn K (.ref C) (cmpInfo op).2.2 = some (some (.ref f))) (hf : isFn K (.ref f) = true) (hsub : subIn K (.ref C) (.type T) = some false) (hl : Slot T (cmpInfo op).2.1 idl)
    (hd : ∀ Q' : Value → Shared → Prop, Q' .notImplemented s → wpAny (model prog w) A (call (.builtin idl) [a, .ref x]) Q' E s)
    (h : wpAny (model prog w) A (call (.ref f) [.ref x, a]) (PySem.W.CmpBack Q) E s) : wpAny (model prog w) A (richCompare op a (.ref x)) Q E s := by
  have X := X₀.keeps F.keep
  have one : wpAny (model prog w) A (tryCompare (.ref x) (cmpInfo op).2.2 a) (fun r s' => ∃ v, r = some v ∧ Q v s') E s := by
    unfold tryCompare
    refine wpAny_bind (ifBound_K X I hr hf (wpAny_mono h (fun v s' hv => ?_) fun _ _ e => e))
    cases v <;> first | exact hv.elim | exact wpAny_pure ⟨_, rfl, hv⟩
  rcases hi : cmpInfo op with ⟨sym, fn, rn⟩
  rw [hi] at one hl
  dsimp only at one hl
  simp only [richCompare, hi, ha.oneThing_none]
  try with_reducible refine wpAny_holding ?_
  refine wpAny_bind (wpAny_cRoomFor_or (.inr hu) ?_)
  have hne : (Value.type T != Value.ref C) = true := by
    show (!(Value.type T == Value.ref C)) = true
    have : (Value.type T == Value.ref C) = false := Bool.eq_false_iff.mpr fun q => by cases beq_iff_eq.mp q
    rw [this]; rfl
  refine wpAny_bind (wpAny_of_eq hta (wpAny_bind (I.type.here ?_)))
  simp only [hne, if_true]
  refine wpAny_bind ((looks_subIn X hsub).here ?_)
  simp only [Bool.false_eq_true, if_false, Bool.not_false, if_true]
  refine wpAny_bind (m := tryCompare a _ (.ref x)) (wpAny_tryCompare_declines ha hl (hd _ ⟨rfl, ?_⟩))
  refine wpAny_bind (wpAny_mono one (fun r s' z => ?_) fun _ _ e => e)
  obtain ⟨v, rfl, hq⟩ := z
  exact wpAny_pure hq
end
/-! ### ints decline what is no int -/
section
variable {prog : Program} {w : World} {A : Around} {E : Value → Shared → Prop} {s : Shared}
theorem intB_ref {name : String} {f : Int → Int → Sem Fin} {r : Bool} {i : Int} {t : Tok} {x C dx : Addr} (hx : s.heap.get? x = some (PySem.W.instObj C dx)) {Q : Fin → Shared → Prop} (h : Q (.done (.ret .notImplemented)) s) :
    wpAny (model prog w) A (Builtin.Int.intBinary name f r ⟨[.int i t, .ref x], []⟩) Q E s := by
  unfold Builtin.Int.intBinary slotArgs Builtin.Int.intOfSelf
  refine wpAny_bind (wpAny_pure ?_)
  refine wpAny_bind (wpAny_bind (wpAny_pure (wpAny_pure ?_)))
  refine wpAny_bind (wpAny_bind (wpAny_load hx (wpAny_pure ?_)))
  exact wpAny_bind (wpAny_rule (wpAny_pure h))
theorem decl {id : String} {name : Str} {B : Builtin} {nm : String} {f : Int → Int → Sem Fin} (slot : Slot "int" name id) (entry : entryFor table id = some B) (args : ∀ a b : Value, argsOk id ⟨[a, b], []⟩) (hB : B = Builtin.Int.intBinary nm f)
    {i : Int} {t : Tok} {x C dx : Addr} (hx : s.heap.get? x = some (PySem.W.instObj C dx)) (Q : Value → Shared → Prop) (h : Q .notImplemented s) : wpAny (model prog w) A (call (.builtin id) [.int i t, .ref x]) Q E s := by
  subst hB
  exact wpAny_call_entry slot (show s.TypeIs (.int i t) "int" from rfl) entry (intB_ref hx ⟨_, rfl, h⟩) (args _ _)
end
/-- what the class asks for ints beside -/
structure IntB (K : PySem.W.Frag) (C : Addr) : Prop where
  sf : PySem.W.selfFirst K C = true
  s1 : PySem.W.subIn K (.type "int") (.ref C) = some false
  s2 : PySem.W.subIn K (.ref C) (.type "int") = some false
section
variable {X : Cx} {CX : CXT} {k : Nat} {C : Addr} {ps : List Str} {sp : Sp} {E : XK}
/-- a op i, a of the class C, i an int -/
def rOwnI (C : Addr) (sp : Sp) (E : XK) : R2 := fun x y H Q => ∃ (a dx : Addr) (fs : List (Str × V)) (i : Int), x = .ref a ∧ y = .int i ∧ H a = some (.ins C dx fs) ∧ sp [x, y] H Q E
/-- i op a -/
def rIOwn (C : Addr) (sp : Sp) (E : XK) : R2 := fun x y H Q => ∃ (a dx : Addr) (fs : List (Str × V)) (i : Int), x = .int i ∧ y = .ref a ∧ H a = some (.ins C dx fs) ∧ sp [y, x] H Q E
theorem o_ownI {op : Operator} {m : Str} {rc : Option Value} (M : MetOk X.prog X.w X.K X.mg X.base CX k C m ps sp) (B : IntB X.K C) (hrc : PySem.W.findIn X.K (.ref C) (dunderR op.info.2) = some rc) (hp : rc = none ∨ ∃ g : Addr, rc = some (.ref g)) (hr : Room k X.A) (hx : Passes CX X E)
    (hm : PySem.dunder op.info.2 = m := by rfl) (h1 : (fastLookup "int" (PySem.dunder op.info.2)).isSome = true := by decide +kernel) (h2 : (fastLookup "int" (dunderR op.info.2)).isSome = true := by decide +kernel) : OpR X (binaryOp op) (rOwnI C sp E) := by
  subst hm
  obtain ⟨fo, h1⟩ := Option.isSome_iff_exists.mp h1
  obtain ⟨ro, h2⟩ := Option.isSome_iff_exists.mp h2
  obtain ⟨_, f, fd, hM, F, hb⟩ := M
  intro pins s σ H x y v u Q I rx ry h
  obtain ⟨a, dx, fs, i, rfl, rfl, ha, q⟩ := h
  obtain rfl : v = Value.ref a := rx
  obtain ⟨t, rfl⟩ := id ry
  obtain ⟨m, Fr⟩ := I.fr
  obtain ⟨ox, od, J⟩ := ins_at I ha
  refine PySem.W.ksp_binT (T := "int") Fr I.ok.mod.kin J rfl B.sf hM.at_ hM.fn hrc hp h1 h2 B.s1 (wpAny_mono (own_call (vs := [V.ref a, V.int i]) F hb hr hx I (.cons rfl (.cons ry .nil)) q) (fun w s' hq => ?_) fun _ _ z => z)
  obtain ⟨z, H1, I1, rz, q1⟩ := hq
  exact relV_back rz ⟨z, H1, I1, rz, q1⟩
theorem o_iOwn {op : Operator} {m idl nm : String} {mr : Str} {g : Addr} {Bd : Builtin} {f0 : Int → Int → Sem Fin} (M : MetOk X.prog X.w X.K X.mg X.base CX k C mr ps sp) (B : IntB X.K C) (hs : PySem.W.findIn X.K (.ref C) (PySem.dunder op.info.2) = some (some (.ref g))) (hr : Room k X.A) (hx : Passes CX X E)
    (hfT : fillsNumberSlot (.type "int") op.info.2 = pure true) (slot : Slot "int" (PySem.dunder op.info.2) idl) (entry : entryFor table idl = some Bd) (args : ∀ a b : Value, argsOk idl ⟨[a, b], []⟩) (hB : Bd = Builtin.Int.intBinary nm f0)
    (hm : dunderR op.info.2 = mr := by rfl) : OpR X (binaryOp op) (rIOwn C sp E) := by
  subst hm
  obtain ⟨_, f, fd, hM, F, hb⟩ := M
  intro pins s σ H x y v u Q I rx ry h
  obtain ⟨a, dx, fs, i, rfl, rfl, ha, q⟩ := h
  obtain ⟨t, rfl⟩ := id rx
  obtain rfl : u = Value.ref a := ry
  obtain ⟨m, Fr⟩ := I.fr
  obtain ⟨ox, od, J⟩ := ins_at I ha
  obtain ⟨mA, O, _⟩ := ins_get I.hok ha
  refine rbin_K (T := "int") Fr I.ok.mod.kin J rfl B.sf hs hM.at_ hM.fn rfl hfT B.s2 slot (fun Q' hq => decl slot entry args hB O.obj Q' hq) (wpAny_mono (own_call (vs := [V.ref a, V.int i]) F hb hr hx I (.cons rfl (.cons rx .nil)) q) (fun w s' hq => ?_) fun _ _ z => z)
  obtain ⟨z, H1, I1, rz, q1⟩ := hq
  exact relV_back rz ⟨z, H1, I1, rz, q1⟩
theorem o_iCmp {op : CmpOp} {idl nm : String} {mr : Str} {Bd : Builtin} {f0 : Int → Int → Sem Fin} (M : MetOk X.prog X.w X.K X.mg X.base CX k C mr ps sp) (B : IntB X.K C) (hu : X.A.units < cLine) (hr : Room k X.A) (hx : Passes CX X E)
    (slot : Slot "int" (cmpInfo op).2.1 idl) (entry : entryFor table idl = some Bd) (args : ∀ a b : Value, argsOk idl ⟨[a, b], []⟩) (hB : Bd = Builtin.Int.intBinary nm f0)
    (hm : (cmpInfo op).2.2 = mr := by rfl) (hc : ∀ u v : Value, compareOp op u v = richCompare op u v := by intros; rfl) : OpR X (compareOp op) (rIOwn C sp E) := by
  subst hm
  obtain ⟨_, f, fd, hM, F, hb⟩ := M
  intro pins s σ H x y v u Q I rx ry h
  obtain ⟨a, dx, fs, i, rfl, rfl, ha, q⟩ := h
  obtain ⟨t, rfl⟩ := id rx
  obtain rfl : u = Value.ref a := ry
  obtain ⟨m, Fr⟩ := I.fr
  obtain ⟨ox, od, J⟩ := ins_at I ha
  obtain ⟨mA, O, _⟩ := ins_get I.hok ha
  rw [hc]
  refine rcmp_K (T := "int") hu Fr I.ok.mod.kin J rfl rfl hM.at_ hM.fn B.s2 slot (fun Q' hq => decl slot entry args hB O.obj Q' hq) (wpAny_mono (own_call (vs := [V.ref a, V.int i]) F hb hr hx I (.cons rfl (.cons rx .nil)) q) (fun w s' hq => ?_) fun _ _ z => z)
  obtain ⟨z, H1, I1, rz, q1⟩ := hq
  exact relV_back rz ⟨z, H1, I1, rz, q1⟩
/-- x op= y by the class's own op -/
theorem ip_own {op : Operator} {m : Str} (M : MetOk X.prog X.w X.K X.mg X.base CX k C m ps sp) (sf : PySem.W.selfFirst X.K C = true) (ni : noIp X.K C op.info.2 = true) (hr : Room k X.A) (hx : Passes CX X E) (hm : PySem.dunder op.info.2 = m := by rfl) : PIp X op (rOwn C sp E) := by
  subst hm
  obtain ⟨_, f, fd, hM, F, hb⟩ := M
  intro pins s σ H x y v u Q I rx ry h
  obtain ⟨a, dx, fs, b, dy, gs, rfl, rfl, ha, hb', q⟩ := h
  obtain rfl : v = Value.ref a := rx
  obtain rfl : u = Value.ref b := ry
  obtain ⟨m, Fr⟩ := I.fr
  obtain ⟨ox, od, J⟩ := ins_at I ha
  obtain ⟨oy, oe, J2⟩ := ins_at I hb'
  refine ipop_K Fr I.ok.mod.kin J J2.type sf ni hM.at_ hM.fn (wpAny_mono (own_call (vs := [V.ref a, V.ref b]) F hb hr hx I (.cons rfl (.cons rfl .nil)) q) (fun w s' hq => ?_) fun _ _ z => z)
  obtain ⟨z, H1, I1, rz, q1⟩ := hq
  exact relV_back rz ⟨z, H1, I1, rz, q1⟩
theorem ip_ownI {op : Operator} {m : Str} {rc : Option Value} (M : MetOk X.prog X.w X.K X.mg X.base CX k C m ps sp) (B : IntB X.K C) (ni : noIp X.K C op.info.2 = true) (hrc : PySem.W.findIn X.K (.ref C) (dunderR op.info.2) = some rc) (hp : rc = none ∨ ∃ g : Addr, rc = some (.ref g)) (hr : Room k X.A) (hx : Passes CX X E)
    (hm : PySem.dunder op.info.2 = m := by rfl) (h1 : (fastLookup "int" (PySem.dunder op.info.2)).isSome = true := by decide +kernel) (h2 : (fastLookup "int" (dunderR op.info.2)).isSome = true := by decide +kernel) : PIp X op (rOwnI C sp E) := by
  subst hm
  obtain ⟨fo, h1⟩ := Option.isSome_iff_exists.mp h1
  obtain ⟨ro, h2⟩ := Option.isSome_iff_exists.mp h2
  obtain ⟨_, f, fd, hM, F, hb⟩ := M
  intro pins s σ H x y v u Q I rx ry h
  obtain ⟨a, dx, fs, i, rfl, rfl, ha, q⟩ := h
  obtain rfl : v = Value.ref a := rx
  obtain ⟨t, rfl⟩ := id ry
  obtain ⟨m, Fr⟩ := I.fr
  obtain ⟨ox, od, J⟩ := ins_at I ha
  refine ipopT_K (T := "int") Fr I.ok.mod.kin J rfl B.sf ni hM.at_ hM.fn hrc hp h1 h2 B.s1 (wpAny_mono (own_call (vs := [V.ref a, V.int i]) F hb hr hx I (.cons rfl (.cons ry .nil)) q) (fun w s' hq => ?_) fun _ _ z => z)
  obtain ⟨z, H1, I1, rz, q1⟩ := hq
  exact relV_back rz ⟨z, H1, I1, rz, q1⟩
theorem o_ownI' {op : Operator} {m : Str} (M : MetOk X.prog X.w X.K X.mg X.base CX k C m ps sp) (B : IntB X.K C) (R : ∃ g : Addr, PySem.W.findIn X.K (.ref C) (dunderR op.info.2) = some (some (.ref g))) (hr : Room k X.A) (hx : Passes CX X E)
    (hm : PySem.dunder op.info.2 = m := by rfl) (h1 : (fastLookup "int" (PySem.dunder op.info.2)).isSome = true := by decide +kernel) (h2 : (fastLookup "int" (dunderR op.info.2)).isSome = true := by decide +kernel) : OpR X (binaryOp op) (rOwnI C sp E) :=
  let ⟨g, e⟩ := R
  o_ownI M B e (.inr ⟨g, rfl⟩) hr hx hm h1 h2
theorem o_iOwn' {op : Operator} {idl nm : String} {mr : Str} {Bd : Builtin} {f0 : Int → Int → Sem Fin} (M : MetOk X.prog X.w X.K X.mg X.base CX k C mr ps sp) (B : IntB X.K C) (hs : ∃ g : Addr, PySem.W.findIn X.K (.ref C) (PySem.dunder op.info.2) = some (some (.ref g))) (hr : Room k X.A) (hx : Passes CX X E)
    (hfT : fillsNumberSlot (.type "int") op.info.2 = pure true) (slot : Slot "int" (PySem.dunder op.info.2) idl) (entry : entryFor table idl = some Bd) (args : ∀ a b : Value, argsOk idl ⟨[a, b], []⟩) (hB : Bd = Builtin.Int.intBinary nm f0)
    (hm : dunderR op.info.2 = mr := by rfl) : OpR X (binaryOp op) (rIOwn C sp E) :=
  let ⟨g, e⟩ := hs
  o_iOwn (m := idl) M B e hr hx hfT slot entry args hB hm
theorem ip_ownI' {op : Operator} {m : Str} (M : MetOk X.prog X.w X.K X.mg X.base CX k C m ps sp) (B : IntB X.K C) (ni : noIp X.K C op.info.2 = true) (R : ∃ g : Addr, PySem.W.findIn X.K (.ref C) (dunderR op.info.2) = some (some (.ref g))) (hr : Room k X.A) (hx : Passes CX X E)
    (hm : PySem.dunder op.info.2 = m := by rfl) (h1 : (fastLookup "int" (PySem.dunder op.info.2)).isSome = true := by decide +kernel) (h2 : (fastLookup "int" (dunderR op.info.2)).isSome = true := by decide +kernel) : PIp X op (rOwnI C sp E) :=
  let ⟨g, e⟩ := R
  ip_ownI M B ni e (.inr ⟨g, rfl⟩) hr hx hm h1 h2
/-- not a as a value, a of the class C -/
def tNotO (C : Addr) (sp : Sp) (E : XK) (ta : TE) : TE := fun σ H Q => ta σ H fun x H1 => rTruOwn C sp E x H1 fun c H2 => Q (.bl (!c)) H2
theorem pe_notO {a : Expr} {ta : TE} {pos : Pos} (M : MetOk X.prog X.w X.K X.mg X.base CX k C "__bool__" ps sp) (hr : Room k X.A) (hx : Passes CX X E) (ha : PE X a ta) : PE X (.UnaryOp .Not a pos) (tNotO C sp E ta) := by
  refine ⟨fun pins s σ H Q I h => ?_⟩
  refine UnaryOp_ (thn (ha.run pins s σ H _ I h) fun v s1 ⟨x, H1, I1, r1, q1⟩ => ?_)
  exact not_of (thn (tru_own M hr hx pins s1 σ H1 x v (fun c H2 => Q (.bl (!c)) H2) I1 r1 q1) fun c s2 ⟨H2, I2, q2⟩ => ⟨.bl (!c), H2, I2, rfl, q2⟩)
theorem r_notO {ta : TE} {σ : St} {H : Hp} {Q : VK} (k : ta σ H fun x H1 => rTruOwn C sp E x H1 fun c H2 => Q (.bl (!c)) H2) : tNotO C sp E ta σ H Q := k
/-! ### read -/
theorem r_ownI {a dx : Addr} {fs : List (Str × V)} {i : Int} {H : Hp} {Q : VK} (ha : H a = some (.ins C dx fs)) (k : sp [.ref a, .int i] H Q E) : rOwnI C sp E (.ref a) (.int i) H Q := ⟨a, dx, fs, i, rfl, rfl, ha, k⟩
theorem r_iOwn {a dx : Addr} {fs : List (Str × V)} {i : Int} {H : Hp} {Q : VK} (ha : H a = some (.ins C dx fs)) (k : sp [.ref a, .int i] H Q E) : rIOwn C sp E (.int i) (.ref a) H Q := ⟨a, dx, fs, i, rfl, rfl, ha, k⟩
theorem r_unOwn {a dx : Addr} {fs : List (Str × V)} {H : Hp} {Q : VK} (ha : H a = some (.ins C dx fs)) (k : sp [.ref a] H Q E) : rUnOwn C sp E (.ref a) H Q := ⟨a, dx, fs, rfl, ha, k⟩
theorem r_aug {i : Nat} {te : TE} {ti : TIp} {D : Ends} {σ : St} {H : Hp} {x : V} (hv : σ[i]? = some (some x)) (k : te σ H fun y H1 => ti x y H1 fun z H2 => D.nx (σ.set i (some z)) H2) : tAug i te ti D σ H := ⟨x, hv, k⟩
theorem r_ipI {f : Int → Int → Int} {i j : Int} {H : Hp} {Q : VK} (k : Q (.int (f i j)) H) : ipI f (.int i) (.int j) H Q := ⟨i, j, rfl, rfl, k⟩
end
end Hg
end L2
end

section
set_option Elab.async false
set_option linter.all false
set_option maxRecDepth 100000
set_option maxHeartbeats 4000000
/-! C(k = v, ..): a new instance by keywords alone. -/
namespace L2
namespace Hg
open PySem PySem.Spec PyProof.Rows
/-- a class whose instances are made with n values by place and the keywords ks -/
def MakeKOk (P : Program) (w : World) (K : PySem.W.Frag) (mg : Str → Option Value) (base : Heap) (CX : CXT) (k : Nat) (x : Str) (C : Addr) (ps : List Str) (n : Nat) (ks : List Str) (gV : List V → List V → List V) (sp : Sp) : Prop :=
  mg x = some (.ref C) ∧ ∃ f fd g, Mk K C f ∧ FnOk P w K mg base CX k f fd ps sp ∧ KBn K fd ps (n + 1) ks g gV
section
variable {X : Cx} {CX : CXT} {k : Nat} {C : Addr} {ps ks : List Str} {sp : Sp} {E : XK} {x : Str} {p pos : Pos} {e : Expr} {es : List Expr} {kws : List Keyword} {t tk : TA} {gV : List V → List V → List V}
theorem pe_makeKD {n : Nat} (F : MakeKOk X.prog X.w X.K X.mg X.base CX k x C ps n ks gV sp) (hr : Room (k + 1) X.A) (hx : Passes CX X E) (hg : Gl X x) (ha : PA X (e :: es) t) (hkw : PK X kws tk)
    (hall : (backToKw pos (keywordEach kws X.env)).all (·.1.isSome) = true := by rfl) (hks : (backToKw pos (keywordEach kws X.env)).filterMap (·.1) = ks := by rfl)
    (hdb : (x == ("__debug__" : Str)) = false := by decide) (he : starEach (e :: es) X.env = (false, eval e X.env) :: starEach es X.env := by rfl)
    (hpl : ((backTo pos (starEach (e :: es) X.env)).any (·.1) || (backToKw pos (keywordEach kws X.env)).any (·.1.isNone)) = false := by rfl) :
    PE X (.Call (.Name x p) (e :: es) kws pos) (tMakeN C n ks.length sp gV E t tk) := by
  obtain ⟨hm, f, fd, g, M, F, hb⟩ := F
  exact pe_makeN M F hr hg hm hb hx ha hkw hall hks hdb he hpl
theorem pe_makeKD0 (F : MakeKOk X.prog X.w X.K X.mg X.base CX k x C ps 0 ks gV sp) (hr : Room (k + 1) X.A) (hx : Passes CX X E) (hg : Gl X x) (hkw : PK X kws tk)
    (hall : (backToKw pos (keywordEach kws X.env)).all (·.1.isSome) = true := by rfl) (hks : (backToKw pos (keywordEach kws X.env)).filterMap (·.1) = ks := by rfl)
    (hdb : (x == ("__debug__" : Str)) = false := by decide)
    (hpl : ((backTo pos (starEach [] X.env)).any (·.1) || (backToKw pos (keywordEach kws X.env)).any (·.1.isNone)) = false := by rfl) :
    PE X (.Call (.Name x p) [] kws pos) (tMakeN C 0 ks.length sp gV E tNil tk) := by
  obtain ⟨hm, f, fd, g, M, F, hb⟩ := F
  refine ⟨fun pins s σ H Q I h => ?_⟩
  refine wpAny_Call_Name_kw (ld_glob I hg hm ?_ hdb)
  refine PySem.W.callWith_KW0 (h₀ := X.base) I.ok.mod.kin M.kp hall ?_ hpl
  refine thn (hkw.run pos pins s σ H _ I h) fun ws s2 ⟨zs, H2, I2, rz, l1, l2, q2⟩ => ⟨I2.kIn, ?_⟩
  rw [hks]
  exact run_makeN M F hr hb hx I2 .nil rz l1 l2 q2
theorem r_makeN {n m : Nat} {σ : St} {H : Hp} {Q : VK} (k : t σ H fun vs H1 => tk σ H1 fun zs H2 => vs.length = n ∧ zs.length = m ∧
  ∀ x dx, H2 x = none → H2 dx = none → dx ≠ x → sp (gV (.ref x :: vs) zs) (upd (upd H2 dx (.own x)) x (.ins C dx [])) (fun v H3 => v = .non ∧ Q (.ref x) H3) E) : tMakeN C n m sp gV E t tk σ H Q := k
end
end Hg
end L2
end

section
set_option Elab.async false
set_option linter.all false
set_option maxRecDepth 100000
set_option maxHeartbeats 4000000
/-! == and != of lists whose items have an own `__eq__`, whatever comes of it. -/
namespace L2
namespace Hg
open PySem PySem.Spec PyProof.Rows PySem.SeqAt
open AutoSeq1 (wpAny_loadPart')
open MeetsSeq MeetsSeq2 MeetsSeq3 SeqRoads2

section
variable {prog : Program} {w : World} {A : Around} {R : Result → Shared → Prop}
/-- at each turn the two lists are read anew: N items each; the i-th two are equal or not -/
def ListB (prog : Program) (w : World) (A : Around) (E : Value → Shared → Prop) (l b : Addr) (N : Nat) (e : Nat → Bool) (I : Shared → Prop) : Prop :=
  ∀ s, I s → ∃ (items items2 : Array Value) (n n2 : Nat), s.heap.get? l = some { cls := .type "list", data := .seq items n } ∧ s.heap.get? b = some { cls := .type "list", data := .seq items2 n2 } ∧ items.size = N ∧ items2.size = N ∧
    ∀ i (h1 : i < items.size) (h2 : i < items2.size), wpAny (model prog w) A.in1 (eqBool items[i] items2[i]) (fun r s' => r = e i ∧ I s') E s
theorem eqB_loop (ne : Bool) (l b : Addr) (N : Nat) (e : Nat → Bool) (I : Shared → Prop) (hl : ListB prog w A (fun e s' => R (.error e) s') l b N e I)
    (fin : ∀ s r, I s → r = (ne != (List.range N).all e) → R (.ok (.ret (.bool r))) s) (k : Nat) :
    ∀ i : Nat, N - i = k → i ≤ N → (∀ j, j < i → e j = true) → ∀ s, I s →
      wpAny (model prog w) A.in1 (Builtin.«list.__eq__.loop» ⟨[.ref l, .ref b, rawInt i, rawInt (if ne = true then 3 else 2)], []⟩) (GQ.FinOf prog w A R) (fun e s' => R (.error e) s') s := by
  induction k with
  | zero =>
    intro i hk hi hj s h
    obtain ⟨items, items2, n, n2, hl1, hb1, hs1, hs2, _⟩ := hl _ h
    have hi' : i = N := by omega
    have ha : (List.range N).all e = true := List.all_eq_true.mpr fun j q => hj j (by rw [hi']; exact List.mem_range.mp q)
    have hR : R (.ok (.ret (.bool (!ne)))) s := fin s _ h (by rw [ha]; cases ne <;> rfl)
    obtain ⟨hp, g, d, tk, os⟩ := s
    have hi1 : items[((i : Nat) : Int).toNat]? = none := by simp; omega
    have hi2 : items2[((i : Nat) : Int).toNat]? = none := by simp; omega
    cases ne with
    | false =>
      simp only [Bool.false_eq_true, if_false]
      wp_walk using wpAny_loadPart' hl1, wpAny_loadPart' hb1
      rw [hi1, hi2]
      wp_walk using wpAny_loadPart' hl1, wpAny_loadPart' hb1
      show R (.ok (.ret (.bool (items.size == items2.size)))) _
      rw [hs1, hs2]
      simpa using hR
    | true =>
      simp only [if_true]
      wp_walk using wpAny_loadPart' hl1, wpAny_loadPart' hb1
      rw [hi1, hi2]
      wp_walk using wpAny_loadPart' hl1, wpAny_loadPart' hb1
      show R (.ok (.ret (.bool (items.size != items2.size)))) _
      rw [hs1, hs2]
      simpa using hR
  | succ k ih =>
    intro i hk hi hj s h
    obtain ⟨items, items2, n, n2, hl1, hb1, hs1, hs2, turn⟩ := hl _ h
    have hlt : i < items.size := by omega
    have hlt2 : i < items2.size := by omega
    have ht := turn i hlt hlt2
    obtain ⟨hp, g, d, tk, os⟩ := s
    have hi1 : items[((i : Nat) : Int).toNat]? = some items[i] := by simp [hlt]
    have hi2 : items2[((i : Nat) : Int).toNat]? = some items2[i] := by simp [hlt2]
    have hc : ((i : Int) + 1) = ((i + 1 : Nat) : Int) := by omega
    have go : ∀ (r : Bool) (s2 : Shared), r = e i → I s2 → r = true → ∃ c, c = (Builtin.«list.__eq__.loop», s2) ∧ wpAny (model prog w) A.in1 (Builtin.«list.__eq__.loop» ⟨[.ref l, .ref b, rawInt (i + 1 : Nat), rawInt (if ne = true then 3 else 2)], []⟩) (GQ.FinOf prog w A R) (fun e s' => R (.error e) s') s2 := fun r s2 er h2 hr =>
      ⟨_, rfl, ih (i + 1) (by omega) (by omega) (fun j q => by
        rcases Nat.lt_or_ge j i with z | z
        · exact hj j z
        · have : j = i := by omega
          rw [this, ← er, hr]) s2 h2⟩
    have no : ∀ (s2 : Shared), false = e i → I s2 → R (.ok (.ret (.bool ne))) s2 := fun s2 er h2 => fin s2 _ h2 (by
      have ha : (List.range N).all e = false := by
        refine Bool.eq_false_iff.mpr fun q => ?_
        have := List.all_eq_true.mp q i (List.mem_range.mpr (by omega))
        rw [← er] at this
        cases this
      rw [ha]; cases ne <;> rfl)
    cases ne with
    | false =>
      simp only [Bool.false_eq_true, if_false] at go ⊢
      wp_walk using wpAny_loadPart' hl1, wpAny_loadPart' hb1
      rw [hi1, hi2]
      refine wpAny_bind (wpAny_mono ht (fun r s2 h2 => ?_) fun _ _ x => x)
      obtain ⟨hr, h2⟩ := h2
      cases r with
      | true =>
        obtain ⟨_, _, hrec⟩ := go true s2 hr h2 rfl
        obtain ⟨hp2, g2, d2, tk2, os2⟩ := s2
        wp_walk
        rw [hc]
        exact ⟨plainId_quiet plain_eq_loop _, codeAny_builtin entry_eq_loop (by
          rw [Around.under_plainId plain_eq_loop _]
          exact hrec)⟩
      | false =>
        have hn := no s2 hr h2
        obtain ⟨items', items2', n', n2', hl1', hb1', hs1', hs2', _⟩ := hl _ h2
        have hi1' : items'[((i : Nat) : Int).toNat]? = some (items'[i]'(by omega)) := by simp
        have hi2' : items2'[((i : Nat) : Int).toNat]? = some (items2'[i]'(by omega)) := by simp
        obtain ⟨hp2, g2, d2, tk2, os2⟩ := s2
        wp_walk using wpAny_loadPart' hl1', wpAny_loadPart' hb1'
        rw [hi1', hi2']
        wp_walk
        exact hn
    | true =>
      simp only [if_true] at go ⊢
      wp_walk using wpAny_loadPart' hl1, wpAny_loadPart' hb1
      rw [hi1, hi2]
      refine wpAny_bind (wpAny_mono ht (fun r s2 h2 => ?_) fun _ _ x => x)
      obtain ⟨hr, h2⟩ := h2
      cases r with
      | true =>
        obtain ⟨_, _, hrec⟩ := go true s2 hr h2 rfl
        obtain ⟨hp2, g2, d2, tk2, os2⟩ := s2
        wp_walk
        rw [hc]
        exact ⟨plainId_quiet plain_eq_loop _, codeAny_builtin entry_eq_loop (by
          rw [Around.under_plainId plain_eq_loop _]
          exact hrec)⟩
      | false =>
        have hn := no s2 hr h2
        obtain ⟨items', items2', n', n2', hl1', hb1', hs1', hs2', _⟩ := hl _ h2
        have hi1' : items'[((i : Nat) : Int).toNat]? = some (items'[i]'(by omega)) := by simp
        have hi2' : items2'[((i : Nat) : Int).toNat]? = some (items2'[i]'(by omega)) := by simp
        obtain ⟨hp2, g2, d2, tk2, os2⟩ := s2
        wp_walk using wpAny_loadPart' hl1', wpAny_loadPart' hb1'
        rw [hi1', hi2']
        wp_walk
        exact hn
theorem list_eqB (l b : Addr) (N : Nat) (e : Nat → Bool) (I : Shared → Prop) (hl : ListB prog w A (fun e s' => R (.error e) s') l b N e I)
    (fin : ∀ s r, I s → r = (List.range N).all e → R (.ok (.ret (.bool r))) s) {s : Shared} (h : I s) :
    wpAny (model prog w) A.in1 (Builtin.«list.__eq__» ⟨[.ref l, .ref b], []⟩) (GQ.FinOf prog w A R) (fun e s' => R (.error e) s') s := by
  obtain ⟨items, items2, n, n2, hl1, hb1, hs1, hs2, _⟩ := hl _ h
  have hrec := eqB_loop (A := A) (R := R) false l b N e I hl (fun s r h q => fin s r h (by rw [q]; cases (List.range N).all e <;> rfl)) _ 0 rfl (Nat.zero_le _) (fun j q => by omega) s h
  obtain ⟨hp, g, d, tk, os⟩ := s
  have f3 := AutoSeq1.sub_list_list
  have hne : ¬ (items.size != items2.size) = true := by simp [hs1, hs2]
  wp_walk using wpAny_loadPart' hl1, wpAny_loadPart' hb1
  exact ⟨plainId_quiet plain_eq_loop _, codeAny_builtin entry_eq_loop (by
    rw [Around.under_plainId plain_eq_loop _]
    exact hrec)⟩
theorem list_neB (l b : Addr) (N : Nat) (e : Nat → Bool) (I : Shared → Prop) (hl : ListB prog w A (fun e s' => R (.error e) s') l b N e I)
    (fin : ∀ s r, I s → r = !(List.range N).all e → R (.ok (.ret (.bool r))) s) {s : Shared} (h : I s) :
    wpAny (model prog w) A.in1 (Builtin.«list.__ne__» ⟨[.ref l, .ref b], []⟩) (GQ.FinOf prog w A R) (fun e s' => R (.error e) s') s := by
  obtain ⟨items, items2, n, n2, hl1, hb1, hs1, hs2, _⟩ := hl _ h
  have hrec := eqB_loop (A := A) (R := R) true l b N e I hl (fun s r h q => fin s r h (by rw [q]; cases (List.range N).all e <;> rfl)) _ 0 rfl (Nat.zero_le _) (fun j q => by omega) s h
  obtain ⟨hp, g, d, tk, os⟩ := s
  have f3 := AutoSeq1.sub_list_list
  have hne : ¬ (items.size != items2.size) = true := by simp [hs1, hs2]
  wp_walk using wpAny_loadPart' hl1, wpAny_loadPart' hb1
  exact ⟨plainId_quiet plain_eq_loop _, codeAny_builtin entry_eq_loop (by
    rw [Around.under_plainId plain_eq_loop _]
    exact hrec)⟩
end
section
variable {prog : Program} {w : World} {A : Around} {E : Value → Shared → Prop} {s : Shared}
theorem rc_listB {l b : Addr} {N : Nat} {e : Nat → Bool} {Q : Value → Shared → Prop} (hu : A.units < cLine) (I : Shared → Prop) (hl : ListB prog w A E l b N e I)
    (fin : ∀ s r, I s → r = (List.range N).all e → Q (.bool r) s) (h : I s) : wpAny (model prog w) A (richCompare .Eq (.ref l) (.ref b)) Q E s := by
  obtain ⟨items, items2, n, n2, hl1, hb1, _, _, _⟩ := hl _ h
  refine wpAny_richCompare_same_room (op := .Eq) ⟨_, hl1, rfl⟩ ⟨_, hb1, rfl⟩ F.slot_list_eq (GQ.call_here F.slot_list_eq ⟨_, hl1, rfl⟩ F.entry_list_eq (F.args_list_eq_2 _ _) ?_) hu
  exact list_eqB (R := wants (fun v s' => v ≠ .notImplemented ∧ Q v s') E) l b N e I hl (fun s' r q z => ⟨(fun x => nomatch x), fin s' r q z⟩) h
theorem rn_listB {l b : Addr} {N : Nat} {e : Nat → Bool} {Q : Value → Shared → Prop} (hu : A.units < cLine) (I : Shared → Prop) (hl : ListB prog w A E l b N e I)
    (fin : ∀ s r, I s → r = !(List.range N).all e → Q (.bool r) s) (h : I s) : wpAny (model prog w) A (richCompare .NotEq (.ref l) (.ref b)) Q E s := by
  obtain ⟨items, items2, n, n2, hl1, hb1, _, _, _⟩ := hl _ h
  refine wpAny_richCompare_same_room (op := .NotEq) ⟨_, hl1, rfl⟩ ⟨_, hb1, rfl⟩ F.slot_list_ne (GQ.call_here F.slot_list_ne ⟨_, hl1, rfl⟩ F.entry_list_ne (F.args_list_ne_2 _ _) ?_) hu
  exact list_neB (R := wants (fun v s' => v ≠ .notImplemented ∧ Q v s') E) l b N e I hl (fun s' r q z => ⟨(fun x => nomatch x), fin s' r q z⟩) h
end
/-- how two values are seen to be equal or not -/
abbrev EqvB := V → V → Bool → Hp → Prop
def MonB (D : EqvB) : Prop := ∀ x y b H H', Ext H H' → D x y b H → D x y b H'
section
variable {X : Cx} {n m : Nat} {D : EqvB}
def EqB (X : Cx) (n : Nat) (D : EqvB) : Prop :=
  ∀ (A : Around) (pins : List (Addr × Obj)) (s : Shared) (σ : St) (H : Hp) (x y : V) (u v : Value) (b : Bool), Sub X n A → Inv X pins σ H s → RelV x u → RelV y v → D x y b H →
    wpAny (model X.prog X.w) A (eqBool u v) (fun r s' => r = b ∧ ∃ H', Inv X pins σ H' s' ∧ Ext H H') X.xe s
/-- the class's own == -/
def spEqB (R : Addr → Addr → Bool → Hp → Prop) : Sp := fun vs H Q _ => ∃ a b r, vs = [.ref a, .ref b] ∧ R a b r H ∧ ∀ H', Ext H H' → Q (.bl r) H'
def DInsB (C : Addr) (R : Addr → Addr → Bool → Hp → Prop) : EqvB := fun x y r H => ∃ a b dx dy fs gs, x = .ref a ∧ y = .ref b ∧ H a = some (.ins C dx fs) ∧ H b = some (.ins C dy gs) ∧ R a b r H ∧ (a = b → r = true)
theorem monB_ins {C : Addr} {R : Addr → Addr → Bool → Hp → Prop} (hR : ∀ a b r H H', Ext H H' → R a b r H → R a b r H') : MonB (DInsB C R) := fun x y r H H' e d => by
  obtain ⟨a, b, dx, dy, fs, gs, hx, hy, h1, h2, q, z⟩ := d
  exact ⟨a, b, dx, dy, fs, gs, hx, hy, e _ _ h1, e _ _ h2, hR a b r H H' e q, z⟩
theorem eqB_ins {CX : CXT} {C : Addr} {ps : List Str} {R : Addr → Addr → Bool → Hp → Prop} {sp : Sp} {E : XK} (M : MetOk X.prog X.w X.K X.mg X.base CX n C "__eq__" ps sp)
    (hsp : ∀ a b r H, R a b r H → sp [.ref a, .ref b] H (fun v H' => v = .bl r ∧ Ext H H') E) (hx : Passes CX X E) : EqB X n (DInsB C R) := by
  obtain ⟨_, f, fd, hM, F, hb⟩ := M
  intro A pins s σ H x y u v r sb I rx ry d
  obtain ⟨a, b, dx, dy, fs, gs, rfl, rfl, ha, hb', hr, hab⟩ := d
  cases rx
  cases ry
  by_cases hab' : a = b
  · have hr1 := hab hab'
    subst hab'; subst hr1
    exact SeqAt.EqAt.same (A := A) (s := s) (.ref a) X.prog X.w X.xe _ ⟨rfl, H, I, Ext.rfl'⟩
  · refine GQ.eqBool_refG hab' ?_
    obtain ⟨mA, J, _⟩ := ins_get I.hok ha
    obtain ⟨mB, J', _⟩ := ins_get I.hok hb'
    obtain ⟨od, J, _⟩ := J.look
    obtain ⟨od', J', _⟩ := J'.look
    obtain ⟨m, hF⟩ := I.fr
    refine PySem.W.cmp_K (op := .Eq) (tb := .ref C) sb.room.units0 hF I.ok.mod.kin J J'.type (by simp [PySem.W.notFirst]) hM.at_ hM.fn ?_
    have hq := hsp a b r H hr
    have e0 : Env0 X.prog X.w X.K X.mg X.base A X.stack s H := by
      have e := I.env0
      exact ⟨by rw [sb.fr]; exact e.frames, e.mod, e.bs, e.bsz, e.funs, e.frf, e.hok, e.bare⟩
    have hl := F.len _ _ _ _ hq
    have r2 : Vals [V.ref a, V.ref b] [Value.ref a, Value.ref b] := .cons rfl (.cons rfl .nil)
    refine wpAny_call (codeAny_mono (F.run A X.stack s H ⟨[.ref a, .ref b], []⟩ [.ref a, .ref b] [.ref a, .ref b] _ E sb.room e0 (by
      have := hb s [.ref a, .ref b] I.kIn (by simpa using hl)
      simpa using this) r2 hq) fun z s' hz => ?_)
    cases z with
    | error e => exact hx pins σ H s e s' I hz
    | ok fl =>
      cases fl with
      | ret w =>
        obtain ⟨z, H', I', rz, ez, ex⟩ := I.after hz
        subst ez
        cases rz
        exact ⟨_, rfl, rfl, H', I', ex⟩
      | next => exact False.elim hz
      | brk => exact False.elim hz
      | cont => exact False.elim hz
/-- item by item -/
def PrB (D : EqvB) (xs ys : List V) (b : Bool) (H : Hp) : Prop := xs.length = ys.length ∧ ∃ e : Nat → Bool, (∀ (i : Nat) x y, xs[i]? = some x → ys[i]? = some y → D x y (e i) H) ∧ b = (List.range xs.length).all e
theorem listB_of (hD : MonB D) (h : EqB X n D) {A : Around} (sb : Sub X (n + 1) A) {pins : List (Addr × Obj)} {σ : St} {H : Hp} {a b : Addr} {xs ys : List V} {e : Nat → Bool} (ha : H a = some (.lst xs)) (hb : H b = some (.lst ys)) (hl : xs.length = ys.length)
    (p : ∀ (i : Nat) x y, xs[i]? = some x → ys[i]? = some y → D x y (e i) H) : ListB X.prog X.w A X.xe a b xs.length e (fun s' => LoopI X pins σ H s') := by
  intro s' q
  obtain ⟨H1, I1, e1⟩ := id q
  obtain ⟨z, its, k, r, e3⟩ := I1.hok a _ (e1 _ _ ha)
  obtain ⟨z2, its2, k2, r2, e4⟩ := I1.hok b _ (e1 _ _ hb)
  refine ⟨its.toArray, its2.toArray, k, k2, e3, e4, by rw [List.size_toArray, ← r.length], by rw [List.size_toArray, ← r2.length, ← hl], fun i h1 h2 => ?_⟩
  have g1 : its[i]? = some its.toArray[i] := by
    have h1' : i < its.length := by simpa using h1
    rw [List.getElem?_eq_getElem h1'] <;> simp
  have g2 : its2[i]? = some its2.toArray[i] := by
    have h2' : i < its2.length := by simpa using h2
    rw [List.getElem?_eq_getElem h2'] <;> simp
  have k1 : i < xs.length := by rw [r.length]; simpa using h1
  have k2 : i < ys.length := by rw [r2.length]; simpa using h2
  obtain ⟨u, hu, ru⟩ := r.get (List.getElem?_eq_getElem k1)
  obtain ⟨v, hv, rv⟩ := r2.get (List.getElem?_eq_getElem k2)
  rw [g1] at hu
  rw [g2] at hv
  rw [Option.some.inj hu, Option.some.inj hv]
  refine wpAny_mono (h A.in1 pins s' σ H1 _ _ u v (e i) sb.in1 I1 ru rv (hD _ _ _ _ _ e1 (p i _ _ (List.getElem?_eq_getElem k1) (List.getElem?_eq_getElem k2)))) (fun r s2 q => ?_) fun _ _ x => x
  obtain ⟨hr, H2, I2, e2⟩ := q
  exact ⟨hr, H2, I2, e1.trans e2⟩
/-- xs == ys, xs != ys -/
def rEqL (D : EqvB) (ne : Bool) : R2 := fun x y H Q => ∃ a b xs ys r, x = .ref a ∧ y = .ref b ∧ H a = some (.lst xs) ∧ H b = some (.lst ys) ∧ PrB D xs ys r H ∧ ∀ H', Ext H H' → Q (.bl (ne != r)) H'
theorem op_eqL (hD : MonB D) (h : EqB X n D) (hr : Room (n + 1) X.A) : OpR X (compareOp .Eq) (rEqL D false) := by
  intro pins s σ H x y v u Q I rx ry hq
  obtain ⟨a, b, xs, ys, r, rfl, rfl, ha, hb, ⟨hl, e, p, er⟩, q⟩ := hq
  cases rx
  cases ry
  show wpAny (model X.prog X.w) X.A (richCompare .Eq (.ref a) (.ref b)) (EP X pins σ Q) X.xe s
  refine rc_listB hr.units0 (fun s' => LoopI X pins σ H s') (listB_of hD h ⟨hr, rfl⟩ ha hb hl p) (fun s' r' ⟨H', I', e'⟩ z => ⟨.bl r', H', I', rfl, ?_⟩) ⟨H, I, Ext.rfl'⟩
  have := q H' e'
  rw [er, ← z] at this
  simpa using this
theorem op_neL (hD : MonB D) (h : EqB X n D) (hr : Room (n + 1) X.A) : OpR X (compareOp .NotEq) (rEqL D true) := by
  intro pins s σ H x y v u Q I rx ry hq
  obtain ⟨a, b, xs, ys, r, rfl, rfl, ha, hb, ⟨hl, e, p, er⟩, q⟩ := hq
  cases rx
  cases ry
  show wpAny (model X.prog X.w) X.A (richCompare .NotEq (.ref a) (.ref b)) (EP X pins σ Q) X.xe s
  refine rn_listB hr.units0 (fun s' => LoopI X pins σ H s') (listB_of hD h ⟨hr, rfl⟩ ha hb hl p) (fun s' r' ⟨H', I', e'⟩ z => ⟨.bl r', H', I', rfl, ?_⟩) ⟨H, I, Ext.rfl'⟩
  have := q H' e'
  rw [er] at this
  rw [z]
  simpa using this
end
end Hg
end L2
end

section
set_option Elab.async false
set_option linter.all false
set_option maxRecDepth 100000
set_option maxHeartbeats 4000000
/-! zip of three lists of one length. -/
namespace L2
namespace Hg
open PySem PySem.Spec PyProof.Rows
open Sem (wp)
theorem typeCall_zip_3 (a b c : Value) : checkTypeCall "zip" ⟨[a, b, c], []⟩ = pure () := by kernel_rfl
theorem newCall_zip_3 (a b c : Value) : checkBuiltinCall "zip.__new__" ⟨[.type "zip", a, b, c], []⟩ = pure () := by kernel_rfl
theorem args_object_init_4 (a b c d : Value) : argsOk "object.__init__" ⟨[a, b, c, d], []⟩ := by
  unfold argsOk; rw [signature?_of (id := "object.__init__") (n := ['_', '_', 't', 'i', 'n', 'i', '_', '_']) (o := ['t', 'c', 'e', 'j', 'b', 'o']) (by kernel_rfl) F.owner_object]; kernel_rfl
abbrev IsTrip (h : Heap) (T : Addr) (a b c : Value) : Prop := h.get? T = some { cls := .type "tuple", data := .seq #[a, b, c] }
structure Apart3 (z TI TO i1 i2 i3 l1 l2 l3 : Addr) : Prop where
  TIz : TI ≠ z
  TOz : TO ≠ z
  i1z : i1 ≠ z
  i2z : i2 ≠ z
  i3z : i3 ≠ z
  TITO : TI ≠ TO
  TIi1 : TI ≠ i1
  TIi2 : TI ≠ i2
  TIi3 : TI ≠ i3
  TOi1 : TO ≠ i1
  TOi2 : TO ≠ i2
  TOi3 : TO ≠ i3
  i12 : i1 ≠ i2
  i13 : i1 ≠ i3
  i23 : i2 ≠ i3
  l1z : l1 ≠ z
  l1TO : l1 ≠ TO
  l1i1 : l1 ≠ i1
  l1i2 : l1 ≠ i2
  l1i3 : l1 ≠ i3
  l2z : l2 ≠ z
  l2TO : l2 ≠ TO
  l2i1 : l2 ≠ i1
  l2i2 : l2 ≠ i2
  l2i3 : l2 ≠ i3
  l3z : l3 ≠ z
  l3TO : l3 ≠ TO
  l3i1 : l3 ≠ i1
  l3i2 : l3 ≠ i2
  l3i3 : l3 ≠ i3
theorem apart3 (n l1 l2 l3 : Nat) (h1 : l1 < n) (h2 : l2 < n) (h3 : l3 < n) : Apart3 (n + 5) (n + 3) (n + 4) n (n + 1) (n + 2) l1 l2 l3 := by
  constructor <;> intro q <;> (have : (_ : Nat) = _ := q; omega)
section
variable {prog : Program} {w : World} {A : Around} {E : Value → Shared → Prop} {s : Shared}
theorem wpAny_updateSeq_trip {T : Addr} {a b c x : Value} {k : Nat} {Q : Unit → Shared → Prop} (hT : IsTrip s.heap T a b c)
    (h : ∀ h', h'.get? T = some { cls := .type "tuple", data := .seq ((#[a, b, c] : Array Value).setIfInBounds k x) } → Heap.SameBut T s.heap h' → Q () { s with heap := h' }) :
    wpAny (model prog w) A (updateSeq T (·.setIfInBounds k x)) Q E s := by
  refine wpAny_updateSeq hT rfl (h _ ?_ (Heap.SameBut.update ..))
  rw [Heap.get?_update_self _ hT rfl]
  simp [Obj.mapSeq]
theorem zip3_next_item {z TI TO i1 i2 i3 l1 l2 l3 : Addr} {k1 k2 k3 : Nat} {xs ys zs : Array Value} {x y v a b c : Value} {Q : Value → Shared → Prop} (D : Apart3 z TI TO i1 i2 i3 l1 l2 l3)
    (hz : IsZip s.heap z TI TO .none) (hTI : IsTrip s.heap TI (.ref i1) (.ref i2) (.ref i3)) (hTO : IsTrip s.heap TO a b c)
    (h1 : s.heap.IsListIter i1 l1 k1) (h2 : s.heap.IsListIter i2 l2 k2) (h3 : s.heap.IsListIter i3 l3 k3) (hl1 : s.heap.IsList l1 xs) (hl2 : s.heap.IsList l2 ys) (hl3 : s.heap.IsList l3 zs) (hx : xs[k1]? = some x) (hy : ys[k2]? = some y) (hv : zs[k3]? = some v)
    (hQ : ∀ h', IsZip h' z TI TO (rawInt s.heap.objs.size) → IsTrip h' TO x y v → h'.IsListIter i1 l1 (k1 + 1) → h'.IsListIter i2 l2 (k2 + 1) → h'.IsListIter i3 l3 (k3 + 1) → IsTrip h' s.heap.objs.size x y v → h'.objs.size = s.heap.objs.size + 1 →
      (∀ c o, c ≠ z → c ≠ TO → c ≠ i1 → c ≠ i2 → c ≠ i3 → s.heap.get? c = some o → h'.get? c = some o) → Q (.ref s.heap.objs.size) { s with heap := h' }) :
    wpAny (model prog w) A (Builtin.«zip.__next__» ⟨[.ref z], []⟩) (fun fin s' => ∃ v, fin = .done (.ret v) ∧ Q v s') E s := by
  show wpAny _ _ (field (.ref z) 2 >>= _) _ _ _
  refine wpAny_bind (wpAny_field hz rfl (x := .bool false) rfl ?_)
  show wpAny _ _ (field (.ref z) 3 >>= _) _ _ _
  refine wpAny_bind (wpAny_field hz rfl (x := .ref TI) rfl ?_)
  refine wpAny_bind (wpAny_seqItems hTI rfl ?_)
  show wpAny _ _ (Builtin.SmallTypes.ownedTupleIsFree (.ref z) >>= _) _ _ _
  refine wpAny_bind ?_
  unfold Builtin.SmallTypes.ownedTupleIsFree
  refine wpAny_bind (wpAny_field hz rfl (x := .none) rfl (wpAny_pure ?_))
  simp only [if_true]
  refine wpAny_bind (wpAny_rule ?_)
  refine wpAny_bind (wpAny_field hz rfl (x := .ref TO) rfl ?_)
  refine wpAny_bind (wpAny_setField_rec hz (by simp) fun h₁ hz₁ hs₁ => ?_)
  replace hz₁ : IsZip h₁ z TI TO .ellipsis := hz₁
  refine wpAny_bind ?_
  simp only [List.zipIdx_cons, List.zipIdx_nil, List.forIn_cons, List.forIn_nil]

  refine wpAny_bind (wpAny_bind (wpAny_onRaise ?_))
  show wpAny _ _ (Builtin.SmallTypes.nextOf (.ref i1) >>= _) _ _ _
  refine wpAny_bind (wpAny_nextOf_list_item (h1.extBut hs₁.extBut D.i1z) (hl1.extBut hs₁.extBut D.l1z) hx fun h₂ h1₂ hs₂ => wpAny_pure ?_)
  have hTO₂ : IsTrip h₂ TO a b c := hs₂.extBut _ _ D.TOi1 (hs₁.extBut _ _ D.TOz hTO)
  refine wpAny_bind (wpAny_seqItems hTO₂ rfl ?_)
  refine wpAny_bind (wpAny_updateSeq_trip hTO₂ fun h₃ hTO₃ hs₃ => ?_)
  replace hTO₃ : IsTrip h₃ TO x b c := hTO₃
  refine wpAny_bind (wpAny_letGo (wpAny_pure ?_))

  refine wpAny_bind (wpAny_bind (wpAny_onRaise ?_))
  show wpAny _ _ (Builtin.SmallTypes.nextOf (.ref i2) >>= _) _ _ _
  refine wpAny_bind (wpAny_nextOf_list_item (((h2.extBut hs₁.extBut D.i2z).extBut hs₂.extBut D.i12.symm).extBut hs₃.extBut D.TOi2.symm)
    (((hl2.extBut hs₁.extBut D.l2z).extBut hs₂.extBut D.l2i1).extBut hs₃.extBut D.l2TO) hy fun h₄ h2₄ hs₄ => wpAny_pure ?_)
  have hTO₄ : IsTrip h₄ TO x b c := hs₄.extBut _ _ D.TOi2 hTO₃
  refine wpAny_bind (wpAny_seqItems hTO₄ rfl ?_)
  refine wpAny_bind (wpAny_updateSeq_trip hTO₄ fun h₅ hTO₅ hs₅ => ?_)
  replace hTO₅ : IsTrip h₅ TO x y c := hTO₅
  refine wpAny_bind (wpAny_letGo (wpAny_pure ?_))

  refine wpAny_bind (wpAny_bind (wpAny_onRaise ?_))
  show wpAny _ _ (Builtin.SmallTypes.nextOf (.ref i3) >>= _) _ _ _
  refine wpAny_bind (wpAny_nextOf_list_item (((((h3.extBut hs₁.extBut D.i3z).extBut hs₂.extBut D.i13.symm).extBut hs₃.extBut D.TOi3.symm).extBut hs₄.extBut D.i23.symm).extBut hs₅.extBut D.TOi3.symm)
    (((((hl3.extBut hs₁.extBut D.l3z).extBut hs₂.extBut D.l3i1).extBut hs₃.extBut D.l3TO).extBut hs₄.extBut D.l3i2).extBut hs₅.extBut D.l3TO) hv fun h₆ h3₆ hs₆ => wpAny_pure ?_)
  have hTO₆ : IsTrip h₆ TO x y c := hs₆.extBut _ _ D.TOi3 hTO₅
  refine wpAny_bind (wpAny_seqItems hTO₆ rfl ?_)
  refine wpAny_bind (wpAny_updateSeq_trip hTO₆ fun h₇ hTO₇ hs₇ => ?_)
  replace hTO₇ : IsTrip h₇ TO x y v := hTO₇
  refine wpAny_bind (wpAny_letGo (wpAny_pure (wpAny_pure ?_)))

  refine wpAny_bind (wpAny_seqItems hTO₇ rfl ?_)
  refine wpAny_bind (wpAny_newTuple ?_)
  have hsz : h₇.objs.size = s.heap.objs.size := by rw [hs₇.1, hs₆.1, hs₅.1, hs₄.1, hs₃.1, hs₂.1, hs₁.1]
  have hz₇ : IsZip h₇ z TI TO .ellipsis := hs₇.extBut _ _ D.TOz.symm (hs₆.extBut _ _ D.i3z.symm (hs₅.extBut _ _ D.TOz.symm (hs₄.extBut _ _ D.i2z.symm (hs₃.extBut _ _ D.TOz.symm (hs₂.extBut _ _ D.i1z.symm hz₁)))))
  have hk₇ : ∀ c o, c ≠ z → c ≠ TO → c ≠ i1 → c ≠ i2 → c ≠ i3 → s.heap.get? c = some o → h₇.get? c = some o := fun c o c1 c2 c3 c4 c5 e =>
    hs₇.extBut _ _ c2 (hs₆.extBut _ _ c5 (hs₅.extBut _ _ c2 (hs₄.extBut _ _ c4 (hs₃.extBut _ _ c2 (hs₂.extBut _ _ c3 (hs₁.extBut _ _ c1 e))))))
  have h1₇ : h₇.IsListIter i1 l1 (k1 + 1) := ((((h1₂.extBut hs₃.extBut D.TOi1.symm).extBut hs₄.extBut D.i12).extBut hs₅.extBut D.TOi1.symm).extBut hs₆.extBut D.i13).extBut hs₇.extBut D.TOi1.symm
  have h2₇ : h₇.IsListIter i2 l2 (k2 + 1) := ((h2₄.extBut hs₅.extBut D.TOi2.symm).extBut hs₆.extBut D.i23).extBut hs₇.extBut D.TOi2.symm
  have h3₇ : h₇.IsListIter i3 l3 (k3 + 1) := h3₆.extBut hs₇.extBut D.TOi3.symm
  have hzlt : z < h₇.objs.size := Heap.lt_size hz₇
  show wpAny _ _ (Builtin.SmallTypes.ownedTupleHandOut (.ref z) (.ref h₇.objs.size) >>= _) _ _ _
  refine wpAny_bind ?_
  unfold Builtin.SmallTypes.ownedTupleHandOut
  have hz₈ : IsZip (h₇.push { cls := .type "tuple", data := .seq #[x, y, v] }) z TI TO .ellipsis := Heap.get?_push_of_some _ hz₇
  refine wpAny_bind (wpAny_setField_rec hz₈ (by simp) fun h₉ hz₉ hs₉ => ?_)
  replace hz₉ : IsZip h₉ z TI TO (rawInt h₇.objs.size) := hz₉
  refine wpAny_setField_rec hz₉ (by simp) fun h₈ hz₈ hs₈ => ?_
  replace hz₈ : IsZip h₈ z TI TO (rawInt h₇.objs.size) := hz₈
  have up : ∀ c o, c ≠ z → h₇.get? c = some o → h₈.get? c = some o := fun c o c1 e => hs₈.extBut _ _ c1 (hs₉.extBut _ _ c1 (Heap.get?_push_of_some _ e))
  have hT₈ : IsTrip h₈ h₇.objs.size x y v := hs₈.extBut _ _ (Nat.ne_of_gt hzlt) (hs₉.extBut _ _ (Nat.ne_of_gt hzlt) (Heap.get?_push_size _ rfl))
  have hz8 : h₈.objs.size = h₇.objs.size + 1 := by rw [hs₈.1, hs₉.1, Heap.size_push]
  rw [hsz] at hz₈ hT₈ hz8
  refine wpAny_pure ⟨_, rfl, ?_⟩
  show Q (.ref h₇.objs.size) _
  rw [hsz]
  exact hQ h₈ hz₈ (up _ _ D.TOz hTO₇) (h1₇.at fun o e => up _ o D.i1z e) (h2₇.at fun o e => up _ o D.i2z e) (h3₇.at fun o e => up _ o D.i3z e) hT₈ hz8 fun c o c1 c2 c3 c4 c5 e => up c o c1 (hk₇ c o c1 c2 c3 c4 c5 e)
theorem zip3_next_end {z TI TO i1 i2 i3 l1 l2 l3 : Addr} {k1 : Nat} {xs : Array Value} {a b c : Value} {Q : Fin → Shared → Prop} (hh : A.handled = none) (D : Apart3 z TI TO i1 i2 i3 l1 l2 l3)
    (hz : IsZip s.heap z TI TO .none) (hTI : IsTrip s.heap TI (.ref i1) (.ref i2) (.ref i3)) (hTO : IsTrip s.heap TO a b c)
    (h1 : s.heap.IsListIter i1 l1 k1) (hl1 : s.heap.IsList l1 xs) (hx : xs[k1]? = none)
    (hE : ∀ h' e, (∀ c o, c ≠ z → c ≠ TO → c ≠ i1 → c ≠ i2 → c ≠ i3 → s.heap.get? c = some o → h'.get? c = some o) → (∃ o, h'.get? e = some o ∧ o.cls = .type "StopIteration") → E (.ref e) { s with heap := h' }) :
    wpAny (model prog w) A (Builtin.«zip.__next__» ⟨[.ref z], []⟩) Q E s := by
  show wpAny _ _ (field (.ref z) 2 >>= _) _ _ _
  refine wpAny_bind (wpAny_field hz rfl (x := .bool false) rfl ?_)
  show wpAny _ _ (field (.ref z) 3 >>= _) _ _ _
  refine wpAny_bind (wpAny_field hz rfl (x := .ref TI) rfl ?_)
  refine wpAny_bind (wpAny_seqItems hTI rfl ?_)
  show wpAny _ _ (Builtin.SmallTypes.ownedTupleIsFree (.ref z) >>= _) _ _ _
  refine wpAny_bind ?_
  unfold Builtin.SmallTypes.ownedTupleIsFree
  refine wpAny_bind (wpAny_field hz rfl (x := .none) rfl (wpAny_pure ?_))
  simp only [if_true]
  refine wpAny_bind (wpAny_rule ?_)
  refine wpAny_bind (wpAny_field hz rfl (x := .ref TO) rfl ?_)
  refine wpAny_bind (wpAny_setField_rec hz (by simp) fun h₁ hz₁ hs₁ => ?_)
  replace hz₁ : IsZip h₁ z TI TO .ellipsis := hz₁
  refine wpAny_bind ?_
  simp only [List.zipIdx_cons, List.zipIdx_nil, List.forIn_cons, List.forIn_nil]
  refine wpAny_bind (wpAny_bind (wpAny_onRaise ?_))
  show wpAny _ _ (Builtin.SmallTypes.nextOf (.ref i1) >>= _) _ _ _
  refine wpAny_bind (wpAny_nextOf_list_end hh (h1.extBut hs₁.extBut D.i1z) (hl1.extBut hs₁.extBut D.l1z) hx fun h₂ e hs₂ he => ?_)
  obtain ⟨oe, hoe, hce⟩ := he
  have hz₂ : IsZip h₂ z TI TO .ellipsis := hs₂ _ _ D.i1z.symm hz₁
  have hez : e ≠ z := fun x => by subst x; rw [hz₂] at hoe; cases hoe; simp at hce
  refine wpAny_setField_rec hz₂ (by simp) fun h₃ _ hs₃ => hE h₃ e (fun c o c1 _ c3 _ _ x => hs₃.extBut _ _ c1 (hs₂ _ _ c3 (hs₁.extBut _ _ c1 x))) ⟨oe, hs₃.extBut _ _ hez hoe, hce⟩
theorem pyNext_zip3_item {z TI TO i1 i2 i3 l1 l2 l3 : Addr} {k1 k2 k3 : Nat} {xs ys zs : Array Value} {x y v a b c : Value} {Q : Option Value → Shared → Prop} (D : Apart3 z TI TO i1 i2 i3 l1 l2 l3)
    (hz : IsZip s.heap z TI TO .none) (hTI : IsTrip s.heap TI (.ref i1) (.ref i2) (.ref i3)) (hTO : IsTrip s.heap TO a b c)
    (h1 : s.heap.IsListIter i1 l1 k1) (h2 : s.heap.IsListIter i2 l2 k2) (h3 : s.heap.IsListIter i3 l3 k3) (hl1 : s.heap.IsList l1 xs) (hl2 : s.heap.IsList l2 ys) (hl3 : s.heap.IsList l3 zs) (hx : xs[k1]? = some x) (hy : ys[k2]? = some y) (hv : zs[k3]? = some v)
    (hQ : ∀ h', IsZip h' z TI TO (rawInt s.heap.objs.size) → IsTrip h' TO x y v → h'.IsListIter i1 l1 (k1 + 1) → h'.IsListIter i2 l2 (k2 + 1) → h'.IsListIter i3 l3 (k3 + 1) → IsTrip h' s.heap.objs.size x y v → h'.objs.size = s.heap.objs.size + 1 →
      (∀ c o, c ≠ z → c ≠ TO → c ≠ i1 → c ≠ i2 → c ≠ i3 → s.heap.get? c = some o → h'.get? c = some o) → Q (some (.ref s.heap.objs.size)) { s with heap := h' }) :
    wpAny (model prog w) A (pyNext (.ref z)) Q E s := by
  have hT : s.TypeIs (.ref z) "zip" := ⟨_, hz, rfl⟩
  unfold pyNext
  exact wpAny_bind (wpAny_attempt (wpAny_callSpecial?_slot (name := Str.ofString "__next__") hT F.slot_zip_next
    (wpAny_call_entry F.slot_zip_next hT F.entry_zip_next
      (zip3_next_item D hz hTI hTO h1 h2 h3 hl1 hl2 hl3 hx hy hv fun h' a1 a2 a3 a4 a5 a6 a7 a8 => wpAny_pure (hQ h' a1 a2 a3 a4 a5 a6 a7 a8)) (F.args_zip_next_1 _))))
theorem pyNext_zip3_end {z TI TO i1 i2 i3 l1 l2 l3 : Addr} {k1 : Nat} {xs : Array Value} {a b c : Value} {Q : Option Value → Shared → Prop} (hh : A.handled = none) (D : Apart3 z TI TO i1 i2 i3 l1 l2 l3)
    (hz : IsZip s.heap z TI TO .none) (hTI : IsTrip s.heap TI (.ref i1) (.ref i2) (.ref i3)) (hTO : IsTrip s.heap TO a b c)
    (h1 : s.heap.IsListIter i1 l1 k1) (hl1 : s.heap.IsList l1 xs) (hx : xs[k1]? = none)
    (hQ : ∀ h', (∀ c o, c ≠ z → c ≠ TO → c ≠ i1 → c ≠ i2 → c ≠ i3 → s.heap.get? c = some o → h'.get? c = some o) → Q none { s with heap := h' }) : wpAny (model prog w) A (pyNext (.ref z)) Q E s := by
  have hT : s.TypeIs (.ref z) "zip" := ⟨_, hz, rfl⟩
  unfold pyNext
  refine wpAny_bind (wpAny_attempt (wpAny_callSpecial?_slot (name := Str.ofString "__next__") hT F.slot_zip_next
    (wpAny_call_entry F.slot_zip_next hT F.entry_zip_next (zip3_next_end hh D hz hTI hTO h1 hl1 hx fun h' e hk he => ?_) (F.args_zip_next_1 _))))
  obtain ⟨o, ho, hc⟩ := he
  refine wpAny_bind (wpAny_isInstance (T := "StopIteration") (b := true) ⟨o, ho, hc⟩ isSubtype_stop ?_)
  exact wpAny_pure (hQ _ hk)
end
abbrev z3H1 (h : Heap) (l1 : Addr) : Heap := h.push { cls := .type "list_iterator", data := .fields #[.ref l1, .int 0 0] }
abbrev z3H2 (h : Heap) (l1 l2 : Addr) : Heap := (z3H1 h l1).push { cls := .type "list_iterator", data := .fields #[.ref l2, .int 0 0] }
abbrev z3H3 (h : Heap) (l1 l2 l3 : Addr) : Heap := (z3H2 h l1 l2).push { cls := .type "list_iterator", data := .fields #[.ref l3, .int 0 0] }
abbrev z3H4 (h : Heap) (l1 l2 l3 : Addr) : Heap := (z3H3 h l1 l2 l3).push { cls := .type "tuple", data := .seq #[.ref h.objs.size, .ref (z3H1 h l1).objs.size, .ref (z3H2 h l1 l2).objs.size] }
abbrev z3H5 (h : Heap) (l1 l2 l3 : Addr) : Heap := (z3H4 h l1 l2 l3).push { cls := .type "tuple", data := .seq #[.none, .none, .none] }
abbrev z3H6 (h : Heap) (l1 l2 l3 : Addr) : Heap := (z3H5 h l1 l2 l3).push { cls := .type "zip", data := .fields #[.none, .bool false, .bool false, .ref (z3H3 h l1 l2 l3).objs.size, .ref (z3H4 h l1 l2 l3).objs.size] }
theorem meets_zip3_new (l1 l2 l3 : Addr) (xs ys zs : Array Value) :
    Meets (Builtin.«zip.__new__» ⟨[.type "zip", .ref l1, .ref l2, .ref l3], []⟩) (fun _ R s => s.heap.IsList l1 xs ∧ s.heap.IsList l2 ys ∧ s.heap.IsList l3 zs ∧
      R (.ok (.ret (.ref (z3H5 s.heap l1 l2 l3).objs.size))) { s with heap := z3H6 s.heap l1 l2 l3 }) :=
  .of_wp fun prog w A R s h => by
    obtain ⟨hp, g, d, tk, os⟩ := s; obtain ⟨hl1, hl2, hl3, h⟩ := h
    have hsub := sub_zip
    have hL1 : Heap.IsList (Shared.heap ⟨hp, g, d, tk, os⟩) l1 xs := hl1
    have hL2 : Heap.IsList (Shared.heap ⟨hp.push { cls := .type "list_iterator", data := .fields #[.ref l1, .int 0 0] }, g, d, tk, os⟩) l2 ys := Heap.IsList.push hl2 _
    have hL3 : Heap.IsList (Shared.heap ⟨(hp.push { cls := .type "list_iterator", data := .fields #[.ref l1, .int 0 0] }).push { cls := .type "list_iterator", data := .fields #[.ref l2, .int 0 0] }, g, d, tk, os⟩) l3 zs := Heap.IsList.push (Heap.IsList.push hl3 _) _
    wp_walk using wpAny_pyIter_list hL1, wpAny_pyIter_list hL2, wpAny_pyIter_list hL3
    exact ⟨_, rfl, h⟩
section
variable {prog : Program} {w : World} {A : Around} {E : Value → Shared → Prop} {s : Shared}
theorem call_zip_3 {l1 l2 l3 : Addr} {xs ys zs : Array Value} {Q : Value → Shared → Prop} (hl1 : s.heap.IsList l1 xs) (hl2 : s.heap.IsList l2 ys) (hl3 : s.heap.IsList l3 zs)
    (h : ∀ h', IsZip h' (s.heap.objs.size + 5) (s.heap.objs.size + 3) (s.heap.objs.size + 4) .none → IsTrip h' (s.heap.objs.size + 3) (.ref s.heap.objs.size) (.ref (s.heap.objs.size + 1)) (.ref (s.heap.objs.size + 2)) →
      IsTrip h' (s.heap.objs.size + 4) .none .none .none → h'.IsListIter s.heap.objs.size l1 0 → h'.IsListIter (s.heap.objs.size + 1) l2 0 → h'.IsListIter (s.heap.objs.size + 2) l3 0 → h'.objs.size = s.heap.objs.size + 6 →
      (∀ c o, s.heap.get? c = some o → h'.get? c = some o) → Q (.ref (s.heap.objs.size + 5)) { s with heap := h' }) :
    wpAny (model prog w) A (call (.type "zip") [.ref l1, .ref l2, .ref l3]) Q E s := by
  refine callType_new F.called_zip (by decide) (typeCall_zip_3 _ _ _) (newCall_zip_3 _ _ _) (fun obj => args_object_init_4 obj _ _ _) F.entry_zip_new
    (meets_zip3_new l1 l2 l3 xs ys zs) ⟨hl1, hl2, hl3, ?_⟩
  have z1 : (z3H1 s.heap l1).objs.size = s.heap.objs.size + 1 := Heap.size_push ..
  have z2 : (z3H2 s.heap l1 l2).objs.size = s.heap.objs.size + 2 := by rw [Heap.size_push, z1]
  have z3 : (z3H3 s.heap l1 l2 l3).objs.size = s.heap.objs.size + 3 := by rw [Heap.size_push, z2]
  have z4 : (z3H4 s.heap l1 l2 l3).objs.size = s.heap.objs.size + 4 := by rw [Heap.size_push, z3]
  have z5 : (z3H5 s.heap l1 l2 l3).objs.size = s.heap.objs.size + 5 := by rw [Heap.size_push, z4]
  have z6 : (z3H6 s.heap l1 l2 l3).objs.size = s.heap.objs.size + 6 := by rw [Heap.size_push, z5]
  have g6 : (z3H6 s.heap l1 l2 l3).get? (z3H5 s.heap l1 l2 l3).objs.size = some _ := Heap.get?_push_size _ rfl
  have g5 : (z3H6 s.heap l1 l2 l3).get? (z3H4 s.heap l1 l2 l3).objs.size = some _ := Heap.get?_push_of_some _ (Heap.get?_push_size _ rfl)
  have g4 : (z3H6 s.heap l1 l2 l3).get? (z3H3 s.heap l1 l2 l3).objs.size = some _ := Heap.get?_push_of_some _ (Heap.get?_push_of_some _ (Heap.get?_push_size _ rfl))
  have g3 : (z3H6 s.heap l1 l2 l3).get? (z3H2 s.heap l1 l2).objs.size = some _ := Heap.get?_push_of_some _ (Heap.get?_push_of_some _ (Heap.get?_push_of_some _ (Heap.get?_push_size _ rfl)))
  have g2 : (z3H6 s.heap l1 l2 l3).get? (z3H1 s.heap l1).objs.size = some _ := Heap.get?_push_of_some _ (Heap.get?_push_of_some _ (Heap.get?_push_of_some _ (Heap.get?_push_of_some _ (Heap.get?_push_size _ rfl))))
  have g1 : (z3H6 s.heap l1 l2 l3).get? s.heap.objs.size = some _ := Heap.get?_push_of_some _ (Heap.get?_push_of_some _ (Heap.get?_push_of_some _ (Heap.get?_push_of_some _ (Heap.get?_push_of_some _ (Heap.get?_push_size _ rfl)))))
  show _ ∧ _
  rw [z3, z4, z5] at g6
  rw [z1, z2, z3] at g4
  rw [z4] at g5
  rw [z2] at g3
  rw [z1] at g2
  rw [z5]
  exact ⟨⟨_, g6, rfl⟩, h _ g6 g4 g5 ⟨_, g1, rfl, rfl⟩ ⟨_, g2, rfl, rfl⟩ ⟨_, g3, rfl, rfl⟩ z6 fun c o x =>
    Heap.get?_push_of_some _ (Heap.get?_push_of_some _ (Heap.get?_push_of_some _ (Heap.get?_push_of_some _ (Heap.get?_push_of_some _ (Heap.get?_push_of_some _ x)))))⟩
end
/-- the three lists of length n, the items in new triples -/
def Itz3 (K : PySem.W.Frag) (n : Nat) (a b c : Addr) : It :=
  ⟨fun i H => ∃ (xs ys zs : List V) (x y v : V), SqL K H a xs ∧ SqL K H b ys ∧ SqL K H c zs ∧ xs[i]? = some x ∧ ys[i]? = some y ∧ zs[i]? = some v,
    fun i H r H' => ∃ T x y v, r = .ref T ∧ H T = none ∧ H' = upd H T (.tup [x, y, v]) ∧ (∀ xs, SqL K H a xs → xs[i]? = some x) ∧ (∀ ys, SqL K H b ys → ys[i]? = some y) ∧ ∀ zs, SqL K H c zs → zs[i]? = some v,
    fun i H => ∃ xs : List V, SqL K H a xs ∧ xs.length ≤ i⟩
theorem turn_zip3 {P : Program} {w : World} {K : PySem.W.Frag} {elts : List Expr} {kk N : Nat} {tpos : Pos} {a b c z TI TO i1 i2 i3 : Addr} (D : Apart3 z TI TO i1 i2 i3 a b c) :
    Turn P w K (.Tuple elts kk tpos) (Itz3 K N a b c) [z, TI, TO, i1, i2, i3] z (fun i h => IsZip h z TI TO .none ∧ IsTrip h TI (.ref i1) (.ref i2) (.ref i3) ∧ (∃ x y v, IsTrip h TO x y v) ∧ h.IsListIter i1 a i ∧ h.IsListIter i2 b i ∧ h.IsListIter i3 c i) where
  mem := by simp
  obj := fun i h st c hc => by
    obtain ⟨hz, hTI, ⟨x, y, v, hTO⟩, ⟨o1, e1, _, d1⟩, ⟨o2, e2, _, d2⟩, ⟨o3, e3, _, d3⟩⟩ := st
    have e' : c = z ∨ c = TI ∨ c = TO ∨ c = i1 ∨ c = i2 ∨ c = i3 := by simpa using hc
    rcases e' with q | q | q | q | q | q
    · rw [q]; exact ⟨_, hz, fun v q => nomatch q⟩
    · rw [q]; exact ⟨_, hTI, fun v q => nomatch q⟩
    · rw [q]; exact ⟨_, hTO, fun v q => nomatch q⟩
    · rw [q]; exact ⟨o1, e1, fun v q => by rw [d1] at q; cases q⟩
    · rw [q]; exact ⟨o2, e2, fun v q => by rw [d2] at q; cases q⟩
    · rw [q]; exact ⟨o3, e3, fun v q => by rw [d3] at q; cases q⟩
  keep := fun i h h' st k => by
    obtain ⟨hz, hTI, ⟨x, y, v, hTO⟩, h1, h2, h3⟩ := st
    exact ⟨k z (by simp) _ hz, k TI (by simp) _ hTI, ⟨x, y, v, k TO (by simp) _ hTO⟩, h1.at fun o q => k i1 (by simp) o q, h2.at fun o q => k i2 (by simp) o q, h3.at fun o q => k i3 (by simp) o q⟩
  item := by
    intro X hP hw hK hc i pins s σ H E I hf st hg
    subst hP hw hK
    obtain ⟨hz, hTI, ⟨x0, y0, v0, hTO⟩, h1, h2, h3⟩ := st
    obtain ⟨xs, ys, zs, x, y, v, hqx, hqy, hqv, hx, hy, hv⟩ := hg
    obtain ⟨its, rv, p, _⟩ := I.list hqx
    obtain ⟨its2, rv2, p2, _⟩ := I.list hqy
    obtain ⟨its3, rv3, p3, _⟩ := I.list hqv
    obtain ⟨u, hu, ru⟩ := rv.get hx
    obtain ⟨u2, hu2, ru2⟩ := rv2.get hy
    obtain ⟨u3, hu3, ru3⟩ := rv3.get hv
    have hzl : z < s.heap.objs.size := Heap.lt_size hz
    refine pyNext_zip3_item D hz hTI hTO h1 h2 h3 p.isList p2.isList p3.isList (x := u) (y := u2) (v := u3) (by simpa using hu) (by simpa using hu2) (by simpa using hu3) fun h' z' TO' h1' h2' h3' hT hsz hk => ?_
    refine ⟨_, rfl, wpAny_letOwnedTupleGo_zip (s := { s with heap := h' }) z' fun h'' z'' sb => ?_⟩
    have hT2 : h''.get? s.heap.objs.size = some { cls := .type "tuple", data := .seq #[u, u2, u3] } := (sb.2 _ (Nat.ne_of_gt hzl)).trans hT
    have new : ObjOk X.prog X.w (upd H s.heap.objs.size (.tup [x, y, v])) h'' s.heap.objs.size (.tup [x, y, v]) :=
      ⟨by show 3 ≤ sizeLine; decide, [u, u2, u3], .cons ru (.cons ru2 (.cons ru3 .nil)), ⟨_, hT2, rfl, _, rfl⟩⟩
    have I1 : Inv X pins σ (upd H s.heap.objs.size (.tup [x, y, v])) { s with heap := h'' } :=
      I.turnedNew (t' := s.toks) (ch := [z, TI, TO, i1, i2, i3]) (fun c o hb q => (sb.2 c (fun q' => hb (by simp [q']))).trans (hk c o (fun q' => hb (by simp [q'])) (fun q' => hb (by simp [q'])) (fun q' => hb (by simp [q'])) (fun q' => hb (by simp [q'])) (fun q' => hb (by simp [q'])) q)) hf (Nat.le_refl _) new
    refine ⟨.ref s.heap.objs.size, _, I1, rfl, ⟨_, x, y, v, rfl, I.hok.fresh (Nat.le_refl _), rfl, fun l hl => by rw [I.list_inj hl hqx]; exact hx, fun l hl => by rw [I.list_inj hl hqy]; exact hy, fun l hl => by rw [I.list_inj hl hqv]; exact hv⟩, ⟨z'', ?_, ⟨u, u2, u3, ?_⟩, ?_, ?_, ?_⟩, fun c hcm => ?_⟩
    · exact (sb.2 _ D.TIz).trans (hk _ _ D.TIz D.TITO D.TIi1 D.TIi2 D.TIi3 hTI)
    · exact (sb.2 _ D.TOz).trans TO'
    · exact h1'.at fun o q => (sb.2 _ D.i1z).trans q
    · exact h2'.at fun o q => (sb.2 _ D.i2z).trans q
    · exact h3'.at fun o q => (sb.2 _ D.i3z).trans q
    · have hlt : c < s.heap.objs.size := by
        have e' : c = z ∨ c = TI ∨ c = TO ∨ c = i1 ∨ c = i2 ∨ c = i3 := by simpa using hcm
        rcases e' with q | q | q | q | q | q
        · rw [q]; exact hzl
        · rw [q]; exact Heap.lt_size hTI
        · rw [q]; exact Heap.lt_size hTO
        · rw [q]; obtain ⟨_, e1, _⟩ := h1; exact Heap.lt_size e1
        · rw [q]; obtain ⟨_, e2, _⟩ := h2; exact Heap.lt_size e2
        · rw [q]; obtain ⟨_, e3, _⟩ := h3; exact Heap.lt_size e3
      rw [upd_ne (Nat.ne_of_lt hlt)]
      exact (hf c hcm).1
  done := by
    intro X hP hw hK hc i pins s σ H E I hf st hg
    subst hP hw hK
    obtain ⟨hz, hTI, ⟨x0, y0, v0, hTO⟩, h1, h2, h3⟩ := st
    obtain ⟨xs, hqx, hend⟩ := hg
    obtain ⟨its, rv, p, _⟩ := I.list hqx
    have l1 := rv.length
    have he : its.toArray[i]? = none := by simp; omega
    exact pyNext_zip3_end (I.ok.hd hc) D hz hTI hTO h1 p.isList he fun h' hk => ⟨rfl, I.turnedL (t' := s.toks) (ch := [z, TI, TO, i1, i2, i3]) (fun c o hb q =>
      hk c o (fun q' => hb (by simp [q'])) (fun q' => hb (by simp [q'])) (fun q' => hb (by simp [q'])) (fun q' => hb (by simp [q'])) (fun q' => hb (by simp [q'])) q) hf⟩
  self := fun A i s Q E st h => wpAny_pyIter_zip st.1 h
def iZip3 (K : PySem.W.Frag) (ta : TA) : TI := fun σ H R => ta σ H fun vs H1 => ∃ a b c xs ys zs, vs = [.ref a, .ref b, .ref c] ∧ SqL K H1 a xs ∧ SqL K H1 b ys ∧ SqL K H1 c zs ∧ R (Itz3 K 0 a b c) H1
theorem pi_zip3 {X : Cx} {e e2 e3 : Expr} {ta : TA} {p pos tpos : Pos} {elts : List Expr} {kk : Nat} (K : PySem.W.Frag) (hg : Gl X "zip") (hm : X.mg "zip" = none) (ha : PA X [e, e2, e3] ta)
    (hs : starEach [e, e2, e3] X.env = (false, eval e X.env) :: starEach [e2, e3] X.env := by rfl) (hpl : (backTo pos (starEach [e2, e3] X.env)).any (·.1) = false := by rfl) (hK : X.K = K := by rfl) :
    PI X (.Tuple elts kk tpos) (.Call (.Name "zip" p) [e, e2, e3] [] pos) (iZip3 K ta) := by
  subst hK
  refine ⟨fun pins s σ H R I h => ?_⟩
  refine Call_ (ld_blt I hg hm PyProof.Rows.boot_zip (PyProof.Rows.callWith_type1 (thn (ha.run pos pins s σ H _ I h) fun us s1 ⟨vs, H1, I1, r1, q1⟩ => ?_) hs hpl))
  obtain ⟨a, b, c, xs, ys, zs, ex, hqx, hqy, hqz, q⟩ := q1
  subst ex
  cases r1 with
  | cons r rr =>
    cases rr with
    | cons r' rr =>
      cases rr with
      | cons r'' rr =>
        cases rr
        cases r
        cases r'
        cases r''
        obtain ⟨its, rv, p1, _⟩ := I1.list hqx
        obtain ⟨its2, rv2, p2, _⟩ := I1.list hqy
        obtain ⟨its3, rv3, p3, _⟩ := I1.list hqz
        have la : a < s1.heap.objs.size := p1.lt
        have lb : b < s1.heap.objs.size := p2.lt
        have lc : c < s1.heap.objs.size := p3.lt
        refine call_zip_3 p1.isList p2.isList p3.isList fun h' hz hTI hTO h1 h2 h3 hsz hk => wpAny_pyIter_zip hz ?_
        have I2 : Inv X pins σ H1 { s1 with heap := h' } := I1.kept (t' := s1.toks) hk
        refine ⟨s1.heap.objs.size + 5, [s1.heap.objs.size + 5, s1.heap.objs.size + 3, s1.heap.objs.size + 4, s1.heap.objs.size, s1.heap.objs.size + 1, s1.heap.objs.size + 2], _, _, H1, rfl, I2, turn_zip3 (apart3 s1.heap.objs.size a b c la lb lc), ⟨hz, hTI, ⟨_, _, _, hTO⟩, h1, h2, h3⟩, fun c hcm => ?_, q⟩
        have e' : c = s1.heap.objs.size + 5 ∨ c = s1.heap.objs.size + 3 ∨ c = s1.heap.objs.size + 4 ∨ c = s1.heap.objs.size ∨ c = s1.heap.objs.size + 1 ∨ c = s1.heap.objs.size + 2 := by simpa using hcm
        have hle : s1.heap.objs.size ≤ c := by
          rcases e' with z | z | z | z | z | z
          · rw [z]; exact Nat.le_add_right _ _
          · rw [z]; exact Nat.le_add_right _ _
          · rw [z]; exact Nat.le_add_right _ _
          · rw [z]; exact Nat.le_refl _
          · rw [z]; exact Nat.le_add_right _ _
          · rw [z]; exact Nat.le_add_right _ _
        exact I1.fpOk hle (I1.hok.fresh hle)
theorem r_zip3 {K : PySem.W.Frag} {ta : TA} {σ : St} {H : Hp} {R : It → Hp → Prop} (k : ta σ H fun vs H1 => ∃ a b c xs ys zs, vs = [.ref a, .ref b, .ref c] ∧ SqL K H1 a xs ∧ SqL K H1 b ys ∧ SqL K H1 c zs ∧ R (Itz3 K 0 a b c) H1) : iZip3 K ta σ H R := k
/-- what one turn yields -/
def Y3 (xs ys zs : List V) : Nat → Hp → V → Hp → Prop := fun i H r H' => ∃ T x y v, r = .ref T ∧ H T = none ∧ H' = upd H T (.tup [x, y, v]) ∧ xs[i]? = some x ∧ ys[i]? = some y ∧ zs[i]? = some v
theorem walk_zip3 {K : PySem.W.Frag} {a b c : Addr} {xs ys zs : List V} (h1 : ys.length = xs.length) (h2 : zs.length = xs.length) : Walk (Itz3 K 0 a b c) xs.length (fun H => SqL K H a xs ∧ SqL K H b ys ∧ SqL K H c zs) (Y3 xs ys zs) where
  goes := fun i H hi ⟨ha, hb, hc⟩ => ⟨xs, ys, zs, _, _, _, ha, hb, hc, List.getElem?_eq_getElem hi, List.getElem?_eq_getElem (h1 ▸ hi), List.getElem?_eq_getElem (h2 ▸ hi)⟩
  stops := fun H ⟨ha, hb, hc⟩ => ⟨xs, ha, Nat.le_refl _⟩
  yields := fun i H x H' hi ⟨ha, hb, hc⟩ ⟨T, u, v, w, e, hn, hu, q1, q2, q3⟩ => ⟨T, u, v, w, e, hn, hu, q1 _ ha, q2 _ hb, q3 _ hc⟩
end Hg
end L2
end

section
set_option Elab.async false
set_option linter.all false
set_option maxRecDepth 100000
set_option maxHeartbeats 4000000
/-! d.update(e) of two dicts; [a, *d] of a dict's keys. -/
namespace L2
namespace Hg
open PySem PySem.Spec PyProof.Rows
section
variable {X : Cx}
theorem mergeK_len : ∀ (more kvs : List (Key × V)), (mergeK kvs more).length ≤ kvs.length + more.length
  | [], kvs => Nat.le_refl _
  | kv :: more, kvs => by
    refine Nat.le_trans (mergeK_len more (putK kvs kv.1 kv.2)) ?_
    have : (putK kvs kv.1 kv.2).length ≤ kvs.length + 1 := by
      unfold putK
      split
      · rw [List.length_map]; omega
      · rw [List.length_append]; exact Nat.le_refl _
    rw [List.length_cons]
    omega
/-- d.update(e) -/
def rDUpd : V → List V → Hp → VK → Prop := fun x vs H Q => ∃ d o kvs more, x = .ref d ∧ vs = [.ref o] ∧ d ≠ o ∧ H d = some (.dK kvs) ∧ H o = some (.dK more) ∧ kvs.length + more.length ≤ sizeLine ∧ Q .non (upd H d (.dK (mergeK kvs more)))
theorem mt_dupd : MtM X "dict.update" rDUpd := by
  intro pins s σ H x vs v us Q I rx rv h
  obtain ⟨d, o, kvs, more, rfl, rfl, hne, hd, ho, z, q⟩ := h
  cases rx
  obtain ⟨u, rfl, ru⟩ := rv.one
  cases ru
  obtain ⟨z1, m1, ws, r1, dd⟩ := dk_of I.hok hd
  obtain ⟨z2, m2, rs, r2, dd2⟩ := dk_of I.hok ho
  refine call_meetsIn PySem.F.slot_dict_update dd.typeIs PySem.F.entry_dict_update (PySem.F.args_dict_update_2 _ _) (meets_dict_update (mixKind X.prog X.w) d o hne m2) ⟨ws, rs, dd, dd2, by rw [← r1.length, ← r2.length]; exact z, fun h' dd' _ hs => ?_⟩
  have he : ∃ q, h'.get? d = some q := let ⟨q, _, _, hq, _⟩ := dd'; ⟨q, hq⟩
  exact ⟨.non, _, d_write (t' := s.toks) I (by rw [hd]; exact True.intro) hs he (dk_new (Nat.le_trans (mergeK_len more kvs) z) m1 (KV.merge r2 r1) dd'), rfl, q⟩
theorem r_dupd {d o : Addr} {kvs more : List (Key × V)} {H : Hp} {Q : VK} (hne : d ≠ o) (hd : H d = some (.dK kvs)) (ho : H o = some (.dK more)) (z : kvs.length + more.length ≤ sizeLine) (k : Q .non (upd H d (.dK (mergeK kvs more)))) : rDUpd (.ref d) [.ref o] H Q := ⟨d, o, kvs, more, rfl, rfl, hne, hd, ho, z, k⟩
end
end Hg
end L2
end

section
set_option Elab.async false
set_option linter.all false
set_option maxRecDepth 100000
set_option maxHeartbeats 4000000
/-! [a, *d] of a dict's keys. -/
namespace L2
namespace Hg
open PySem PySem.Spec PyProof.Rows
section
variable {prog : Program} {w : World} {A : Around} {E : Value → Shared → Prop} {s : Shared} {T : String} {r d : Addr} {n : Nat} {P : Nat → Value → Prop} {OK : Heap → Prop}
theorem iadd_src {R : Result → Shared → Prop} (K : PySem.W.KdlSrc prog w T r d n P OK) (hh : A.handled = none) (hok : OK s.heap) (S : Addr) (hSr : S ≠ r) (hSd : S ≠ d) (c₀ : Nat) (hS : s.heap.get? S = some { cls := .type "list", data := .seq #[] c₀ })
    (hR : ∀ h' tk acc' c', (∀ b o, b ≠ S → s.heap.get? b = some o → h'.get? b = some o) → h'.get? S = some { cls := .type "list", dict := none, data := .seq acc' c', slots := #[] } → ItemsOf P acc' n → R (.ok (.ret (.ref S))) { s with heap := h', toks := tk }) (hn : n ≤ sizeLine) :
    codeAny (model prog w) A (.builtin "list.__iadd__" ⟨[.ref S, .ref r], []⟩) R s := by
  refine codeAny_builtin PySem.F.entry_list_iadd ?_
  rw [Around.under_plainId PySem.F.plain_list_iadd _]
  show wpAny _ A.in1 (Builtin.List.listExtendWith (.ref S) (.ref r) (.ref S)) _ _ _
  exact PySem.W.kdl_extend K hh hok S hSr hSd _ c₀ hS hR hn
/-- the items of what can be gone over, one after another -/
theorem collect_src {Q : List Value → Shared → Prop} (K : PySem.W.KdlSrc prog w T r d n P OK) (hh : A.handled = none) (hok : OK s.heap) (hn : n ≤ sizeLine)
    (hQ : ∀ h' tk acc, (∀ b o, s.heap.get? b = some o → h'.get? b = some o) → ItemsOf P acc n → Q acc.toList { s with heap := h', toks := tk }) :
    wpAny (model prog w) A (collect (.ref r)) Q E s := by
  have hlt := K.there _ hok
  unfold collect
  refine wpAny_bind (wpAny_runValue (codeAny_builtin PySem.F.entry_proto_collect ?_))
  rw [Around.under_plainId PySem.F.plain_proto_collect _]
  show wpAny _ A.in1 (newList [] >>= fun l => again (.builtin "list.__iadd__" ⟨[l, .ref r], []⟩)) _ _ s
  refine wpAny_bind (wpAny_newObj_type ?_)
  have hS : (s.heap.push { cls := .type "list", data := .seq ([] : List Value).toArray }).get? s.heap.objs.size = some { cls := .type "list", data := .seq ([] : List Value).toArray } := Heap.get?_push_size _ rfl
  refine wpAny_pure ⟨plainId_quiet PySem.F.plain_list_iadd _, iadd_src K hh (K.keep _ _ hok fun b _ o e => Heap.get?_push_of_some _ e) _ (Nat.ne_of_gt hlt.1) (Nat.ne_of_gt hlt.2) _ hS (fun h' tk acc' c' hk hS' hacc => ?_) hn⟩
  show wpAny _ A (load s.heap.objs.size >>= _) _ _ _
  refine wpAny_bind (wpAny_load hS' ?_)
  exact wpAny_pure (hQ _ _ acc' (fun b o e => hk b o (Nat.ne_of_lt (Heap.lt_size e)) (Heap.get?_push_of_some _ e)) hacc)
end
section
variable {X : Cx}
theorem star_dK {pins : List (Addr × Obj)} {σ : L2.St} {H : Hp} {s : Shared} {a : Addr} {kvs : List (Key × V)} {E : Value → Shared → Prop} {Q : List Value → Shared → Prop} (hc : X.calm = true) (I : Inv X pins σ H s) (h : H a = some (.dK kvs))
    (hQ : ∀ us s', Inv X pins σ H s' → Vals (kvs.map fun kv => kV kv.1) us → Q us s') : PySem.W.StarOf (model X.prog X.w) X.A E (.ref a) Q s := by
  obtain ⟨z, lo, vs, rk, hd⟩ := (show ObjOk X.prog X.w H s.heap a (.dK kvs) from I.hok a _ h)
  obtain ⟨ep, hat⟩ := hd.dictAt
  have hl : kvs.length = vs.length := Paired.length rk
  unfold PySem.W.StarOf notIterableAtAll
  refine wpAny_bind (wpAny_specialOf hd.typeIs PySem.F.slot_dict_iter.lookup (wpAny_pure ⟨rfl, ?_⟩))
  refine collect_src (PySem.W.kdl_dict (knd := mixKind X.prog X.w) (kvs := vs) (ep := ep) lo) (I.ok.hd hc) hat (by rw [← hl]; exact z) fun h' tk acc' hkeep hacc => ?_
  refine hQ acc'.toList _ (I.kept (t' := tk) hkeep) ?_
  have el : acc'.toList.length = acc'.size := by simp
  refine vals_of_at (by rw [List.length_map, el, hacc.1, hl]) fun j x w h1 h2 => ?_
  obtain ⟨k, y, hky, hi⟩ := hacc.2 j w (by rw [← Array.getElem?_toList]; exact h2)
  have e1 : (kvs.map (·.1))[j]? = some k := by
    rw [KV.keys rk, List.getElem?_map, hky] <;> rfl
  have e2 : (kvs.map fun kv => kV kv.1)[j]? = some (kV k) := by
    have e3 : (kvs.map fun kv => kV kv.1) = (kvs.map (·.1)).map kV := by rw [List.map_map] <;> rfl
    rw [e3, List.getElem?_map, e1] <;> rfl
  rw [e2] at h1
  cases h1
  exact keyIs_rel hi
/-- *e in a display: a dict's keys -/
def tStarD (te : TE) (t : TA) : TA := fun σ H Q => te σ H fun x H1 => ∃ p kvs, x = V.ref p ∧ H1 p = some (.dK kvs) ∧ t σ H1 fun ys H2 => Q ((kvs.map fun kv => kV kv.1) ++ ys) H2
theorem pa_starD {e : Expr} {es : List Expr} {te : TE} {t : TA} {p : Pos} (hc : X.calm = true) (he : PE X e te) (hr : PA X es t) (hs : starEach (.Starred e p :: es) X.env = (true, eval e X.env) :: starEach es X.env := by rfl) : PA X (.Starred e p :: es) (tStarD te t) := by
  refine ⟨fun pos pins s σ H Q I h => ?_⟩
  refine PySem.W.items_star (thn (he.run pins s σ H _ I h) fun v s1 ⟨y, H1, I1, ry, a, kvs, ey, hx, q⟩ => ?_) hs
  subst ey
  obtain rfl : v = Value.ref a := ry
  refine star_dK hc I1 hx fun us s2 I2 rv => ?_
  exact thn (hr.run pos pins s2 σ H1 _ I2 q) fun ws s3 ⟨vs, H3, I3, r3, q3⟩ => ⟨(kvs.map fun kv => kV kv.1) ++ vs, H3, I3, rv.append r3, q3⟩
theorem r_starD {te : TE} {t : TA} {σ : L2.St} {H : Hp} {QL : List V → Hp → Prop} (k : te σ H fun x H1 => ∃ p kvs, x = V.ref p ∧ H1 p = some (.dK kvs) ∧ t σ H1 fun ys H2 => QL ((kvs.map fun kv => kV kv.1) ++ ys) H2) : tStarD te t σ H QL := k
end
end Hg
end L2
end
set_option Elab.async false
set_option linter.all false
set_option maxRecDepth 100000
set_option autoImplicit false
set_option maxHeartbeats 200000
namespace L2
namespace Hg
open PySem PySem.Spec PyProof.Rows
local macro_rules | `(tactic| tm_at "r1") => `(tactic| first
  | with_reducible refine' r_seq ?_
  | with_reducible refine' r_asg ?_
  | ((with_reducible refine' r_gNameE ?hset ?_); (case hset => ((try simp only [start, List.map_cons, List.map_nil, List.length_cons, List.length_nil, Nat.reduceAdd, Nat.reduceSub, List.replicate_succ, List.replicate_zero, List.cons_append, List.nil_append, List.set_cons_succ, List.set_cons_zero]); exact rfl)))
  | with_reducible refine' r_op ?_
  | ((with_reducible refine' r_var ?hv ?_); (case hv => rfl))
  | with_reducible refine' r_c ?_
  | with_reducible refine' r_cons ?_
  | with_reducible refine' r_nil ?_
  | with_reducible refine' r_cb ?_
  | with_reducible refine' r_call ?_
  | with_reducible refine' r_callS ?_
  | with_reducible refine' r_ifS ?_
  | with_reducible refine' r_ret ?_
  | with_reducible refine' r_drop ?_
  | with_reducible refine' r_next ?_
  | with_reducible refine' r_test ?_
  | with_reducible refine' r_B ?_
  | with_reducible refine' r_bl ?_
  | with_reducible refine' r_tru ?_
  | with_reducible refine' r_trK ?_
  | with_reducible refine' r_and ?_
  | with_reducible refine' r_or ?_
  | with_reducible refine' r_not ?_
  | with_reducible refine' r_andV ?_
  | with_reducible refine' r_orV ?_
  | with_reducible refine' r_notV ?_
  | with_reducible refine' r_if ?_
  | with_reducible refine' r_chain ?_
  | with_reducible refine' r_un ?_
  | with_reducible refine' r_for ?_
  | with_reducible refine' r_rng1 ?_
  | with_reducible refine' r_rng2 ?_
  | with_reducible refine' r_iL ?_
  | with_reducible refine' r_iT ?_
  | with_reducible refine' r_lc ?_
  | with_reducible refine' r_yes ?_
  | with_reducible refine' r_gCons ?_
  | with_reducible refine' r_gNil ?_
  | with_reducible refine' r_pairs ?_
  | with_reducible refine' r_pairs0 ?_
  | with_reducible refine' r_disp ?_
  | with_reducible refine' r_dput ?_
  | with_reducible refine' r_dget ?_
  | with_reducible refine' r_veI ?_
  | with_reducible refine' r_sFld ?_
  | with_reducible refine' r_fld ?_
  | with_reducible refine' r_makeS ?_
  | with_reducible refine' r_make ?_
  | with_reducible refine' r_lst ?_
  | with_reducible refine' r_tup ?_
  | with_reducible refine' r_addI ?_
  | with_reducible refine' r_sub ?_
  | with_reducible refine' r_lt ?_
  | with_reducible refine' r_le ?_
  | with_reducible refine' r_gt ?_
  | with_reducible refine' r_ge ?_
  | with_reducible refine' r_abs ?_
  | with_reducible refine' r_intI ?_
  | with_reducible refine' r_intB ?_
  | with_reducible refine' r_min2 ?_
  | with_reducible refine' r_max2 ?_
  | with_reducible refine' r_isN ?_
  | with_reducible refine' r_notN ?_
  | with_reducible refine' r_neg ?_
  | ((with_reducible refine' r_mod ?hv ?_); (case hv => decide))
  | ((with_reducible refine' r_mul (cmulL ?hv) ?_); (case hv => decide))
  | ((with_reducible refine' r_mul (cmulR ?hv) ?_); (case hv => decide))
  | ((with_reducible refine' r_pow ?hv ?_); (case hv => refine ⟨?_, ?_, ?_⟩ <;> decide))
  | with_reducible refine' r_T ?_
  | with_reducible refine' r_nT ?_
  | with_reducible refine' r_nF ?_
  | with_reducible refine' r_F ?_
  | with_reducible refine' r_meth ?_
  | with_reducible refine' r_metS ?_
  | with_reducible refine' r_prop ?_
  | with_reducible refine' r_star ?_
  | with_reducible refine' r_starD ?_
  | with_reducible refine' r_par ?_
  | with_reducible refine' r_par3 ?_
  | with_reducible refine' r_v2 ?_
  | with_reducible refine' r_v3 ?_
  | with_reducible refine' r_sl ?_
  | with_reducible refine' r_part ?_
  | with_reducible refine' r_noPart ?_
  | with_reducible refine' r_i ?_
  | with_reducible refine' r_gSub ?_
  | with_reducible refine' r_gFld ?_
  | with_reducible refine' r_xf ?_
  | with_reducible refine' r_bm ?_
  | with_reducible refine' r_iU ?_
  | with_reducible refine' r_keys ?_
  | with_reducible refine' r_din ?_
  | with_reducible refine' r_dc ?_
  | with_reducible refine' r_fs ?_
  | with_reducible refine' r_js ?_
  | with_reducible refine' r_js0 ?_
  | with_reducible refine' r_fmt ?_
  | with_reducible refine' r_m1 ?_
  | with_reducible refine' r_isS ?_
  | with_reducible refine' r_bm0 ?_
  | with_reducible refine' r_trO ?_
  | with_reducible refine' r_cm ?_
  | with_reducible refine' r_cmS ?_
  | with_reducible refine' r_isC ?_
  | with_reducible refine' r_makeS ?_
  | with_reducible refine' r_revL ?_
  | with_reducible refine' r_ckw ?_
  | with_reducible refine' r_iStr ?_
  | ((with_reducible refine' r_makeL ?hv ?_); (case hv => rfl))
  | with_reducible refine' r_subO ?_
  | fail)
local macro_rules | `(tactic| tm_at "rd") => `(tactic| repeat tm_at "r1")
local macro_rules | `(tactic| tm_at "hs") => `(tactic| first
  | with_reducible assumption
  | (with_reducible refine' upd_same)
  | ((with_reducible refine' at_upd ?hn ?ho); (case hn => tm_at "ne"); (case ho => tm_at "hs"))
  | ((with_reducible refine' Bx.keep ?hx _ _ ?hn ?ho); (case hx => with_reducible assumption); (case hn => tm_at "ne"); (case ho => tm_at "hs"))
  | ((with_reducible refine' Same.at ?hx ?ho); (case hx => with_reducible assumption); (case ho => tm_at "hs"))
  | ((with_reducible refine' Kx.at ?hx ?hn ?ho); (case hx => with_reducible assumption); (case hn => tm_at "ne"); (case ho => tm_at "hs"))
  | fail)
local macro_rules | `(tactic| tm_at "ne") => `(tactic| first
  | with_reducible assumption
  | ((with_reducible refine' Ne.symm ?ha); (case ha => with_reducible assumption))
  | ((with_reducible refine' ne_of_none ?ha ?hb); (case hb => with_reducible assumption); (case ha => with_reducible assumption))
  | ((with_reducible refine' Ne.symm (ne_of_none ?ha ?hb)); (case hb => with_reducible assumption); (case ha => with_reducible assumption))
  | ((with_reducible refine' ne_of_none ?ha ?hb); (case hb => with_reducible assumption); (case ha => tm_at "hs"))
  | ((with_reducible refine' Ne.symm (ne_of_none ?ha ?hb)); (case hb => with_reducible assumption); (case ha => tm_at "hs"))
  | fail)
local macro_rules | `(tactic| tm_at "fr") => `(tactic| repeat (rename upd _ _ _ _ = Option.none => hfr; have hfr2 := free_upd hfr; clear hfr; obtain ⟨hfr3, hfr4⟩ := hfr2))
local macro_rules | `(tactic| tm_at "sq") => `(tactic| first
  | with_reducible assumption
  | ((with_reducible refine' SqL.of ?ho); (case ho => tm_at "hs"))
  | ((with_reducible refine' SqT.of ?ho); (case ho => tm_at "hs"))
  | fail)
local macro_rules | `(tactic| tm_at "r2") => `(tactic| first
  | tm_at "r1"
  | ((with_reducible refine' r_ixL ?ha ?hb ?_); (case ha => tm_at "sq"); (case hb => rfl))
  | ((with_reducible refine' r_ixT ?ha ?hb ?_); (case ha => tm_at "sq"); (case hb => rfl))
  | ((with_reducible refine' r_setL ?ha ?hb ?_); (case ha => tm_at "hs"); (case hb => rfl))
  | ((with_reducible refine' r_lenL ?ha ?_); (case ha => tm_at "sq"))
  | ((with_reducible refine' r_lenT ?ha ?_); (case ha => tm_at "sq"))
  | fail)
local macro_rules | `(tactic| tm_at "go") => `(tactic| repeat tm_at "r2")
local macro_rules | `(tactic| tm_at "fn") => `(tactic| first
  | with_reducible assumption
  | ((with_reducible refine' Same.free ?hs ?hn); (case hn => with_reducible assumption); (case hs => tm_at "sm"))
  | fail)
local macro_rules | `(tactic| tm_at "sm") => `(tactic| first
  | with_reducible assumption
  | with_reducible refine' Same.refl
  | ((with_reducible refine' Same.new ?ha ?hb); (case hb => with_reducible assumption); (case ha => tm_at "sm"))
  | ((with_reducible refine' Same.updF ?ha ?hb); (case hb => tm_at "fn"); (case ha => tm_at "sm"))
  | ((with_reducible refine' Same.bx ?ha ?hx ?hb); (case hx => with_reducible assumption); (case hb => tm_at "fn"); (case ha => tm_at "sm"))
  | ((with_reducible refine' Same.kx ?ha ?hx ?hb); (case hx => with_reducible assumption); (case hb => tm_at "fn"); (case ha => tm_at "sm"))
  | ((with_reducible refine' Same.trans ?ha ?hx); (case hx => with_reducible assumption); (case ha => tm_at "sm"))
  | fail)
local macro_rules | `(tactic| tm_at "tk") => `(tactic| first
  | with_reducible assumption
  | with_reducible refine' Tk.refl
  | ((with_reducible refine' Tk.new ?ha ?hb); (case hb => with_reducible assumption); (case ha => tm_at "tk"))
  | ((with_reducible refine' Tk.setL ?ha ?hb); (case hb => tm_at "hs"); (case ha => tm_at "tk"))
  | ((with_reducible refine' Tk.setI ?ha ?hb); (case hb => tm_at "hs"); (case ha => tm_at "tk"))
  | ((with_reducible refine' Tk.trans ?ha (Bx.tk ?hx ?hb)); (case hx => with_reducible assumption); (case hb => tm_at "bx"); (case ha => tm_at "tk"))
  | ((with_reducible refine' Tk.trans ?ha (Kx.tk ?hx ?hb)); (case hx => with_reducible assumption); (case hb => tm_at "hs"); (case ha => tm_at "tk"))
  | ((with_reducible refine' Tk.trans ?ha (Same.tk ?hx)); (case hx => with_reducible assumption); (case ha => tm_at "tk"))
  | ((with_reducible refine' Tk.trans ?ha ?hx); (case hx => with_reducible assumption); (case ha => tm_at "tk"))
  | fail)
local macro_rules | `(tactic| tm_at "bx") => `(tactic| first
  | with_reducible assumption
  | ((with_reducible refine' Bx.box ?hx); (case hx => with_reducible assumption))
  | ((with_reducible refine' BoxAt.at ?ha ?hn); (case hn => tm_at "ne"); (case ha => tm_at "bx"))
  | ((with_reducible refine' BoxAt.same ?ha ?hs); (case hs => with_reducible assumption); (case ha => tm_at "bx"))
  | exact ⟨_, _, _, by tm_at "hs"⟩
  | fail)
section
variable {P : Program} {w : World} {K : PySem.W.Frag} {mg : Str → Option Value} {base : Heap} {aGround aNum aInv : Addr}
def top (i : Nat) : Stmt := PySem.Challenge.pw_heldground_k08_divisors_of_sets.main.body.getD i (.Pass ⟨0, 0, 0, 0⟩)
abbrev s_law_box : Stmt := top 23
theorem sc_law_box : FnScope ["_law_script", "_law_k", "_law_own", "_law_cell", "_law_seed"] ["_law_script", "_law_k", "_law_own"] (defScope s_law_box) := ⟨rfl, rfl, rfl, by decide +kernel, rfl, by decide +kernel, by decide +kernel⟩
abbrev s_law_take : Stmt := top 24
theorem sc_law_take : FnScope ["_law_box_here", "_law_many", "_law_raw", "_law_wide", "_law_digit"] ["_law_box_here", "_law_many"] (defScope s_law_take) := ⟨rfl, rfl, rfl, by decide +kernel, rfl, by decide +kernel, by decide +kernel⟩
abbrev s_law_pick : Stmt := top 25
theorem sc_law_pick : FnScope ["_law_box_here", "_law_items"] ["_law_box_here", "_law_items"] (defScope s_law_pick) := ⟨rfl, rfl, rfl, by decide +kernel, rfl, by decide +kernel, by decide +kernel⟩
abbrev s_law_some : Stmt := top 26
theorem sc_law_some : FnScope ["_law_box_here", "_law_most", "_law_ones", "_law_form", "_law_rests", "_law_since", "_law_period", "_law_small", "_law_size", "_law_number", "_law_rest"] ["_law_box_here", "_law_most"] (defScope s_law_some) := ⟨rfl, rfl, rfl, by decide +kernel, rfl, by decide +kernel, by decide +kernel⟩
abbrev s_law_divides : Stmt := top 28
theorem sc_law_divides : FnScope ["_law_given", "_law_number", "_law_start", "_law_ones", "_law_since", "_law_period", "_law_rests", "_law_met", "_law_one", "_law_turn", "_law_rest"] ["_law_given", "_law_number"] (defScope s_law_divides) := ⟨rfl, rfl, rfl, by decide +kernel, rfl, by decide +kernel, by decide +kernel⟩
abbrev s_law_common_divides : Stmt := top 29
theorem sc_law_common_divides : FnScope ["_law_number", "_law_period", "_law_rest", "_law_both", "_law_size"] ["_law_number", "_law_period", "_law_rest"] (defScope s_law_common_divides) := ⟨rfl, rfl, rfl, by decide +kernel, rfl, by decide +kernel, by decide +kernel⟩
abbrev s_law : Stmt := top 30
theorem sc_law : FnScope ["_law_script", "_law_k", "_law_box_here", "_law_given", "_law_some_here", "_law_found", "_law_far", "_law_number", "_law_turn"] ["_law_script"] (defScope s_law) := ⟨rfl, rfl, rfl, by decide +kernel, rfl, by decide +kernel, by decide +kernel⟩
abbrev s_is_integer : Stmt := top 8
theorem sc_is_integer : FnScope ["value"] ["value"] (defScope s_is_integer) := ⟨rfl, rfl, rfl, by decide +kernel, rfl, by decide +kernel, by decide +kernel⟩
abbrev s_all_from : Stmt := top 14
theorem sc_all_from : FnScope ["values", "least", "most", "one"] ["values", "least", "most"] (defScope s_all_from) := ⟨rfl, rfl, rfl, by decide +kernel, rfl, by decide +kernel, by decide +kernel⟩
abbrev s_is_told : Stmt := top 15
theorem sc_is_told : FnScope ["form", "number", "some", "since", "period", "rests"] ["form", "number"] (defScope s_is_told) := ⟨rfl, rfl, rfl, by decide +kernel, rfl, by decide +kernel, by decide +kernel⟩
abbrev s_least_period : Stmt := top 16
theorem sc_least_period : FnScope ["period", "rests", "size", "short", "rest"] ["period", "rests"] (defScope s_least_period) := ⟨rfl, rfl, rfl, by decide +kernel, rfl, by decide +kernel, by decide +kernel⟩
abbrev s_least_form : Stmt := top 17
theorem sc_least_form : FnScope ["told", "since", "period", "rests", "known", "number"] ["told", "since", "period", "rests"] (defScope s_least_form) := ⟨rfl, rfl, rfl, by decide +kernel, rfl, by decide +kernel, by decide +kernel⟩
abbrev s_greatest_common : Stmt := top 13
theorem sc_greatest_common : FnScope ["one", "other", "first", "second"] ["one", "other"] (defScope s_greatest_common) := ⟨rfl, rfl, rfl, by decide +kernel, rfl, by decide +kernel, by decide +kernel⟩
abbrev s_merged : Stmt := top 18
theorem sc_merged : FnScope ["one", "other", "tells", "since", "period", "numbers", "first", "second", "kept", "number", "here", "there"] ["one", "other", "tells"] (defScope s_merged) := ⟨rfl, rfl, rfl, by decide +kernel, rfl, by decide +kernel, by decide +kernel⟩
abbrev s_divisors_of : Stmt := top 19
theorem sc_divisors_of : FnScope ["number", "found", "small"] ["number"] (defScope s_divisors_of) := ⟨rfl, rfl, rfl, by decide +kernel, rfl, by decide +kernel, by decide +kernel⟩
abbrev s_Numbers__init : Stmt := inClass (top 20) 0
theorem sc_Numbers__init : FnScope ["self", "listed", "since", "period", "rests"] ["self", "listed", "since", "period", "rests"] (defScope s_Numbers__init) := ⟨rfl, rfl, rfl, by decide +kernel, rfl, by decide +kernel, by decide +kernel⟩
abbrev s_Numbers_every : Stmt := inClass (top 20) 2
theorem sc_Numbers_every : FnScope ["cls"] ["cls"] (defScope s_Numbers_every) := ⟨rfl, rfl, rfl, by decide +kernel, rfl, by decide +kernel, by decide +kernel⟩
abbrev s_Numbers_multiples : Stmt := inClass (top 20) 3
theorem sc_Numbers_multiples : FnScope ["cls", "number"] ["cls", "number"] (defScope s_Numbers_multiples) := ⟨rfl, rfl, rfl, by decide +kernel, rfl, by decide +kernel, by decide +kernel⟩
abbrev s_Numbers_form : Stmt := inClass (top 20) 7
theorem sc_Numbers_form : FnScope ["self"] ["self"] (defScope s_Numbers_form) := ⟨rfl, rfl, rfl, by decide +kernel, rfl, by decide +kernel, by decide +kernel⟩
abbrev s_Numbers_dividing : Stmt := inClass (top 20) 8
theorem sc_Numbers_dividing : FnScope ["self", "known", "number", "since", "rests", "listed", "common", "small", "rest"] ["self"] (defScope s_Numbers_dividing) := ⟨rfl, rfl, rfl, by decide +kernel, rfl, by decide +kernel, by decide +kernel⟩
abbrev s_Numbers__contains : Stmt := inClass (top 20) 9
theorem sc_Numbers__contains : FnScope ["self", "value"] ["self", "value"] (defScope s_Numbers__contains) := ⟨rfl, rfl, rfl, by decide +kernel, rfl, by decide +kernel, by decide +kernel⟩
abbrev s_Numbers__bool : Stmt := inClass (top 20) 10
theorem sc_Numbers__bool : FnScope ["self"] ["self"] (defScope s_Numbers__bool) := ⟨rfl, rfl, rfl, by decide +kernel, rfl, by decide +kernel, by decide +kernel⟩
abbrev s_Numbers__eq : Stmt := inClass (top 20) 14
theorem sc_Numbers__eq : FnScope ["self", "other", "here"] ["self", "other"] (defScope s_Numbers__eq) := ⟨rfl, rfl, rfl, by decide +kernel, rfl, by decide +kernel, by decide +kernel⟩
abbrev s_Numbers__sub : Stmt := inClass (top 20) 17
theorem sc_Numbers__sub : FnScope ["self", "other", "one", "two", "listed", "since", "period", "rests"] ["self", "other"] (defScope s_Numbers__sub) := ⟨rfl, rfl, rfl, by decide +kernel, rfl, by decide +kernel, by decide +kernel⟩
abbrev s_Numbers__le : Stmt := inClass (top 20) 20
theorem sc_Numbers__le : FnScope ["self", "other"] ["self", "other"] (defScope s_Numbers__le) := ⟨rfl, rfl, rfl, by decide +kernel, rfl, by decide +kernel, by decide +kernel⟩
abbrev s_InvalidNumbers__init : Stmt := inClass (top 2) 0
theorem sc_InvalidNumbers__init : FnScope ["self", "word"] ["self", "word"] (defScope s_InvalidNumbers__init) := ⟨rfl, rfl, rfl, by decide +kernel, rfl, by decide +kernel, by decide +kernel⟩
structure Txt (K : PySem.W.Frag) (mg : Str → Option Value) (aGround aNum aInv : Addr) : Prop where
  m_GroundError : mg "GroundError" = some (.ref aGround)
  b_GroundError : BaseInit K aGround
  m_InvalidNumbers : mg "InvalidNumbers" = some (.ref aInv)
  clN : Cls K aNum
  nL : NoAttr K aNum "listed"
  nS : NoAttr K aNum "since"
  nP : NoAttr K aNum "period"
  nR : NoAttr K aNum "rests"
  xw : PySem.W.findIn K (.ref aInv) "word" = some none
  tyN : ∀ (H : Hp) (a dx : Addr) (fs : List (Str × V)), H a = some (.ins aNum dx fs) → TyX K H (.ref a) (.ref aNum)
  m_Numbers : mg "Numbers" = some (.ref aNum)
  sf : PySem.W.selfFirst K aNum = true
  ni_sub : noIp K aNum "sub" = true
  ne_Numbers : PySem.W.findIn K (.ref aNum) "__ne__" = some (some (.builtin "object.__ne__"))
  ob_Numbers : PySem.W.mroIn K aNum (.type "object") = some true
  n_int : mg "int" = none
  n_len : mg "len" = none
  n_abs : mg "abs" = none
  n_range : mg "range" = none
  n_min : mg "min" = none
  n_max : mg "max" = none
  n_bool : mg "bool" = none
  n_isinstance : mg "isinstance" = none
  n_tuple : mg "tuple" = none
  n_list : mg "list" = none
  n_all : mg "all" = none
  n_sorted : mg "sorted" = none
  n_zip : mg "zip" = none
  n_any : mg "any" = none
theorem divw {a m : Int} (h1 : 1 ≤ m) (h2 : m < 100000000000000000000) : CDivW a m := by
  refine ⟨by omega, ?_⟩
  have e : m.natAbs ≠ 0 := by omega
  refine (Nat.log2_lt e).mpr (Nat.lt_of_lt_of_le (m := 100000000000000000000) (by omega) ?_)
  exact Nat.le_trans (Nat.le_of_ble_eq_true (by decide +kernel) : 100000000000000000000 ≤ 2 ^ 100) (Nat.pow_le_pow_right (by decide) (by decide))
theorem ok_take (F : DefAt K mg "_law_take" s_law_take) (T : Txt K mg aGround aNum aInv) : DefOk P w K mg base CX0 1 "_law_take" ["_law_box_here", "_law_many"] spTake := by
  refine F.ok sc_law_take (fun _ _ _ _ _ _ us hl => match us, hl with | [_, _], _ => rfl) (fun vs H Q E h => ?_) (fun f cdv A outer s H vs Q E hr h => ?_)
  · obtain ⟨b, m, rfl, _⟩ := h
    rfl
  · obtain ⟨b, m, rfl, ⟨x, y, z, hb⟩, m1, m2, k⟩ := h
    refine ⟨_, (pss_cons (ps_if (pt_cmpR o_gt (pe_ix (ix_u K) (pv 0) pe_int (fun _ _ => rfl)) pe_int (nomark _)) (pss_cons (ps_set (i := 4) sc_law_take.nd rfl (Or.inl rfl) (pe_op o_mod (pe_callTy c_int (by rfl) T.n_int (by decide +kernel) (pa_cons (pe_ix (ix_u K) (pv 0) pe_int (fun _ _ => rfl)) pa_nil)) (pv 1)))
  (pss_cons (ps_asg (pe_op o_div (pe_ix (ix_u K) (pv 0) pe_int (fun _ _ => rfl)) (pv 1)) (pg_sub (pv 0) pe_int set_list))
  (pss_one (ps_ret (pv 4)))))
  pss_nil)
  (pss_cons (ps_asg (pe_op (o_add K) (pe_ix (ix_u K) (pv 0) pe_int (fun _ _ => rfl)) pe_int) (pg_sub (pv 0) pe_int set_list))
  (pss_cons (ps_set (i := 2) sc_law_take.nd rfl (Or.inl rfl) (pe_op o_mod (pe_callTy c_int (by rfl) T.n_int (by decide +kernel) (pa_cons (pe_op o_mul (pe_op (o_add K) (pe_ix (ix_u K) (pv 0) pe_int (fun _ _ => rfl)) (pe_op o_mul pe_int (pe_ix (ix_u K) (pv 0) pe_int (fun _ _ => rfl)))) pe_int) pa_nil)) pe_int))
  (pss_cons (ps_asg (pe_op (o_add K) (pe_op o_mod (pe_callTy c_int (by rfl) T.n_int (by decide +kernel) (pa_cons (pe_op (o_add K) (pe_op o_mul (pv 2) pe_int) pe_int) pa_nil)) pe_int) pe_int) (pg_sub (pv 0) pe_int set_list))
  (pss_cons (ps_if (pt_cmpR o_lt (pv 1) (pe_op o_pow pe_int pe_int) (nomark _)) (pss_one (ps_ret (pe_op o_mod (pe_callTy c_int (by rfl) T.n_int (by decide +kernel) (pa_cons (pe_op o_div (pe_op (o_add K) (pe_op o_mul (pv 2) pe_int) (pe_ix (ix_u K) (pv 0) pe_int (fun _ _ => rfl))) pe_int) pa_nil)) (pv 1))))
  pss_nil)
  (pss_cons (ps_set (i := 3) sc_law_take.nd rfl (Or.inl rfl) (pe_op o_mul (pe_op (o_add K) (pe_op o_mul (pv 2) pe_int) (pe_ix (ix_u K) (pv 0) pe_int (fun _ _ => rfl))) (pe_op o_pow pe_int pe_int)))
  (pss_one (ps_ret (pe_op o_mod (pe_callTy c_int (by rfl) T.n_int (by decide +kernel) (pa_cons (pe_op (o_add K) (pe_op (o_add K) (pv 3) (pe_op o_mul (pe_op o_pow (pe_ix (ix_u K) (pv 0) pe_int (fun _ _ => rfl)) pe_int) pe_int)) (pv 2)) pa_nil)) (pv 1)))))))))), ?_⟩
    tm_at "go"
    refine r_id (fun h0 => ?_) (fun h0 => ?_)
    · tm_at "go"
      refine r_mod (by omega) ?_
      tm_at "go"
      refine r_divW (divw m1 m2) ?_
      tm_at "go"
      exact k _ _ (Int.emod_nonneg _ (by omega)) (Int.emod_lt_of_pos _ (by omega)) ((Bx.refl ⟨_, _, _, hb⟩).set _ _ _)
    · tm_at "go"
      have b1 : ∀ x : Int, 0 ≤ x % 2147483629 + 1 ∧ x % 2147483629 + 1 < 2 ^ 31 := fun x => by
        have := Int.emod_nonneg x (b := 2147483629) (by decide)
        have := Int.emod_lt_of_pos x (b := 2147483629) (by decide)
        omega
      have b2 : ∀ x : Int, 0 ≤ x % 2147483647 ∧ x % 2147483647 < 2 ^ 31 := fun x => by
        have := Int.emod_nonneg x (b := 2147483647) (by decide)
        have := Int.emod_lt_of_pos x (b := 2147483647) (by decide)
        omega
      refine r_id (fun _ => ?_) (fun _ => ?_)
      · tm_at "go"
        refine r_div (by decide) (by decide) ?_
        tm_at "go"
        refine r_mod (by omega) ?_
        tm_at "go"
        exact k _ _ (Int.emod_nonneg _ (by omega)) (Int.emod_lt_of_pos _ (by omega)) (((Bx.refl ⟨_, _, _, hb⟩).set _ _ _).set _ _ _)
      · tm_at "go"
        have c2 := b2 ((y + 104729 * (z + 1)) * 69623)
        have c1 := b1 ((y + 104729 * (z + 1)) * 69623 % 2147483647 * 48271 + 30103)
        generalize (y + 104729 * (z + 1)) * 69623 % 2147483647 = raw at c1 c2 ⊢
        generalize (raw * 48271 + 30103) % 2147483629 + 1 = seed at c1 ⊢
        refine r_mul (cmulL ⟨by omega, by omega⟩) ?_
        tm_at "go"
        refine r_pow ⟨by decide, by decide, by omega⟩ ?_
        tm_at "go"
        refine r_mod (by omega) ?_
        tm_at "go"
        exact k _ _ (Int.emod_nonneg _ (by omega)) (Int.emod_lt_of_pos _ (by omega)) (((Bx.refl ⟨_, _, _, hb⟩).set _ _ _).set _ _ _)
theorem ok_pick (F : DefAt K mg "_law_pick" s_law_pick) (T : Txt K mg aGround aNum aInv) (D_law_take : DefOk P w K mg base CX0 1 "_law_take" ["_law_box_here", "_law_many"] spTake) :
    DefOk P w K mg base CX0 2 "_law_pick" ["_law_box_here", "_law_items"] (spPick K) := by
  refine F.ok sc_law_pick (fun _ _ _ _ _ _ us hl => match us, hl with | [_, _], _ => rfl) (fun vs H Q E h => ?_) (fun f cdv A outer s H vs Q E hr h => ?_)
  · obtain ⟨b, l, xs, rfl, _⟩ := h
    rfl
  · obtain ⟨b, l, xs, rfl, hb, hl, nl, m1, m2, k⟩ := h
    refine ⟨_, (pss_one (ps_ret (pe_ix (ix_u K) (pv 1) (pe_callD D_law_take (hr.mono (by decide)) pass0 rfl (pa_cons (pv 0) (pa_cons (pe_callB (c_len K) (by rfl) T.n_len (by decide +kernel) (pa_cons (pv 1) pa_nil)) pa_nil))) (fun _ _ => rfl)))), ?_⟩
    have fin : ∀ (d : Int) (H' : Hp), 0 ≤ d → d < (xs.length : Nat) → Bx b H H' → rIx K (.ref l) (.int d) H' Q := fun d H' h0 h1 hx => by
      obtain ⟨j, rfl⟩ : ∃ j : Nat, d = j := ⟨d.toNat, by omega⟩
      have hj : j < xs.length := by omega
      have e : xs[j]? = some xs[j] := List.getElem?_eq_getElem hj
      rcases hl with hl | hl
      · exact r_ixL (Bx.seqL hx nl hl) (atI_nat e) (k _ _ (List.getElem_mem hj) hx)
      · exact r_ixT (Bx.seqT hx nl hl) (atI_nat e) (k _ _ (List.getElem_mem hj) hx)
    tm_at "go"
    have ln : ∀ {Q' : VK}, Q' (.int (xs.length : Nat)) H → uLen K [.ref l] H Q' := fun q => by
      rcases hl with hl | hl
      · exact r_lenL hl q
      · exact r_lenT hl q
    refine ln ?_
    tm_at "go"
    exact ⟨b, _, rfl, hb, by omega, by omega, fin⟩
theorem ok_box (F : DefAt K mg "_law_box" s_law_box) (T : Txt K mg aGround aNum aInv) : DefOk P w K mg base CX0 1 "_law_box" ["_law_script", "_law_k", "_law_own"] (spBox K) := by
  refine F.ok sc_law_box (fun _ _ _ _ _ _ us hl => match us, hl with | [_, _, _], _ => rfl) (fun vs H Q E h => ?_) (fun f cdv A outer s H vs Q E hr h => ?_)
  · obtain ⟨a, ns, k, c, rfl, _⟩ := h
    rfl
  · obtain ⟨a, ns, k, c, rfl, hS, k0, k1, c0, c1, nl, q⟩ := h
    refine ⟨_, (pss_cons (ps_set (i := 3) sc_law_box.nd rfl (Or.inl rfl) (pe_op (o_add K) (pe_op (o_add K) (pe_op o_mul pe_int (pv 1)) (pe_op o_mul pe_int (pv 2))) pe_int))
  (pss_cons (ps_if (pt_cmpR o_lt (pv 1) (pe_callB (c_len K) (by rfl) T.n_len (by decide +kernel) (pa_cons (pv 0) pa_nil)) (nomark _)) (pss_one (ps_set (i := 3) sc_law_box.nd rfl (Or.inl rfl) (pe_callB c_abs (by rfl) T.n_abs (by decide +kernel) (pa_cons (pe_ix (ix_u K) (pv 0) (pv 1) (fun _ _ => rfl)) pa_nil))))
  (pss_one (ps_if (pt_cmpR o_gt (pe_callB (c_len K) (by rfl) T.n_len (by decide +kernel) (pa_cons (pv 0) pa_nil)) pe_int (nomark _)) (pss_one (ps_set (i := 3) sc_law_box.nd rfl (Or.inl rfl) (pe_op (o_add K) (pv 3) (pe_op o_mul (pe_op o_mod (pe_callTy c_int (by rfl) T.n_int (by decide +kernel) (pa_cons (pe_callB c_abs (by rfl) T.n_abs (by decide +kernel) (pa_cons (pe_ix (ix_u K) (pv 0) (pe_op o_mod (pe_callTy c_int (by rfl) T.n_int (by decide +kernel) (pa_cons (pv 1) pa_nil)) (pe_callB (c_len K) (by rfl) T.n_len (by decide +kernel) (pa_cons (pv 0) pa_nil))) (fun _ _ => rfl)) pa_nil)) pa_nil)) pe_int) pe_int))))
  pss_nil)))
  (pss_cons (ps_set (i := 4) sc_law_box.nd rfl (Or.inl rfl) (pe_op (o_add K) (pe_op o_mod (pe_callTy c_int (by rfl) T.n_int (by decide +kernel) (pa_cons (pe_op (o_add K) (pe_op o_mul (pe_op o_mod (pe_callTy c_int (by rfl) T.n_int (by decide +kernel) (pa_cons (pv 3) pa_nil)) pe_int) pe_int) (pe_op o_mul pe_int (pe_op (o_add K) (pv 1) (pe_op o_mul pe_int (pv 2))))) pa_nil)) pe_int) pe_int))
  (pss_one (ps_ret (pe_lst (pa_cons (pe_ix (ix_u K) (pe_lst (pa_cons pe_int (pa_cons (pv 3) pa_nil))) (pe_callTy c_int (by rfl) T.n_int (by decide +kernel) (pa_cons (pe_cmpR o_ge (pv 3) (pe_op o_pow pe_int pe_int) (nomark _)) pa_nil)) (fun _ _ => rfl)) (pa_cons (pv 4) (pa_cons pe_int pa_nil))))))))), ?_⟩
    have at_ : ∀ j : Nat, j < ns.length → ∃ n : Int, atI (ns.map V.int) (j : Int) = some (.int n) := fun j hj => ⟨ns[j], atI_nat (by simp [hj])⟩
    obtain ⟨j, rfl⟩ : ∃ j : Nat, k = j := ⟨k.toNat, by omega⟩
    tm_at "go"
    have done : ∀ (cell v seed : Int) (p p2 : Addr), H p = none → upd H p (.lst [.int 0, .int cell]) p2 = none →
        Q (.ref p2) (upd (upd H p (.lst [.int 0, .int cell])) p2 (.lst [.int v, .int seed, .int 0])) := fun cell v seed p p2 hp h2 => by
      obtain ⟨f2, _⟩ := free_upd h2
      refine q p2 _ f2 ⟨fun x o n e => ?_, v, seed, 0, upd_same⟩
      exact at_upd n (at_upd (ne_of_none e hp) e)
    have ix : ∀ (cell : Int) (p : Addr) (Q1 : VK), (∀ v : Int, Q1 (.int v) (upd H p (.lst [.int 0, .int cell]))) →
        rIx K (.ref p) (.int (if decide (10 ^ Int.toNat 18 ≤ cell) then 1 else 0)) (upd H p (.lst [.int 0, .int cell])) Q1 := fun cell p Q1 k => by
      refine r_ixL (v := .int (if decide (10 ^ Int.toNat 18 ≤ cell) then cell else 0)) (SqL.of upd_same) ?_ (k _)
      split <;> rfl
    have lenE : (List.map V.int ns).length = ns.length := List.length_map ..
    refine r_id (fun h0 => ?_) (fun h0 => ?_)
    · obtain ⟨n, hn⟩ := at_ j (by omega)
      tm_at "go"
      refine r_ixL hS hn ?_
      tm_at "go"
      refine ⟨szl rfl, fun p hp => ?_⟩
      tm_at "go"
      refine ix _ p _ fun v => ?_
      tm_at "go"
      exact ⟨szl rfl, fun p2 h2 => done _ _ _ _ _ hp h2⟩
    · tm_at "go"
      refine r_id (fun h1 => ?_) (fun h1 => ?_)
      · have hj : j % ns.length < ns.length := Nat.mod_lt _ (by omega)
        obtain ⟨n, hn⟩ := at_ _ hj
        tm_at "go"
        refine r_mod (by omega) ?_
        refine r_ixL hS (by rw [lenE, ← Int.natCast_emod]; exact hn) ?_
        tm_at "go"
        refine ⟨szl rfl, fun p hp => ?_⟩
        tm_at "go"
        refine ix _ p _ fun v => ?_
        tm_at "go"
        exact ⟨szl rfl, fun p2 h2 => done _ _ _ _ _ hp h2⟩
      · tm_at "go"
        refine ⟨szl rfl, fun p hp => ?_⟩
        tm_at "go"
        refine ix _ p _ fun v => ?_
        tm_at "go"
        exact ⟨szl rfl, fun p2 h2 => done _ _ _ _ _ hp h2⟩
theorem ok_is_integer (F : DefAt K mg "is_integer" s_is_integer) (T : Txt K mg aGround aNum aInv) : DefOk P w K mg base CX0 1 "is_integer" ["value"] (spIsInt K) := by
  refine F.ok sc_is_integer (fun _ _ _ _ _ _ us hl => match us, hl with | [_], _ => rfl) (fun vs H Q E h => ?_) (fun f cdv A outer s H vs Q E hr h => ?_)
  · obtain ⟨v, rfl, _⟩ := h
    rfl
  · obtain ⟨v, rfl, hv, k⟩ := h
    refine ⟨_, (pss_one (ps_ret (pe_and (pe_callB (c_isi K) (by rfl) T.n_isinstance (by decide +kernel) (pa_cons (pv 0) (pa_cons (pe_bT (T := "int") (by rfl) T.n_int (by decide +kernel)) pa_nil))) (pe_one (pe_not (pe_callB (c_isi K) (by rfl) T.n_isinstance (by decide +kernel) (pa_cons (pv 0) (pa_cons (pe_bT (T := "bool") (by rfl) T.n_bool (by decide +kernel)) pa_nil)))))))), ?_⟩
    obtain ⟨t1, ty1, e1⟩ := hv.isi_int
    obtain ⟨t2, ty2, e2⟩ := hv.isi_bool
    rw [← isI_of] at k
    tm_at "go"
    refine r_isi (.ty _) ty1 e1 ?_
    tm_at "go"
    refine r_ite (fun h1 => ?_) (fun h1 => ?_)
    · tm_at "go"
      refine r_isi (.ty _) ty2 e2 ?_
      tm_at "go"
      rw [h1] at k
      exact k
    · rw [h1] at k
      exact k
/-! ### arguments that are a list or a tuple, or none of both -/
def scV : V → Bool | .ref _ => false | _ => true
def Arg (K : PySem.W.Frag) (H : Hp) (v : V) : Option (List V) → Prop
  | none => Kd K H v ∧ scV v = true
  | some xs => ∃ p, v = .ref p ∧ (SqL K H p xs ∨ SqT K H p xs) ∧ xs.length ≤ 10000 ∧ ∀ y ∈ xs, Kd K H y
theorem Arg.mono {K : PySem.W.Frag} {H H' : Hp} {v : V} {o : Option (List V)} (s : Same H H') (h : Arg K H v o) : Arg K H' v o := by
  cases o with
  | none => exact ⟨h.1.mono s, h.2⟩
  | some xs =>
    obtain ⟨p, e, hs, hl, hk⟩ := h
    exact ⟨p, e, hs.imp (Same.seqL s) (sameT s), hl, fun y hy => (hk y hy).mono s⟩
theorem Arg.isi {K : PySem.W.Frag} {H : Hp} {v : V} {o : Option (List V)} (h : Arg K H v o) : ∃ t, TyX K H v t ∧ PySem.W.kitAny K t [.type "list", .type "tuple"] = some o.isSome := by
  cases o with
  | none =>
    obtain ⟨h, sc⟩ := h
    cases h with
    | non => exact ⟨_, .base .non, kitAny2 (a := false) (b := false) (kit_ty (a := "NoneType") (by decide +kernel)) (kit_ty (a := "NoneType") (by decide +kernel))⟩
    | bl b => exact ⟨_, .base (.bl b), kitAny2 (a := false) (b := false) (kit_ty (a := "bool") (by decide +kernel)) (kit_ty (a := "bool") (by decide +kernel))⟩
    | int i => exact ⟨_, .base (.int i), kitAny2 (a := false) (b := false) (kit_ty (a := "int") (by decide +kernel)) (kit_ty (a := "int") (by decide +kernel))⟩
    | str x => exact ⟨_, .base (.str x), kitAny2 (a := false) (b := false) (kit_ty (a := "str") (by decide +kernel)) (kit_ty (a := "str") (by decide +kernel))⟩
    | lst h => cases sc
    | tup h => cases sc
  | some xs =>
    obtain ⟨p, rfl, hs | hs, _⟩ := h
    · exact ⟨_, tyx_list hs, kitAny2 (a := true) (b := false) (kit_ty (a := "list") (by decide +kernel)) (kit_ty (a := "list") (by decide +kernel))⟩
    · exact ⟨_, tyx_tup hs, kitAny2 (a := false) (b := true) (kit_ty (a := "tuple") (by decide +kernel)) (kit_ty (a := "tuple") (by decide +kernel))⟩
def allV (o : Option (List V)) (a b : Int) : Bool := match o with | none => false | some xs => xs.all fun y => fromV y a b
def spAllFrom (K : PySem.W.Frag) : Sp := fun vs H Q _ => ∃ (v : V) (a b : Int) (o : Option (List V)), vs = [v, .int a, .int b] ∧ Arg K H v o ∧ ∀ H', Same H H' → Q (.bl (allV o a b)) H'
section
variable {K : PySem.W.Frag}
theorem ok_all_from (F : DefAt K mg "all_from" s_all_from) (T : Txt K mg aGround aNum aInv) (D_is_integer : DefOk P w K mg base CX0 1 "is_integer" ["value"] (spIsInt K)) : DefOk P w K mg base CX0 2 "all_from" ["values", "least", "most"] (spAllFrom K) := by
  refine F.ok sc_all_from (fun _ _ _ _ _ _ us hl => match us, hl with | [_, _, _], _ => rfl) (fun vs H Q E h => ?_) (fun f cdv A outer s H vs Q E hr h => ?_)
  · obtain ⟨v, a, b, o, rfl, _⟩ := h
    rfl
  · obtain ⟨v, a, b, o, rfl, hv, k⟩ := h
    refine ⟨_, (pss_one (ps_ret (pe_and (pe_callB (c_isiT K) (by rfl) T.n_isinstance (by decide +kernel) (pa_cons (pv 0) (pa_cons (pe_tup (pa_cons (pe_bT (T := "list") (by rfl) T.n_list (by decide +kernel)) (pa_cons (pe_bT (T := "tuple") (by rfl) T.n_tuple (by decide +kernel)) pa_nil))) pa_nil))) (pe_one (pe_callB (c_all K rfl) (by rfl) T.n_all (by decide +kernel) (pa_cons (pe_lc (own := [("one", 3)]) (g := (gName 3)) rfl sc_all_from.nd (pi_u K (pv 0)) (blkOk_by (own := [("one", 3)]) (N := ["values", "least", "most", "one"]) (sc := defScope s_all_from) (by decide +kernel)) (fun _ _ _ _ _ => (pg_name (i := 3) sc_all_from.nd rfl (Or.inl rfl) (Or.inr rfl))) (fun _ _ _ _ _ => pts_nil) (fun _ _ _ _ _ => (pe_and (pe_callD D_is_integer (hr.mono (by decide)) pass0 rfl (pa_cons (pv 3) pa_nil)) (pe_one (pe_chain o_le o_le (pv 1) (pv 3) (pv 2)))))) pa_nil)))))), ?_⟩
    tm_at "go"
    refine ⟨szl rfl, fun pt hpt => ?_⟩
    have hv1 := hv.mono (same_new (o := .tup [.ty "list", .ty "tuple"]) hpt)
    tm_at "go"
    obtain ⟨t, ty, kt⟩ := hv1.isi
    refine ⟨v, pt, _, t, [.type "list", .type "tuple"], _, rfl, upd_same, .cons (.ty _) (.cons (.ty _) .nil), ty, kt, ?_⟩
    tm_at "go"
    cases o with
    | none =>
      tm_at "go"
      exact k _ (same_new hpt)
    | some xs =>
      obtain ⟨p, rfl, hs, hl, hk⟩ := hv1
      refine r_ite (fun _ => ?_) (fun z => nomatch z)
      tm_at "go"
      have sm1 : Same H (upd H pt (.tup [.ty "list", .ty "tuple"])) := same_new hpt
      generalize upd H pt (.tup [.ty "list", .ty "tuple"]) = H1 at hs hk sm1 ⊢
      refine' r_walk hs ?_
      intro J G w hG sG D hD
      refine lc_it w (fun i H' => Same H1 H' ∧ H' D = some (.lst (((xs.take i).map fun y => fromV y a b).map V.bl))) ⟨same_new hD, upd_same⟩ (fun i H' _ p => sG _ _ p.1 hG) ?_ ?_
      · rintro i x H2 H' hi ⟨sm2, hd⟩ ⟨rfl, hx⟩
        tm_at "go"
        refine ⟨rfl, ?_⟩
        tm_at "go"
        have kx := (hk x (List.mem_of_getElem? hx)).mono sm2
        refine ⟨x, rfl, kx, ?_⟩
        tm_at "go"
        have fin : ∀ c : Bool, c = fromV x a b → ∃ acc, H' D = some (.lst acc) ∧ acc.length < sizeLine ∧ (Same H1 (upd H' D (.lst (acc ++ [.bl c]))) ∧ (upd H' D (.lst (acc ++ [.bl c]))) D = some (.lst (((xs.take (i + 1)).map fun y => fromV y a b).map V.bl))) := by
          rintro c rfl
          refine ⟨_, hd, ?_, Same.updF sm2 hD, ?_⟩
          · rw [List.length_map, List.length_map, List.length_take]
            exact szlt (Nat.ble_eq_true_of_le (Nat.le_trans (Nat.min_le_right ..) (Nat.le_trans hl (by decide))))
          · rw [upd_same, take_succ hx, List.map_append, List.map_append]
            rfl
        cases hxI : isI x with
        | false =>
          tm_at "go"
          exact fin false (by cases x <;> first | rfl | cases hxI)
        | true =>
          obtain ⟨n, rfl⟩ := isI_int hxI
          tm_at "go"
          refine r_ite (fun h1 => ?_) (fun h1 => ?_)
          · tm_at "go"
            exact fin _ (by show _ = (decide (a ≤ n) && decide (n ≤ b)); rw [h1, Bool.true_and])
          · exact fin _ (by show _ = (decide (a ≤ n) && decide (n ≤ b)); rw [h1, Bool.false_and])
      · rintro H2 ⟨sm2, hd⟩
        tm_at "go"
        rw [List.take_length] at hd
        refine ⟨D, _, rfl, SqL.of hd, ?_⟩
        have e : (xs.map fun y => fromV y a b).all id = allV (some xs) a b := by
          show _ = xs.all fun y => fromV y a b
          rw [List.all_map]; rfl
        rw [e]
        exact k _ (sm1.trans sm2)
end
/-! ### lists of numbers from 0 on -/
abbrev natV (l : List Nat) : List V := l.map fun (n : Nat) => V.int (n : Int)
abbrev natD (l : List Nat) : List PyData := l.map fun (n : Nat) => PyData.int (n : Int)
theorem natV_at {l : List Nat} {i : Nat} {x : V} (h : (natV l)[i]? = some x) : ∃ n, l[i]? = some n ∧ x = .int (n : Int) := by
  rw [List.getElem?_map] at h
  cases e : l[i]? with
  | none => rw [e] at h; cases h
  | some n => rw [e] at h; exact ⟨n, rfl, (Option.some.inj h).symm⟩
theorem dp_nats {K : PySem.W.Frag} {H : Hp} : ∀ l : List Nat, DpAll K H (natV l) (natD l)
  | [] => .nil
  | n :: l => .cons (.int _) (dp_nats l)
theorem lay_nats : ∀ l : List Nat, PyData.canLayAll0 (natD l) = true
  | [] => rfl
  | n :: l => by
    have := lay_nats l
    show (true && PyData.canLayAll0 (natD l)) = true
    rw [this]; rfl
theorem dep_nats : ∀ l : List Nat, PyData.depthAll (natD l) = 0
  | [] => rfl
  | n :: l => by
    have := dep_nats l
    show max 0 (PyData.depthAll (natD l)) = 0
    rw [this]; rfl
theorem sp_nats (l : List Nat) : SeqAt.shaped (.list (natD l)) = true := by
  unfold SeqAt.shaped
  simp only [PyData.canLay0, lay_nats, PyData.depth, dep_nats]
  decide
theorem sp_natsT (l : List Nat) : SeqAt.shaped (.tuple (natD l)) = true := by
  unfold SeqAt.shaped
  simp only [PyData.canLay0, lay_nats, PyData.depth, dep_nats]
  decide
theorem eqv_nil (l : List Nat) : PyData.eqv (.list (natD l)) (.list []) = l.isEmpty := by cases l <;> rfl
theorem flat_nats : ∀ l : List Nat, (natV l).all flatV = true
  | [] => rfl
  | n :: l => by
    have := flat_nats l
    show (true && (natV l).all flatV) = true
    rw [this]; rfl
theorem inV_nat (r : Nat) : ∀ l : List Nat, inV (.int (r : Int)) (natV l) = l.contains r
  | [] => rfl
  | n :: l => by
    have ih := inV_nat r l
    show (eqV (.int (n : Int)) (.int (r : Int)) || inV (.int (r : Int)) (natV l)) = _
    rw [ih, List.contains_cons]
    congr 1
    show ((n : Int) == (r : Int)) = (r == n)
    rw [Bool.eq_iff_iff, beq_iff_eq, beq_iff_eq]
    exact ⟨fun z => (Int.ofNat.inj z).symm, fun z => by rw [z]⟩
theorem filter_succ {p : Nat → Bool} (i : Nat) : (List.range (i + 1)).filter p = (List.range i).filter p ++ (if p i = true then [i] else []) := by
  rw [List.range_succ, List.filter_append]
  congr 1
  cases h : p i <;> simp [List.filter, h]
theorem filter_len (p : Nat → Bool) (i : Nat) : ((List.range i).filter p).length ≤ i := Nat.le_trans (List.length_filter_le ..) (Nat.le_of_eq List.length_range)
theorem blNe (a b : Bool) : (!decide (V.bl a = V.bl b)) = (a != b) := by cases a <;> cases b <;> decide
theorem blEq (a b : Bool) : decide (V.bl a = V.bl b) = (a == b) := by cases a <;> cases b <;> decide
theorem dec_int (a b : Int) : decide (V.int a = V.int b) = decide (a = b) := by simp
theorem natV_app (a b : List Nat) : natV (a ++ b) = natV a ++ natV b := List.map_append
theorem eqv_nats : ∀ l m : List Nat, PyData.eqvAll (natD l) (natD m) = decide (l = m)
  | [], [] => rfl
  | [], _ :: _ => rfl
  | _ :: _, [] => rfl
  | a :: l, b :: m => by
    have ih := eqv_nats l m
    show (((a : Int) == (b : Int)) && PyData.eqvAll (natD l) (natD m)) = _
    rw [ih, Bool.eq_iff_iff, Bool.and_eq_true, beq_iff_eq, decide_eq_true_eq, decide_eq_true_eq, List.cons.injEq]
    exact ⟨fun z => ⟨Int.ofNat.inj z.1, z.2⟩, fun z => ⟨by rw [z.1], z.2⟩⟩
theorem eqv_lst (l m : List Nat) : PyData.eqv (.list (natD l)) (.list (natD m)) = decide (l = m) := eqv_nats l m
theorem eqv_tup (l m : List Nat) : PyData.eqv (.tuple (natD l)) (.tuple (natD m)) = decide (l = m) := eqv_nats l m
theorem modE (p n c : Nat) : decide (V.int ((p : Int) % ((n : Nat) : Int)) = V.int (c : Int)) = decide (p % n = c) := by
  rw [dec_int, ← Int.natCast_emod]
  by_cases e : p % n = c
  · rw [e, decide_eq_true rfl, decide_eq_true rfl]
  · rw [decide_eq_false e, decide_eq_false (by omega)]
theorem neSelf (v : V) : (!decide (v = v)) = false := by rw [decide_eq_true rfl]; rfl
/-! ### the least period -/
def shortOf (s : Nat) (R : List Nat) : List Nat := (List.range s).filter fun r => R.contains r
def badOf (p s : Nat) (R : List Nat) : List Nat := (List.range p).filter fun r => (shortOf s R).contains (r % s) != R.contains r
structure LeastP (p : Nat) (R : List Nat) (s : Nat) : Prop where
  pos : 1 ≤ s
  le : s ≤ p
  dvd : p % s = 0
  ok : badOf p s R = []
  least : ∀ t, 1 ≤ t → t < s → p % t = 0 → badOf p t R ≠ []
theorem short_has {s r : Nat} {R : List Nat} (h : r < s) : (shortOf s R).contains r = R.contains r := by
  unfold shortOf
  rw [Bool.eq_iff_iff, List.contains_iff_mem, List.contains_iff_mem, List.mem_filter, List.mem_range, List.contains_iff_mem]
  exact ⟨fun z => z.2, fun z => ⟨h, z⟩⟩
theorem bad_self (p : Nat) (R : List Nat) : badOf p p R = [] := by
  unfold badOf
  rw [List.filter_eq_nil_iff]
  intro r hr
  have hr' := List.mem_range.mp hr
  rw [Nat.mod_eq_of_lt hr', short_has hr']
  simp
def spLPer (K : PySem.W.Frag) : Sp := fun vs H Q _ => ∃ (p : Nat) (q : Addr) (R : List Nat), vs = [.int (p : Int), .ref q] ∧ (SqL K H q (natV R) ∨ SqT K H q (natV R)) ∧ 1 ≤ p ∧ p ≤ 10000 ∧
  ∀ (s : Nat) (a a2 : Addr) (H' : Hp), LeastP p R s → Same H H' → H' a = some (.tup [.int (s : Int), .ref a2]) → H' a2 = some (.tup (natV (shortOf s R))) → Q (.ref a) H'
section
variable {K : PySem.W.Frag}
theorem ok_least_period (F : DefAt K mg "least_period" s_least_period) (T : Txt K mg aGround aNum aInv) : DefOk P w K mg base CX0 1 "least_period" ["period", "rests"] (spLPer K) := by
  refine F.ok sc_least_period (fun _ _ _ _ _ _ us hl => match us, hl with | [_, _], _ => rfl) (fun vs H Q E h => ?_) (fun f cdv A outer s H vs Q E hr h => ?_)
  · obtain ⟨p, q, R, rfl, _⟩ := h
    rfl
  · obtain ⟨p, q, R, rfl, hq, p1, p2, k⟩ := h
    refine ⟨_, (pss_cons (ps_for PassesOwn.never rfl (pi_range2 (by rfl) T.n_range (pa_cons pe_int (pa_cons (pe_op (o_add K) (pv 0) pe_int) pa_nil))) (pg_name (i := 2) sc_least_period.nd rfl (Or.inr rfl))
  (pss_one (ps_if (pt_cmpR (o_eq K hr.units) (pe_op o_mod (pv 0) (pv 2)) pe_int (nomark _)) (pss_cons (ps_set (i := 3) sc_least_period.nd rfl (Or.inr rfl) (pe_lc (own := [("rest", 4)]) (g := (gName 4)) rfl sc_least_period.nd (pi_range1 (by rfl) T.n_range (pa_cons (pv 2) pa_nil)) (blkOk_by (own := [("rest", 4)]) (N := ["period", "rests", "size", "short", "rest"]) (sc := defScope s_least_period) (by decide +kernel)) (fun _ _ _ _ _ => (pg_name (i := 4) sc_least_period.nd rfl (Or.inl rfl) (Or.inr rfl))) (fun _ _ _ _ _ => (pts_one (pt_cmpR (o_in K) (pv 4) (pv 1) rfl))) (fun _ _ _ _ _ => (pv 4))))
  (pss_one (ps_if (pt_cmpR (o_eq K hr.units) (pe_lc (own := [("rest", 4)]) (g := (gName 4)) rfl sc_least_period.nd (pi_range1 (by rfl) T.n_range (pa_cons (pv 0) pa_nil)) (blkOk_by (own := [("rest", 4)]) (N := ["period", "rests", "size", "short", "rest"]) (sc := defScope s_least_period) (by decide +kernel)) (fun _ _ _ _ _ => (pg_name (i := 4) sc_least_period.nd rfl (Or.inl rfl) (Or.inr rfl))) (fun _ _ _ _ _ => (pts_one (pt_cmpR (o_ne K hr.units) (pe_cmpR (o_in K) (pe_op o_mod (pv 4) (pv 2)) (pv 3) rfl) (pe_cmpR (o_in K) (pv 4) (pv 1) rfl) (nomark _)))) (fun _ _ _ _ _ => (pv 4))) (pe_lst pa_nil) (nomark _)) (pss_one (ps_ret (pe_tup (pa_cons (pv 2) (pa_cons (pe_callTy (c_tuple K) (by rfl) T.n_tuple (by decide +kernel) (pa_cons (pv 3) pa_nil)) pa_nil)))))
  pss_nil)))
  pss_nil)))
  (pss_one (ps_ret (pe_tup (pa_cons (pv 0) (pa_cons (pe_callTy (c_tuple K) (by rfl) T.n_tuple (by decide +kernel) (pa_cons (pv 1) pa_nil)) pa_nil)))))), ?_⟩
    tm_at "go"
    refine ⟨1, _, rfl, ⟨by decide, by decide, by omega, by omega⟩, ?_⟩
    rw [show ((p : Int) + 1 - 1).toNat = p by omega]
    refine for_range (lo := 1) (n := p) (fun i σ H' => (∃ o2 o3 o4 : Option V, σ = [some (.int (p : Int)), some (.ref q), o2, o3, o4]) ∧ Same H H' ∧ ∀ t, 1 ≤ t → t ≤ i → p % t = 0 → badOf p t R ≠ []) ⟨⟨_, _, _, rfl⟩, Same.refl, fun t h1 h2 => by omega⟩ ?_ ?_
    · rintro i σ H1 hi ⟨⟨o2, o3, o4, rfl⟩, sm1, hno⟩
      have hsz : (1 : Int) + (i : Int) = ((i + 1 : Nat) : Int) := by omega
      rw [hsz]
      have hq1 := hq.imp (Same.seqL sm1) (sameT sm1)
      tm_at "go"
      refine r_mod (by omega) ?_
      tm_at "go"
      refine r_eq rfl ?_
      tm_at "go"
      have hmod : decide (V.int ((p : Int) % ((i + 1 : Nat) : Int)) = V.int 0) = decide (p % (i + 1) = 0) := by
        rw [dec_int, ← Int.natCast_emod]
        by_cases e : p % (i + 1) = 0
        · rw [e]; rfl
        · rw [decide_eq_false e, decide_eq_false (by omega)]
      rw [hmod]
      refine r_id (fun hd => ?_) (fun hd => ?_)
      · tm_at "go"
        refine ⟨_, rfl, by omega, by omega, fun D hD => ?_⟩
        rw [show (((i + 1 : Nat) : Int)).toNat = i + 1 from rfl]
        refine lc_range (fun j H' => Same H1 H' ∧ H' D = some (.lst (natV ((List.range j).filter fun r => R.contains r)))) ⟨same_new hD, upd_same⟩ ?_ ?_
        · rintro j H2 hj ⟨sm2, hl2⟩
          rw [Int.zero_add]
          tm_at "go"
          refine ⟨rfl, ?_⟩
          tm_at "go"
          refine r_inQ (hq1.imp (Same.seqL sm2) (sameT sm2)) rfl (flat_nats _) ?_
          rw [inV_nat]
          tm_at "go"
          refine r_ite (fun hc => ?_) (fun hc => ?_)
          · tm_at "go"
            refine ⟨_, hl2, ?_, Same.updF sm2 hD, ?_⟩
            · rw [List.length_map]
              exact szlt (Nat.ble_eq_true_of_le (Nat.le_trans (filter_len _ _) (by omega)))
            · rw [upd_same, filter_succ, if_pos hc, natV_app]; rfl
          · refine ⟨sm2, ?_⟩
            rw [filter_succ, if_neg (by rw [hc]; exact Bool.false_ne_true), List.append_nil]
            exact hl2
        · rintro H2 ⟨sm2, hl2⟩
          have hl2 : H2 D = some (.lst (natV (shortOf (i + 1) R))) := hl2
          tm_at "go"
          refine ⟨_, rfl, by omega, by omega, fun D2 hD2 => ?_⟩
          rw [show ((p : Int)).toNat = p from rfl]
          refine lc_range (fun j H' => Same H2 H' ∧ H' D2 = some (.lst (natV ((List.range j).filter fun r => (shortOf (i + 1) R).contains (r % (i + 1)) != R.contains r)))) ⟨same_new hD2, upd_same⟩ ?_ ?_
          · rintro j H3 hj ⟨sm3, hl3⟩
            rw [Int.zero_add]
            tm_at "go"
            refine ⟨rfl, ?_⟩
            tm_at "go"
            refine r_mod (by omega) ?_
            tm_at "go"
            rw [← Int.natCast_emod]
            refine r_inQ (.inl (SqL.of (sm3 _ _ hl2))) rfl (flat_nats _) ?_
            rw [inV_nat]
            tm_at "go"
            refine r_inQ ((hq1.imp (Same.seqL sm2) (sameT sm2)).imp (Same.seqL sm3) (sameT sm3)) rfl (flat_nats _) ?_
            rw [inV_nat]
            refine r_ne rfl ?_
            rw [blNe]
            tm_at "go"
            refine r_ite (fun hc => ?_) (fun hc => ?_)
            · tm_at "go"
              refine ⟨_, hl3, ?_, Same.updF sm3 hD2, ?_⟩
              · rw [List.length_map]
                exact szlt (Nat.ble_eq_true_of_le (Nat.le_trans (filter_len _ _) (by omega)))
              · rw [upd_same, filter_succ, if_pos hc, natV_app]; rfl
            · refine ⟨sm3, ?_⟩
              rw [filter_succ, if_neg (by rw [hc]; exact Bool.false_ne_true), List.append_nil]
              exact hl3
          · rintro H3 ⟨sm3, hl3⟩
            have hl3 : H3 D2 = some (.lst (natV (badOf p (i + 1) R))) := hl3
            tm_at "go"
            refine ⟨szl rfl, fun pe hpe => ?_⟩
            tm_at "go"
            refine r_eqD (d := .list (natD (badOf p (i + 1) R))) (e := .list []) (.lst (SqL.of (at_upd (ne_of_none hl3 hpe) hl3)) (dp_nats _)) (.lst (SqL.of upd_same) .nil) (sp_nats _) (by decide +kernel) ?_
            rw [eqv_nil]
            tm_at "go"
            have sm4 : Same H2 (upd H3 pe (.lst [])) := Same.new sm3 hpe
            refine r_ite (fun hb => ?_) (fun hb => ?_)
            · have hbad : badOf p (i + 1) R = [] := List.isEmpty_iff.mp hb
              tm_at "go"
              refine r_tupL (SqL.of (sm4 _ _ hl2)) fun at_ hat => ?_
              tm_at "go"
              refine ⟨szl rfl, fun pr hpr => ?_⟩
              have hat2 : upd (upd H3 pe (.lst [])) at_ (.tup (natV (shortOf (i + 1) R))) at_ = some (.tup (natV (shortOf (i + 1) R))) := upd_same
              exact k (i + 1) pr at_ _ ⟨by omega, by omega, hd, hbad, fun t h1 h2 h3 => hno t h1 (by omega) h3⟩ (Same.new (Same.new ((sm1.trans sm2).trans sm4) hat) hpr) upd_same (at_upd (ne_of_none hat2 hpr) hat2)
            · tm_at "go"
              have hbad : badOf p (i + 1) R ≠ [] := fun z => by rw [z] at hb; exact nomatch hb
              refine ⟨⟨_, _, _, rfl⟩, (sm1.trans sm2).trans sm4, fun t h1 h2 h3 => ?_⟩
              by_cases e : t = i + 1
              · rw [e]; exact hbad
              · exact hno t h1 (by omega) h3
      · tm_at "go"
        refine ⟨⟨_, _, _, rfl⟩, sm1, fun t h1 h2 h3 => ?_⟩
        by_cases e : t = i + 1
        · rw [e] at h3; exact absurd h3 hd
        · exact hno t h1 (by omega) h3
    · rintro σ H1 ⟨_, _, hno⟩
      exact absurd (bad_self p R) (hno p p1 (Nat.le_refl _) (Nat.mod_self p))
end
/-! ### the least form -/
def kvOf (l : List Nat) : List (Key × V) := l.map fun (n : Nat) => ((Sum.inl (n : Int) : Key), V.bl true)
def ins (l : List Nat) (n : Nat) : List Nat := if l.contains n = true then l else l ++ [n]
def ded (L : List Nat) : List Nat := L.foldl ins []
theorem ded_snoc (L : List Nat) (n : Nat) : ded (L ++ [n]) = ins (ded L) n := by unfold ded; rw [List.foldl_append]; rfl
theorem ins_mem {l : List Nat} {n m : Nat} : m ∈ ins l n ↔ m ∈ l ∨ m = n := by
  unfold ins
  split
  · rename_i h
    have := List.contains_iff_mem.mp h
    exact ⟨.inl, fun z => z.elim id fun e => e ▸ this⟩
  · simp
theorem foldl_mem (L : List Nat) : ∀ (l : List Nat) (m : Nat), m ∈ L.foldl ins l ↔ m ∈ l ∨ m ∈ L := by
  induction L with
  | nil => intro l m; simp
  | cons n L ih =>
    intro l m
    rw [List.foldl_cons, ih, ins_mem, List.mem_cons]
    exact or_assoc
theorem ded_mem (L : List Nat) (m : Nat) : m ∈ ded L ↔ m ∈ L := by unfold ded; rw [foldl_mem]; simp
theorem ins_nodup {l : List Nat} {n : Nat} (h : l.Nodup) : (ins l n).Nodup := by
  unfold ins
  split
  · exact h
  · rename_i z
    rw [List.contains_iff_mem] at z
    rw [List.nodup_append]
    refine ⟨h, by simp, fun a ha b hb => ?_⟩
    rw [List.mem_singleton.mp hb]
    exact fun e => z (e ▸ ha)
theorem foldl_nodup (L : List Nat) : ∀ l : List Nat, l.Nodup → (L.foldl ins l).Nodup := by
  induction L with
  | nil => intro l h; exact h
  | cons n L ih => intro l h; exact ih _ (ins_nodup h)
theorem ded_nodup (L : List Nat) : (ded L).Nodup := foldl_nodup L [] List.nodup_nil
theorem ins_len (l : List Nat) (n : Nat) : (ins l n).length ≤ l.length + 1 := by
  unfold ins
  split
  · omega
  · simp
theorem foldl_len (L : List Nat) : ∀ l : List Nat, (L.foldl ins l).length ≤ l.length + L.length := by
  induction L with
  | nil => intro l; simp
  | cons n L ih =>
    intro l
    rw [List.foldl_cons, List.length_cons]
    have := ih (ins l n)
    have := ins_len l n
    omega
theorem ded_len (L : List Nat) : (ded L).length ≤ L.length := by
  have := foldl_len L []
  simpa [ded] using this
theorem any_kv (l : List Nat) (n : Nat) : ((kvOf l).any fun kv => decide (kv.1 = (Sum.inl (n : Int) : Key))) = l.contains n := by
  induction l with
  | nil => rfl
  | cons m l ih =>
    show (decide ((Sum.inl (m : Int) : Key) = Sum.inl (n : Int)) || (kvOf l).any _) = _
    rw [ih, List.contains_cons]
    congr 1
    rw [Bool.eq_iff_iff, beq_iff_eq, decide_eq_true_eq]
    exact ⟨fun z => (Int.ofNat.inj (Sum.inl.inj z)).symm, fun z => by rw [z]⟩
theorem putK_kv (l : List Nat) (n : Nat) : putK (kvOf l) (Sum.inl (n : Int)) (.bl true) = kvOf (ins l n) := by
  unfold putK ins
  rw [any_kv]
  split
  · unfold kvOf
    rw [List.map_map]
    refine List.map_congr_left fun m _ => ?_
    show (if (Sum.inl (m : Int) : Key) = Sum.inl (n : Int) then _ else _) = _
    split <;> rfl
  · unfold kvOf
    rw [List.map_append]; rfl
theorem valV_kv (l : List Nat) (n : Nat) : (valV (kvOf l) (Sum.inl (n : Int))).isSome = l.contains n := by
  rw [← any_kv]
  unfold valV
  rw [Option.isSome_map, Bool.eq_iff_iff, List.find?_isSome, List.any_eq_true]
theorem sorted_nats {l L : List Nat} {c : Nat} {ns : List Int} (hn : l.Nodup) (hm : ∀ n, n ∈ l ↔ n ∈ L ∧ n < c) (hp : ns.Perm (l.map fun (n : Nat) => (n : Int))) (hs : ns.Pairwise (· ≤ ·)) :
    ns = ((List.range c).filter fun n => L.contains n).map fun (n : Nat) => (n : Int) := by
  have p2 : (l.map fun (n : Nat) => (n : Int)).Perm (((List.range c).filter fun n => L.contains n).map fun (n : Nat) => (n : Int)) := by
    refine List.Perm.map _ ((List.perm_ext_iff_of_nodup hn (List.Pairwise.filter _ List.nodup_range)).mpr fun a => ?_)
    rw [hm, List.mem_filter, List.mem_range, List.contains_iff_mem]
    exact and_comm
  refine List.Perm.eq_of_pairwise (le := (· ≤ ·)) (fun a b _ _ h1 h2 => Int.le_antisymm h1 h2) hs ?_ (hp.trans p2)
  rw [List.pairwise_map]
  exact (List.Pairwise.filter _ List.pairwise_lt_range).imp fun h => by omega
def listedOf (L : List Nat) (c : Nat) : List Nat := (List.range c).filter fun n => L.contains n
structure LeastS (L : List Nat) (p : Nat) (R : List Nat) (s c : Nat) : Prop where
  pos : 1 ≤ c
  le : c ≤ s
  same : ∀ n, c ≤ n → n < s → L.contains n = R.contains (n % p)
  last : c = 1 ∨ L.contains (c - 1) ≠ R.contains ((c - 1) % p)
def spLForm (K : PySem.W.Frag) : Sp := fun vs H Q _ => ∃ (t q : Addr) (L R : List Nat) (s p : Nat), vs = [.ref t, .int (s : Int), .int (p : Int), .ref q] ∧ (SqL K H t (natV L) ∨ SqT K H t (natV L)) ∧ (SqL K H q (natV R) ∨ SqT K H q (natV R)) ∧
  1 ≤ p ∧ p ≤ 10000 ∧ 1 ≤ s ∧ s ≤ 10000 ∧ L.length ≤ 10000 ∧
  ∀ (s' p' : Nat) (a a1 a2 : Addr) (H' : Hp), LeastP p R p' → LeastS L p' (shortOf p' R) s s' → Same H H' → H' a = some (.tup [.ref a1, .int (s' : Int), .int (p' : Int), .ref a2]) → H' a1 = some (.tup (natV (listedOf L s'))) →
    H' a2 = some (.tup (natV (shortOf p' R))) → Q (.ref a) H'
section
variable {K : PySem.W.Frag}
theorem ok_least_form (F : DefAt K mg "least_form" s_least_form) (T : Txt K mg aGround aNum aInv) (D_least_period : DefOk P w K mg base CX0 1 "least_period" ["period", "rests"] (spLPer K)) : DefOk P w K mg base CX0 2 "least_form" ["told", "since", "period", "rests"] (spLForm K) := by
  refine F.ok sc_least_form (fun _ _ _ _ _ _ us hl => match us, hl with | [_, _, _, _], _ => rfl) (fun vs H Q E h => ?_) (fun f cdv A outer s H vs Q E hr h => ?_)
  · obtain ⟨t, q, L, R, s, p, rfl, _⟩ := h
    rfl
  · obtain ⟨t, q, L, R, sc, p, rfl, ht, hq, p1, p2, s1, s2, hL, k⟩ := h
    refine ⟨_, (pss_cons (ps_asg (pe_callD D_least_period (hr.mono (by decide)) pass0 rfl (pa_cons (pv 2) (pa_cons (pv 3) pa_nil))) (pg_t (n := 2) K rfl (pgs_cons (pg_name (i := 2) sc_least_form.nd rfl (Or.inl rfl)) (pgs_cons (pg_name (i := 3) sc_least_form.nd rfl (Or.inl rfl)) pgs_nil))))
  (pss_cons (ps_setDc (i := 4) rfl sc_least_form.nd rfl rfl (sw_trueD rfl rfl rfl (by decide +kernel)) (own := [("number", 5)]) (g := (gName 5)) (pi_u K (pv 0)) (blkOk_by (own := [("number", 5)]) (N := ["told", "since", "period", "rests", "known", "number"]) (sc := defScope s_least_form) (by decide +kernel)) (fun _ _ _ _ _ => (pg_name (i := 5) sc_least_form.nd rfl (Or.inl rfl) (Or.inr rfl))) (fun _ _ _ _ _ => pts_nil) (fun _ _ _ _ _ => (pv 5)) (fun _ _ _ _ _ => pe_bl))
  (pss_cut (ps_while PassesOwn.never (PW.pt (pw_and (pt_cmpR o_gt (pv 1) pe_int (nomark _)) (pw_and1 (pt_cmpR (o_eq K hr.units) (pe_cmp (pc_din (hu_of hr) (pe_op o_sub (pv 1) pe_int) (pv 4))) (pe_cmpR (o_in K) (pe_op o_mod (pe_op o_sub (pv 1) pe_int) (pv 2)) (pv 3) rfl) (nomark _)))))
  (pss_one (ps_set (i := 1) sc_least_form.nd rfl (Or.inr rfl) (pe_op o_sub (pv 1) pe_int))))
  (pss_one (ps_ret (pe_tup (pa_cons (pe_callTy (c_tuple K) (by rfl) T.n_tuple (by decide +kernel) (pa_cons (pe_callB cr_sortedI (by rfl) T.n_sorted (by decide +kernel) (pa_cons (pe_lock (pe_lc (own := [("number", 5)]) (g := (gName 5)) rfl sc_least_form.nd (pi_keys (pv 4)) (blkOk_by (own := [("number", 5)]) (N := ["told", "since", "period", "rests", "known", "number"]) (sc := defScope s_least_form) (by decide +kernel)) (fun _ _ _ _ _ => (pg_name (i := 5) sc_least_form.nd rfl (Or.inl rfl) (Or.inr rfl))) (fun _ _ _ _ _ => (pts_one (pt_cmpR o_lt (pv 5) (pv 1) (nomark _)))) (fun _ _ _ _ _ => (pe_callTy c_int (by rfl) T.n_int (by decide +kernel) (pa_cons (pv 5) pa_nil))))) pa_nil)) pa_nil)) (pa_cons (pv 1) (pa_cons (pv 2) (pa_cons (pv 3) pa_nil)))))))))), ?_⟩
    tm_at "go"
    refine ⟨p, q, R, rfl, hq, p1, p2, fun p' a a2 H1 lp sm1 ha ha2 => ?_⟩
    refine r_gT (SqT.of ha) rfl ?_
    tm_at "go"
    have ht1 := ht.imp (Same.seqL sm1) (sameT sm1)
    refine' r_walk ht1 ?_
    intro J G w hG sG D hD
    have hlen : (natV L).length = L.length := List.length_map ..
    refine dc_it w (fun i H' => Same H1 H' ∧ H' D = some (.dK (kvOf (ded (L.take i))))) ⟨same_new hD, upd_same⟩ (fun i H' _ p => sG _ _ p.1 hG) ?_ ?_
    · rintro i x H2 H' hi ⟨sm2, hd⟩ ⟨rfl, hx⟩
      obtain ⟨n, hn, rfl⟩ := natV_at hx
      tm_at "go"
      refine ⟨rfl, ?_⟩
      tm_at "go"
      refine ⟨_, Sum.inl (n : Int), rfl, hd, ?_, Same.updF sm2 hD, ?_⟩
      · unfold kvOf
        rw [List.length_map]
        exact szlt (Nat.ble_eq_true_of_le (Nat.le_trans (ded_len _) (Nat.le_trans (List.length_take_le ..) (by omega))))
      · rw [upd_same, putK_kv, take_succ hn, ded_snoc]
    · rintro H2 ⟨sm2, hd⟩
      rw [hlen, List.take_length] at hd
      have ha2' := sm2 _ _ ha2
      tm_at "go"
      refine r_cut (fun σ' H' => ∃ c : Nat, σ' = [some (.ref t), some (.int (c : Int)), some (.int (p' : Int)), some (.ref a2), some (.ref D), none] ∧ H' = H2 ∧ LeastS L p' (shortOf p' R) sc c) ?_ ?_
      · refine ⟨fun m σ H' => ∃ c : Nat, m = c ∧ σ = [some (.ref t), some (.int (c : Int)), some (.int (p' : Int)), some (.ref a2), some (.ref D), none] ∧ H' = H2 ∧ 1 ≤ c ∧ c ≤ sc ∧ ∀ n, c ≤ n → n < sc → L.contains n = (shortOf p' R).contains (n % p'),
          ⟨_, sc, rfl, rfl, rfl, s1, Nat.le_refl _, fun n h1 h2 => by omega⟩, ?_⟩
        rintro m σ H' ⟨c, hmc, rfl, rfl, c1, c2, hsame⟩
        subst m
        tm_at "go"
        refine r_id (fun h1 => ?_) (fun h1 => ?_)
        · have hc1 : (c : Int) - 1 = ((c - 1 : Nat) : Int) := by omega
          tm_at "go"
          rw [hc1]
          refine r_dinG (k := Sum.inl ((c - 1 : Nat) : Int)) hd ?_
          rw [valV_kv]
          tm_at "go"
          refine r_mod (by have := lp.pos; omega) ?_
          tm_at "go"
          rw [hc1, ← Int.natCast_emod]
          refine r_inQ (.inr (SqT.of ha2')) rfl (flat_nats _) ?_
          rw [inV_nat]
          refine r_eq rfl ?_
          rw [blEq]
          tm_at "go"
          have hcon : (ded L).contains (c - 1) = L.contains (c - 1) := by
            rw [Bool.eq_iff_iff, List.contains_iff_mem, List.contains_iff_mem]; exact ded_mem L _
          rw [hcon]
          refine r_ite (fun he => ?_) (fun he => ?_)
          · have he' := beq_iff_eq.mp he
            refine ⟨fun σ' H'' => σ' = [some (.ref t), some (.int ((c - 1 : Nat) : Int)), some (.int (p' : Int)), some (.ref a2), some (.ref D), none] ∧ H'' = H',
              fun σ' H'' z => ⟨c - 1, by omega, c - 1, rfl, z.1, z.2, by omega, by omega, fun n h1 h2 => ?_⟩, ?_⟩
            · by_cases e : n = c - 1
              · rw [e]; exact he'
              · exact hsame n (by omega) h2
            · tm_at "go"
              rw [hc1]
              exact ⟨rfl, rfl⟩
          · exact ⟨c, rfl, rfl, c1, c2, hsame, .inr fun z => by rw [z] at he; simp at he⟩
        · exact ⟨c, rfl, rfl, c1, c2, hsame, .inl (by omega)⟩
      rintro σ H' ⟨c, rfl, rfl, lc⟩
      have smA : Same H H' := sm1.trans sm2
      have hD0 : H D = Option.none := Same.free sm1 hD
      tm_at "go"
      refine r_lockE hd fun od => ?_
      have smL : Same H (upd H' D (.frz od (.dK (kvOf (ded L))))) := Same.updF smA hD0
      have ha2L : (upd H' D (.frz od (.dK (kvOf (ded L))))) a2 = some (.tup (natV (shortOf p' R))) := at_upd (ne_of_none ha2 hD) ha2'
      have hdL : (upd H' D (.frz od (.dK (kvOf (ded L))))) D = some (.frz od (.dK (kvOf (ded L)))) := upd_same
      generalize upd H' D (.frz od (.dK (kvOf (ded L)))) = HL at smL ha2L hdL ⊢
      tm_at "go"
      refine ⟨D, od, rfl, .inl ⟨_, hdL, fun D2 hD2 => ?_⟩⟩
      have hD20 : H D2 = Option.none := Same.free smL hD2
      refine lc_it walk_keys (fun i H'' => Same HL H'' ∧ H'' D2 = some (.lst (natV (((ded L).take i).filter fun n => decide (n < c))))) ⟨same_new hD2, upd_same⟩ (fun i H'' _ p => p.1 _ _ hdL) ?_ ?_
      · rintro i x H3 H4 hi ⟨sm3, hl3⟩ ⟨rfl, kk, vv, hkv, rfl⟩
        obtain ⟨n, hn, rfl⟩ : ∃ n, (ded L)[i]? = some n ∧ kk = Sum.inl (n : Int) := by
          unfold kvOf at hkv
          rw [List.getElem?_map] at hkv
          cases e : (ded L)[i]? with
          | none => rw [e] at hkv; cases hkv
          | some n => rw [e] at hkv; cases hkv; exact ⟨n, rfl, rfl⟩
        rw [show kV (Sum.inl (n : Int)) = V.int (n : Int) from rfl]
        tm_at "go"
        refine ⟨rfl, ?_⟩
        tm_at "go"
        have e : decide ((n : Int) < (c : Int)) = decide (n < c) := by simp
        rw [e]
        refine r_id (fun hc => ?_) (fun hc => ?_)
        · tm_at "go"
          refine ⟨_, hl3, ?_, Same.updF sm3 hD2, ?_⟩
          · rw [List.length_map]
            exact szlt (Nat.ble_eq_true_of_le (Nat.le_trans (List.length_filter_le ..) (Nat.le_trans (by rw [List.length_take]; exact Nat.min_le_right ..) (Nat.le_trans (ded_len L) (by omega)))))
          · rw [upd_same, take_succ hn, List.filter_append, natV_app]
            simp [List.filter, hc]
        · refine ⟨sm3, ?_⟩
          rw [take_succ hn, List.filter_append]
          simp only [List.filter, decide_eq_false hc, List.append_nil]
          exact hl3
      · rintro H3 ⟨sm3, hl3⟩
        have hl3 : H3 D2 = some (.lst (natV ((ded L).filter fun n => decide (n < c)))) := by
          rw [show (kvOf (ded L)).length = (ded L).length from List.length_map .., List.take_length] at hl3
          exact hl3
        refine ⟨sm3 _ _ hdL, ?_⟩
        have nD2 : D2 ≠ D := ne_kind hl3 (sm3 _ _ hdL) fun z => nomatch z
        have smZ : Same H (upd H3 D (.dK (kvOf (ded L)))) := Same.updF (smL.trans sm3) hD0
        have hlZ : (upd H3 D (.dK (kvOf (ded L)))) D2 = some (.lst (natV ((ded L).filter fun n => decide (n < c)))) := at_upd nD2 hl3
        have haZ : (upd H3 D (.dK (kvOf (ded L)))) a2 = some (.tup (natV (shortOf p' R))) := at_upd (ne_kind (sm3 _ _ ha2L) (sm3 _ _ hdL) fun z => nomatch z) (sm3 _ _ ha2L)
        generalize upd H3 D (.dK (kvOf (ded L))) = HZ at smZ hlZ haZ ⊢
        tm_at "go"
        refine ⟨D2, ((ded L).filter fun n => decide (n < c)).map fun (n : Nat) => (n : Int), rfl, SqL.of (by rw [List.map_map]; exact hlZ), fun ns' ps hperm hsorted hps => ?_⟩
        have hns := sorted_nats (L := L) (c := c) (List.Pairwise.filter _ (ded_nodup L)) (fun n => by rw [List.mem_filter, ded_mem, decide_eq_true_eq]) hperm hsorted
        tm_at "go"
        refine r_tupL (SqL.of upd_same) fun a1 ha1 => ?_
        tm_at "go"
        refine ⟨szl rfl, fun pr hpr => ?_⟩
        have h1 : upd (upd HZ ps (.lst (ns'.map V.int))) a1 (.tup (ns'.map V.int)) a1 = some (.tup (natV (listedOf L c))) := by
          rw [upd_same, hns, List.map_map]; rfl
        have h2 : upd (upd HZ ps (.lst (ns'.map V.int))) a1 (.tup (ns'.map V.int)) a2 = some (.tup (natV (shortOf p' R))) := by tm_at "hs"
        exact k c p' pr a1 a2 _ lp lc (Same.new (Same.new (Same.new smZ hps) ha1) hpr) upd_same (at_upd (ne_of_none h1 hpr) h1) (at_upd (ne_of_none h2 hpr) h2)
end
/-! ### a set of numbers -/
def intOf (v : V) : Int := match v with | .int i => i | _ => 0
def geV (v : V) (a : Int) : Bool := match v with | .int i => decide (a ≤ i) | _ => false
def badN (ol : Option (List V)) (s p : V) (orr : Option (List V)) : Option Str :=
  if geV s 1 = false then some "since" else if allV ol 1 (intOf s - 1) = false then some "listed" else if geV p 1 = false then some "period" else if allV orr 0 (intOf p - 1) = false then some "rests" else none
theorem allV_nat {o : Option (List V)} {a b : Int} (h : allV o a b = true) (ha : 0 ≤ a) : ∃ L : List Nat, o = some (natV L) ∧ ∀ n ∈ L, a ≤ (n : Int) ∧ (n : Int) ≤ b := by
  cases o with
  | none => cases h
  | some xs =>
    replace h : (xs.all fun y => fromV y a b) = true := h
    suffices z : ∃ L : List Nat, xs = natV L ∧ ∀ n ∈ L, a ≤ (n : Int) ∧ (n : Int) ≤ b from by
      obtain ⟨L, e, q⟩ := z
      exact ⟨L, by rw [e], q⟩
    induction xs with
    | nil => exact ⟨[], rfl, by simp⟩
    | cons y xs ih =>
      rw [List.all_cons, Bool.and_eq_true] at h
      obtain ⟨L, e, q⟩ := ih h.2
      have h1 := h.1
      cases y with
      | int i =>
        have h1 : (decide (a ≤ i) && decide (i ≤ b)) = true := h1
        rw [Bool.and_eq_true, decide_eq_true_eq, decide_eq_true_eq] at h1
        refine ⟨i.toNat :: L, ?_, ?_⟩
        · rw [e, natV, natV, List.map_cons, Int.toNat_of_nonneg (by omega)]
        · intro n hn
          rcases List.mem_cons.mp hn with rfl | hn
          · omega
          · exact q n hn
      | _ => cases h1
abbrev numF (a1 : Addr) (s p : Nat) (a2 : Addr) : List (Str × V) := [("listed", .ref a1), ("since", .int (s : Int)), ("period", .int (p : Int)), ("rests", .ref a2)]
theorem numF_put (a1 : Addr) (s p : Nat) (a2 : Addr) : putF "rests" (.ref a2) (putF "period" (.int (p : Int)) (putF "since" (.int (s : Int)) (putF "listed" (.ref a1) []))) = numF a1 s p a2 := by
  have d1 : ¬ ("listed" : Str) = "since" := by decide +kernel
  have d2 : ¬ ("listed" : Str) = "period" := by decide +kernel
  have d3 : ¬ ("since" : Str) = "period" := by decide +kernel
  have d4 : ¬ ("listed" : Str) = "rests" := by decide +kernel
  have d5 : ¬ ("since" : Str) = "rests" := by decide +kernel
  have d6 : ¬ ("period" : Str) = "rests" := by decide +kernel
  simp only [putF, if_neg d1, if_neg d2, if_neg d3, if_neg d4, if_neg d5, if_neg d6]
def small (v : V) : Prop := ∀ i, v = .int i → i ≤ 10000
def spNumI (K : PySem.W.Frag) (aNum aInv : Addr) : Sp := fun vs H Q E => ∃ (x dx : Addr) (lv sv pv rv : V) (ol orr : Option (List V)), vs = [.ref x, lv, sv, pv, rv] ∧ H x = some (.ins aNum dx []) ∧ Arg K H lv ol ∧ Kd K H sv ∧ Kd K H pv ∧ Arg K H rv orr ∧ small sv ∧ small pv ∧
  (∀ w, badN ol sv pv orr = some w → ∀ (d : Addr) (H' : Hp), Same H H' → H' d = none → E (.ref aInv) (some d) (upd H' d (.xd [("word", .str w)]))) ∧
  (badN ol sv pv orr = none → ∀ (L R : List Nat) (s p s' p' : Nat) (a1 a2 : Addr) (H' : Hp), ol = some (natV L) → orr = some (natV R) → sv = .int (s : Int) → pv = .int (p : Int) → 1 ≤ s → 1 ≤ p → (∀ n ∈ L, 1 ≤ n ∧ n < s) → (∀ r ∈ R, r < p) →
    LeastP p R p' → LeastS L p' (shortOf p' R) s s' → Kx x H H' → H' x = some (.ins aNum dx (numF a1 s' p' a2)) → H' a1 = some (.tup (natV (listedOf L s'))) → H' a2 = some (.tup (natV (shortOf p' R))) → Q .non H')
theorem r_mkS {K : PySem.W.Frag} {C : Addr} {f : Str} {v : V} {σ : St} {H : Hp} {Q : XK} (T : OexC K C) (hf : PySem.W.findIn K (.ref C) f = some none) (k : ∀ d, H d = none → Q (.ref C) (some d) (upd H d (.xd [(f, v)]))) :
    tMkO C (spInitF K C f) [] (tCons (tC v) tNil) σ H Q := r_mkF (x := v) T hf ⟨v, rfl, k⟩ fun hh h => hh _ _ h
section
variable {K : PySem.W.Frag}
theorem ok_InvalidNumbers (F : ErrAt K mg "InvalidNumbers" "InvalidNumbers.__init__" s_InvalidNumbers__init aInv) (T : Txt K mg aGround aNum aInv) : ErrOk P w K mg base 1 "InvalidNumbers" aInv ["self", "word"] (spInitF K aInv "word") := by
  refine F.ok sc_InvalidNumbers__init (fun _ _ _ _ _ _ us hl => match us, hl with | [_, _], _ => rfl) (fun vs H Q E h => ?_) (fun f cdv A outer s H vs Q E hr h => ?_)
  · obtain ⟨a, x, rfl, _⟩ := h
    rfl
  · obtain ⟨a, x, rfl, oc, hno, ha, k⟩ := h
    refine ⟨_, (pss_cons (ps_expr (pe_ginit rfl T.m_GroundError T.b_GroundError (pa_cons (pv 0) (pa_cons pe_str pa_nil))))
  (pss_one (ps_ost (pv 0) (pv 1)))), ?_⟩
    tm_at "go"
    refine ⟨a, aInv, _, rfl, Nat.le_of_ble_eq_true rfl, oc, ha, ?_⟩
    refine ⟨x, rfl, .ref a, rfl, a, aInv, rfl, oc, hno, .inl ⟨ha, fun dx h1 h2 => ?_⟩⟩
    exact k dx h1 h2
theorem ok_NumI {aI : Addr} {fdI : FuncData} {dvs : List V} (F : FunD K "__init__" "Numbers.__init__" (defArgs s_Numbers__init) (defBody s_Numbers__init) (defScope s_Numbers__init) dvs [] aI fdI) (T : Txt K mg aGround aNum aInv)
    (D_is_integer : DefOk P w K mg base CX0 1 "is_integer" ["value"] (spIsInt K)) (D_all_from : DefOk P w K mg base CX0 2 "all_from" ["values", "least", "most"] (spAllFrom K)) (D_least_form : DefOk P w K mg base CX0 2 "least_form" ["told", "since", "period", "rests"] (spLForm K))
    (R_InvalidNumbers : ErrOk P w K mg base 1 "InvalidNumbers" aInv ["self", "word"] (spInitF K aInv "word")) :
    FnOk P w K mg base (L2.CX P w) 4 aI fdI ["self", "listed", "since", "period", "rests"] (spNumI K aNum aInv) := by
  refine F.ok sc_Numbers__init (fun vs H Q E h => ?_) (fun cdv A outer s H vs Q E hr h => ?_)
  · obtain ⟨x, dx, vL, vS, vP, vR, ol, orr, rfl, _⟩ := h
    rfl
  · obtain ⟨x, dx, vL, vS, vP, vR, ol, orr, rfl, hx, hl, hs, hp, hrr, sms, smp, kN, kY⟩ := h
    refine ⟨_, (pss_cons (ps_if (PW.pt (pw_or (pt_not (pt_tr K (pe_callD D_is_integer (hr.mono (by decide)) pass0 rfl (pa_cons (pv 2) pa_nil)))) (pw_or1 (pt_cmpR o_lt (pv 2) pe_int (nomark _))))) (pss_one (ps_raise rfl (takes_of rfl rfl rfl rfl) (pmkF R_InvalidNumbers (hr.mono (by decide)) rfl (pa_cons pe_str pa_nil))))
  pss_nil)
  (pss_cons (ps_if (pt_not (pt_tr K (pe_callD D_all_from (hr.mono (by decide)) pass0 rfl (pa_cons (pv 1) (pa_cons pe_int (pa_cons (pe_op o_sub (pv 2) pe_int) pa_nil)))))) (pss_one (ps_raise rfl (takes_of rfl rfl rfl rfl) (pmkF R_InvalidNumbers (hr.mono (by decide)) rfl (pa_cons pe_str pa_nil))))
  pss_nil)
  (pss_cons (ps_if (PW.pt (pw_or (pt_not (pt_tr K (pe_callD D_is_integer (hr.mono (by decide)) pass0 rfl (pa_cons (pv 3) pa_nil)))) (pw_or1 (pt_cmpR o_lt (pv 3) pe_int (nomark _))))) (pss_one (ps_raise rfl (takes_of rfl rfl rfl rfl) (pmkF R_InvalidNumbers (hr.mono (by decide)) rfl (pa_cons pe_str pa_nil))))
  pss_nil)
  (pss_cons (ps_if (pt_not (pt_tr K (pe_callD D_all_from (hr.mono (by decide)) pass0 rfl (pa_cons (pv 4) (pa_cons pe_int (pa_cons (pe_op o_sub (pv 3) pe_int) pa_nil)))))) (pss_one (ps_raise rfl (takes_of rfl rfl rfl rfl) (pmkF R_InvalidNumbers (hr.mono (by decide)) rfl (pa_cons pe_str pa_nil))))
  pss_nil)
  (pss_one (ps_asg (pe_callD D_least_form (hr.mono (by decide)) pass0 rfl (pa_cons (pv 1) (pa_cons (pv 2) (pa_cons (pv 3) (pa_cons (pv 4) pa_nil))))) (pg_t (n := 4) K rfl (pgs_cons (pg_fld K (pv 0)) (pgs_cons (pg_fld K (pv 0)) (pgs_cons (pg_fld K (pv 0)) (pgs_cons (pg_fld K (pv 0)) pgs_nil))))))))))), ?_⟩
    have RI := R_InvalidNumbers.2.1
    tm_at "go"
    refine ⟨vS, rfl, hs, ?_⟩
    tm_at "go"
    have bad1 : geV vS 1 = false → badN ol vS vP orr = some "since" := fun z => if_pos z
    refine r_ite (fun h1 => ?_) (fun h1 => ?_)
    · tm_at "go"
      refine r_mkS RI T.xw fun d hd => ?_
      exact kN _ (bad1 (by cases vS <;> first | rfl | cases h1)) d _ Same.refl hd
    · obtain ⟨i, rfl⟩ := isI_int (v := vS) (by cases vS <;> first | rfl | cases h1)
      tm_at "go"
      refine r_id (fun h2 => ?_) (fun h2 => ?_)
      · tm_at "go"
        refine r_mkS RI T.xw fun d hd => ?_
        exact kN _ (bad1 (decide_eq_false (by omega))) d _ Same.refl hd
      · tm_at "go"
        have g1 : ¬ geV (.int i) 1 = false := by
          rw [show geV (.int i) 1 = true from decide_eq_true (by omega)]
          exact fun z => nomatch z
        have bad2 : allV ol 1 (i - 1) = false → badN ol (.int i) vP orr = some "listed" := fun z => (if_neg g1).trans (if_pos z)
        refine ⟨vL, 1, i - 1, ol, rfl, hl, fun H1 s1 => ?_⟩
        tm_at "go"
        refine r_ite (fun h3 => ?_) (fun h3 => ?_)
        · tm_at "go"
          refine r_mkS RI T.xw fun d hd => ?_
          exact kN _ (bad2 (by simpa using h3)) d _ s1 hd
        · have h3' : allV ol 1 (i - 1) = true := by simpa using h3
          tm_at "go"
          refine ⟨vP, rfl, hp.mono s1, ?_⟩
          tm_at "go"
          have g2 : ¬ allV ol 1 (i - 1) = false := by rw [h3']; exact fun z => nomatch z
          have bad3 : geV vP 1 = false → badN ol (.int i) vP orr = some "period" := fun z => (if_neg g1).trans ((if_neg g2).trans (if_pos z))
          refine r_ite (fun h4 => ?_) (fun h4 => ?_)
          · tm_at "go"
            refine r_mkS RI T.xw fun d hd => ?_
            exact kN _ (bad3 (by cases vP <;> first | rfl | cases h4)) d _ s1 hd
          · obtain ⟨j, rfl⟩ := isI_int (v := vP) (by cases vP <;> first | rfl | cases h4)
            tm_at "go"
            refine r_id (fun h5 => ?_) (fun h5 => ?_)
            · tm_at "go"
              refine r_mkS RI T.xw fun d hd => ?_
              exact kN _ (bad3 (decide_eq_false (by omega))) d _ s1 hd
            · tm_at "go"
              have g3 : ¬ geV (.int j) 1 = false := by
                rw [show geV (.int j) 1 = true from decide_eq_true (by omega)]
                exact fun z => nomatch z
              have bad4 : allV orr 0 (j - 1) = false → badN ol (.int i) (.int j) orr = some "rests" := fun z => (if_neg g1).trans ((if_neg g2).trans ((if_neg g3).trans (if_pos z)))
              refine ⟨vR, 0, j - 1, orr, rfl, hrr.mono s1, fun H2 s2 => ?_⟩
              tm_at "go"
              refine r_ite (fun h6 => ?_) (fun h6 => ?_)
              · tm_at "go"
                refine r_mkS RI T.xw fun d hd => ?_
                exact kN _ (bad4 (by simpa using h6)) d _ (s1.trans s2) hd
              · have h6' : allV orr 0 (j - 1) = true := by simpa using h6
                have g4 : ¬ allV orr 0 (j - 1) = false := by rw [h6']; exact fun z => nomatch z
                have good : badN ol (.int i) (.int j) orr = none := (if_neg g1).trans ((if_neg g2).trans ((if_neg g3).trans (if_neg g4)))
                have kY := kY good
                obtain ⟨L, rfl, hLL⟩ := allV_nat h3' (by decide)
                obtain ⟨R, rfl, hRR⟩ := allV_nat h6' (by decide)
                obtain ⟨n, rfl⟩ : ∃ n : Nat, i = (n : Int) := ⟨i.toNat, by omega⟩
                obtain ⟨m, rfl⟩ : ∃ m : Nat, j = (m : Int) := ⟨j.toNat, by omega⟩
                have n2 := sms _ rfl
                have m2 := smp _ rfl
                have sm := s1.trans s2
                obtain ⟨tl, rfl, tls, tln, _⟩ := hl.mono sm
                obtain ⟨tr, rfl, trs, trn, _⟩ := hrr.mono sm
                rw [List.length_map] at tln
                tm_at "go"
                refine ⟨tl, tr, L, R, n, m, rfl, tls, trs, by omega, by omega, by omega, by omega, by omega, fun s' p' a a1 a2 H3 lp ls s3 ha ha1 ha2 => ?_⟩
                refine r_gT (SqT.of ha) rfl ?_
                have sm3 := sm.trans s3
                have hx3 := sm3 _ _ hx
                have n1 : a1 ≠ x := ne_kind ha1 hx3 fun z => nomatch z
                have n2 : a2 ≠ x := ne_kind ha2 hx3 fun z => nomatch z
                tm_at "go"
                refine r_putG hx3 T.clN T.nL (by decide) ?_
                tm_at "go"
                refine r_putG upd_same T.clN T.nS (Nat.lt_of_le_of_lt (putF_len ..) (by decide)) ?_
                tm_at "go"
                refine r_putG upd_same T.clN T.nP (Nat.lt_of_le_of_lt (Nat.le_trans (putF_len ..) (Nat.succ_le_succ (putF_len ..))) (by decide)) ?_
                tm_at "go"
                refine r_putG upd_same T.clN T.nR (Nat.lt_of_le_of_lt (Nat.le_trans (putF_len ..) (Nat.succ_le_succ (Nat.le_trans (putF_len ..) (Nat.succ_le_succ (putF_len ..))))) (by decide)) ?_
                tm_at "go"
                rw [upd_upd, upd_upd, upd_upd, numF_put]
                exact kY L R n m s' p' a1 a2 _ rfl rfl rfl rfl (by omega) (by omega) (fun q hq => by have := hLL q hq; omega) (fun q hq => by have := hRR q hq; omega) lp ls (Kx.set (Kx.same Kx.refl sm3)) upd_same (at_upd n1 ha1) (at_upd n2 ha2)
end
/-! ### what a set has -/
def hasN (L : List Nat) (s p : Nat) (R : List Nat) (n : Nat) : Bool := if n < s then L.contains n else R.contains (n % p)
/-- a set of numbers at x -/
def NumAt (aNum : Addr) (H : Hp) (x : Addr) (L : List Nat) (s p : Nat) (R : List Nat) : Prop := ∃ dx a1 a2, H x = some (.ins aNum dx (numF a1 s p a2)) ∧ H a1 = some (.tup (natV L)) ∧ H a2 = some (.tup (natV R))
theorem NumAt.mono {aNum : Addr} {H H' : Hp} {x : Addr} {L R : List Nat} {s p : Nat} (e : Same H H') (h : NumAt aNum H x L s p R) : NumAt aNum H' x L s p R := by
  obtain ⟨dx, a1, a2, h1, h2, h3⟩ := h
  exact ⟨dx, a1, a2, e _ _ h1, e _ _ h2, e _ _ h3⟩
def spTold (K : PySem.W.Frag) : Sp := fun vs H Q _ => ∃ (t a1 a2 : Addr) (L R : List Nat) (s p n : Nat), vs = [.ref t, .int (n : Int)] ∧ H t = some (.tup [.ref a1, .int (s : Int), .int (p : Int), .ref a2]) ∧
  (SqL K H a1 (natV L) ∨ SqT K H a1 (natV L)) ∧ (SqL K H a2 (natV R) ∨ SqT K H a2 (natV R)) ∧ 1 ≤ p ∧ Q (.bl (hasN L s p R n)) H
def spForm (aNum : Addr) : Sp := fun vs H Q _ => ∃ (x dx a1 a2 : Addr) (s p : Nat), vs = [.ref x] ∧ H x = some (.ins aNum dx (numF a1 s p a2)) ∧ ∀ t H', Same H H' → H' t = some (.tup [.ref a1, .int (s : Int), .int (p : Int), .ref a2]) → Q (.ref t) H'
/-- value in set -/
def inN (v : V) (L : List Nat) (s p : Nat) (R : List Nat) : Bool := match v with | .int i => decide (0 < i) && hasN L s p R i.toNat | _ => false
def spHas (K : PySem.W.Frag) (aNum : Addr) : Sp := fun vs H Q _ => ∃ (x : Addr) (v : V) (L R : List Nat) (s p : Nat), vs = [.ref x, v] ∧ NumAt aNum H x L s p R ∧ 1 ≤ p ∧ Kd K H v ∧ ∀ H', Same H H' → Q (.bl (inN v L s p R)) H'
section
variable {K : PySem.W.Frag}
theorem ok_is_told (F : DefAt K mg "is_told" s_is_told) (T : Txt K mg aGround aNum aInv) : DefOk P w K mg base CX0 1 "is_told" ["form", "number"] (spTold K) := by
  refine F.ok sc_is_told (fun _ _ _ _ _ _ us hl => match us, hl with | [_, _], _ => rfl) (fun vs H Q E h => ?_) (fun f cdv A outer s H vs Q E hr h => ?_)
  · obtain ⟨t, a1, a2, L, R, s, p, n, rfl, _⟩ := h
    rfl
  · obtain ⟨t, a1, a2, L, R, sc, p, n, rfl, ht, h1, h2, hp, k⟩ := h
    refine ⟨_, (pss_cons (ps_asg (pv 0) (pg_t (n := 4) K rfl (pgs_cons (pg_name (i := 2) sc_is_told.nd rfl (Or.inl rfl)) (pgs_cons (pg_name (i := 3) sc_is_told.nd rfl (Or.inl rfl)) (pgs_cons (pg_name (i := 4) sc_is_told.nd rfl (Or.inl rfl)) (pgs_cons (pg_name (i := 5) sc_is_told.nd rfl (Or.inl rfl)) pgs_nil))))))
  (pss_one (ps_ret (pe_ifExp (pt_cmpR o_lt (pv 1) (pv 3) (nomark _)) (pe_cmpR (o_in K) (pv 1) (pv 2) rfl) (pe_cmpR (o_in K) (pe_op o_mod (pe_callTy c_int (by rfl) T.n_int (by decide +kernel) (pa_cons (pv 1) pa_nil)) (pv 4)) (pv 5) rfl))))), ?_⟩
    tm_at "go"
    refine r_gT (SqT.of ht) rfl ?_
    tm_at "go"
    have e : decide ((n : Int) < (sc : Int)) = decide (n < sc) := by simp
    rw [e]
    unfold hasN at k
    refine r_id (fun hc => ?_) (fun hc => ?_)
    · rw [if_pos hc] at k
      tm_at "go"
      refine r_inQ h1 rfl (flat_nats _) ?_
      rw [inV_nat]
      exact k
    · rw [if_neg hc] at k
      tm_at "go"
      refine r_mod (by omega) ?_
      tm_at "go"
      rw [← Int.natCast_emod]
      refine r_inQ h2 rfl (flat_nats _) ?_
      rw [inV_nat]
      exact k
theorem ok_form (F : MetAt K aNum "form" "Numbers.form" s_Numbers_form) (T : Txt K mg aGround aNum aInv) : MetOk P w K mg base CX0 1 aNum "form" ["self"] (spForm aNum) := by
  refine F.ok sc_Numbers_form (fun _ _ _ _ _ _ us hl => match us, hl with | [_], _ => rfl) (fun vs H Q E h => ?_) (fun f cdv A outer s H vs Q E hr h => ?_)
  · obtain ⟨x, dx, a1, a2, s, p, rfl, _⟩ := h
    rfl
  · obtain ⟨x, dx, a1, a2, sc, p, rfl, hx, k⟩ := h
    refine ⟨_, (pss_one (ps_ret (pe_tup (pa_cons (pe_fl K (pv 0)) (pa_cons (pe_fl K (pv 0)) (pa_cons (pe_fl K (pv 0)) (pa_cons (pe_fl K (pv 0)) pa_nil))))))), ?_⟩
    tm_at "go"
    refine r_get hx T.clN T.nL rfl ?_
    tm_at "go"
    refine r_get hx T.clN T.nS rfl ?_
    tm_at "go"
    refine r_get hx T.clN T.nP rfl ?_
    tm_at "go"
    refine r_get hx T.clN T.nR rfl ?_
    tm_at "go"
    refine ⟨szl rfl, fun t ht => ?_⟩
    exact k t _ (same_new ht) upd_same
theorem ok_contains (F : MetAt K aNum "__contains__" "Numbers.__contains__" s_Numbers__contains) (T : Txt K mg aGround aNum aInv) (D_is_integer : DefOk P w K mg base CX0 1 "is_integer" ["value"] (spIsInt K)) (D_is_told : DefOk P w K mg base CX0 1 "is_told" ["form", "number"] (spTold K))
    (M_Numbers_form : MetOk P w K mg base CX0 1 aNum "form" ["self"] (spForm aNum)) : MetOk P w K mg base CX0 2 aNum "__contains__" ["self", "value"] (spHas K aNum) := by
  refine F.ok sc_Numbers__contains (fun _ _ _ _ _ _ us hl => match us, hl with | [_, _], _ => rfl) (fun vs H Q E h => ?_) (fun f cdv A outer s H vs Q E hr h => ?_)
  · obtain ⟨x, v, L, R, s, p, rfl, _⟩ := h
    rfl
  · obtain ⟨x, v, L, R, sc, p, rfl, ⟨dx, a1, a2, hx, ha1, ha2⟩, hp, hv, k⟩ := h
    refine ⟨_, (pss_one (ps_ret (pe_and (pe_callD D_is_integer (hr.mono (by decide)) pass0 rfl (pa_cons (pv 1) pa_nil)) (pe_and (pe_cmpR o_gt (pv 1) pe_int (nomark _)) (pe_one (pe_callD D_is_told (hr.mono (by decide)) pass0 rfl (pa_cons (pe_metD0 M_Numbers_form (hr.mono (by decide)) pass0 (pv 0)) (pa_cons (pv 1) pa_nil)))))))), ?_⟩
    tm_at "go"
    refine ⟨v, rfl, hv, ?_⟩
    tm_at "go"
    refine r_ite (fun h1 => ?_) (fun h1 => ?_)
    · obtain ⟨i, rfl⟩ := isI_int h1
      tm_at "go"
      refine r_id (fun h2 => ?_) (fun h2 => ?_)
      · obtain ⟨n, rfl⟩ : ∃ n : Nat, i = (n : Int) := ⟨i.toNat, by omega⟩
        tm_at "go"
        refine r_obj (a := x) hx rfl ?_
        tm_at "go"
        refine ⟨x, dx, a1, a2, sc, p, rfl, hx, fun t H' s' ht => ?_⟩
        tm_at "go"
        refine ⟨t, a1, a2, L, R, sc, p, n, rfl, ht, .inr (SqT.of (s' _ _ ha1)), .inr (SqT.of (s' _ _ ha2)), hp, ?_⟩
        have e : inN (.int (n : Int)) L sc p R = hasN L sc p R n := by
          show (decide (0 < (n : Int)) && hasN L sc p R (n : Int).toNat) = _
          rw [decide_eq_true h2, Bool.true_and, Int.toNat_natCast]
        rw [e] at k
        exact k _ s'
      · have e : inN (.int i) L sc p R = false := by
          show (decide (0 < i) && _) = false
          rw [decide_eq_false h2, Bool.false_and]
        rw [e] at k
        exact k _ Same.refl
    · have e : inN v L sc p R = false := by cases v <;> first | rfl | exact nomatch h1
      rw [e] at k
      exact k _ Same.refl
end
abbrev formD (L : List Nat) (s p : Nat) (R : List Nat) : PyData := .tuple [.tuple (natD L), .int (s : Int), .int (p : Int), .tuple (natD R)]
theorem eqv_form (L R L' R' : List Nat) (s p s' p' : Nat) : PyData.eqv (formD L s p R) (formD L' s' p' R') = decide (L = L' ∧ s = s' ∧ p = p' ∧ R = R') := by
  show (PyData.eqvAll (natD L) (natD L') && (((s : Int) == (s' : Int)) && (((p : Int) == (p' : Int)) && (PyData.eqvAll (natD R) (natD R') && true)))) = _
  rw [eqv_nats, eqv_nats, Bool.eq_iff_iff]
  simp only [Bool.and_eq_true, beq_iff_eq, decide_eq_true_eq, Bool.and_true]
  exact ⟨fun z => ⟨z.1, Int.ofNat.inj z.2.1, Int.ofNat.inj z.2.2.1, z.2.2.2⟩, fun z => ⟨z.1, by rw [z.2.1], by rw [z.2.2.1], z.2.2.2⟩⟩
theorem sp_form (L R : List Nat) (s p : Nat) : SeqAt.shaped (formD L s p R) = true := by
  unfold SeqAt.shaped
  simp only [formD, PyData.canLay0, PyData.canLayAll0, lay_nats, PyData.depth, PyData.depthAll, dep_nats]
  decide
def spEqN (K : PySem.W.Frag) (aNum : Addr) : Sp := fun vs H Q _ => (∃ (x y : Addr) (L R L' R' : List Nat) (s p s' p' : Nat), vs = [.ref x, .ref y] ∧ NumAt aNum H x L s p R ∧ NumAt aNum H y L' s' p' R' ∧
  ∀ H', Same H H' → Q (.bl (decide (L = L' ∧ s = s' ∧ p = p' ∧ R = R'))) H') ∨ ∃ (x : V) (v : V) (t : Value), vs = [x, v] ∧ TyX K H v t ∧ PySem.W.kitOne K t (.ref aNum) = some false ∧ Q (.bl false) H
section
variable {K : PySem.W.Frag}
theorem ok_eqN (F : MetAt K aNum "__eq__" "Numbers.__eq__" s_Numbers__eq) (T : Txt K mg aGround aNum aInv) : MetOk P w K mg base CX0 1 aNum "__eq__" ["self", "other"] (spEqN K aNum) := by
  refine F.ok sc_Numbers__eq (fun _ _ _ _ _ _ us hl => match us, hl with | [_, _], _ => rfl) (fun vs H Q E h => ?_) (fun f cdv A outer s H vs Q E hr h => ?_)
  · rcases h with ⟨x, y, L, R, L', R', s, p, s', p', rfl, _⟩ | ⟨x, v, t, rfl, _⟩ <;> rfl
  · refine ⟨_, (pss_cons (ps_if (pt_not (pt_tr K (pe_callB (c_isi K) (by rfl) T.n_isinstance (by decide +kernel) (pa_cons (pv 1) (pa_cons (pe_gR rfl T.m_Numbers) pa_nil))))) (pss_one (ps_ret pe_bl))
  pss_nil)
  (pss_cons (ps_set (i := 2) sc_Numbers__eq.nd rfl (Or.inl rfl) (pe_tup (pa_cons (pe_fl K (pv 0)) (pa_cons (pe_fl K (pv 0)) (pa_cons (pe_fl K (pv 0)) (pa_cons (pe_fl K (pv 0)) pa_nil))))))
  (pss_one (ps_ret (pe_cmpR (o_eq K hr.units) (pv 2) (pe_tup (pa_cons (pe_fl K (pv 1)) (pa_cons (pe_fl K (pv 1)) (pa_cons (pe_fl K (pv 1)) (pa_cons (pe_fl K (pv 1)) pa_nil))))) (nomark _)))))), ?_⟩
    rcases h with ⟨x, y, L, R, L', R', sc, p, s', p', rfl, ⟨dx, a1, a2, hx, ha1, ha2⟩, ⟨dy, b1, b2, hy, hb1, hb2⟩, k⟩ | ⟨x, v, t, rfl, ty, kt, k⟩
    rotate_left
    · tm_at "go"
      refine r_isi (.own aNum) ty kt ?_
      tm_at "go"
      exact k
    tm_at "go"
    refine r_isi (.own aNum) (T.tyN _ _ _ _ hy) (if_pos (beq_self_eq_true _)) ?_
    tm_at "go"
    refine r_get hx T.clN T.nL rfl ?_
    tm_at "go"
    refine r_get hx T.clN T.nS rfl ?_
    tm_at "go"
    refine r_get hx T.clN T.nP rfl ?_
    tm_at "go"
    refine r_get hx T.clN T.nR rfl ?_
    tm_at "go"
    refine ⟨szl rfl, fun t1 ht1 => ?_⟩
    have s1 : Same H (upd H t1 (.tup [.ref a1, .int (sc : Int), .int (p : Int), .ref a2])) := same_new ht1
    have hq1 : (upd H t1 (.tup [.ref a1, .int (sc : Int), .int (p : Int), .ref a2])) t1 = some (.tup [.ref a1, .int (sc : Int), .int (p : Int), .ref a2]) := upd_same
    generalize upd H t1 (.tup [.ref a1, .int (sc : Int), .int (p : Int), .ref a2]) = H1 at s1 hq1 ⊢
    have hy1 := s1 _ _ hy
    tm_at "go"
    refine r_get hy1 T.clN T.nL rfl ?_
    tm_at "go"
    refine r_get hy1 T.clN T.nS rfl ?_
    tm_at "go"
    refine r_get hy1 T.clN T.nP rfl ?_
    tm_at "go"
    refine r_get hy1 T.clN T.nR rfl ?_
    tm_at "go"
    refine ⟨szl rfl, fun t2 ht2 => ?_⟩
    have s2 : Same H1 (upd H1 t2 (.tup [.ref b1, .int (s' : Int), .int (p' : Int), .ref b2])) := same_new ht2
    have hq2 : (upd H1 t2 (.tup [.ref b1, .int (s' : Int), .int (p' : Int), .ref b2])) t2 = some (.tup [.ref b1, .int (s' : Int), .int (p' : Int), .ref b2]) := upd_same
    generalize upd H1 t2 (.tup [.ref b1, .int (s' : Int), .int (p' : Int), .ref b2]) = H2 at s2 hq2 ⊢
    have sA := s1.trans s2
    have dN : ∀ {a : Addr} {l : List Nat}, H a = some (.tup (natV l)) → Dp K H2 (.ref a) (.tuple (natD l)) := fun h => .tup (SqT.of (sA _ _ h)) (dp_nats _)
    tm_at "go"
    refine r_eqD (d := formD L sc p R) (e := formD L' s' p' R') (.tup (SqT.of (s2 _ _ hq1)) (.cons (dN ha1) (.cons (.int _) (.cons (.int _) (.cons (dN ha2) .nil)))))
      (.tup (SqT.of hq2) (.cons (dN hb1) (.cons (.int _) (.cons (.int _) (.cons (dN hb2) .nil))))) (sp_form ..) (sp_form ..) ?_
    rw [eqv_form]
    exact k _ sA
end
/-! ### a drawn form of a set -/
def Asc (l : List Nat) (a b : Nat) : Prop := l.Pairwise (· < ·) ∧ ∀ n ∈ l, a ≤ n ∧ n < b
theorem Asc.nil (a b : Nat) : Asc [] a b := ⟨.nil, fun n h => nomatch h⟩
theorem Asc.snoc {l : List Nat} {a b n : Nat} (h : Asc l a b) (h1 : a ≤ n) (h2 : b ≤ n) : Asc (l ++ [n]) a (n + 1) := by
  refine ⟨?_, fun m hm => ?_⟩
  · rw [List.pairwise_append]
    refine ⟨h.1, by simp, fun x hx y hy => ?_⟩
    rw [List.mem_singleton.mp hy]
    have := (h.2 x hx).2
    omega
  · rcases List.mem_append.mp hm with hm | hm
    · have := h.2 m hm
      omega
    · rw [List.mem_singleton.mp hm]
      omega
theorem Asc.up {l : List Nat} {a b c : Nat} (h : Asc l a b) (e : b ≤ c) : Asc l a c := ⟨h.1, fun n hn => by have := h.2 n hn; omega⟩
theorem Asc.len' : ∀ {l : List Nat} {a b : Nat}, Asc l a b → l.length ≤ b - a
  | [], _, _, _ => Nat.zero_le _
  | x :: l, a, b, h => by
    have h1 := List.pairwise_cons.mp h.1
    have hx := h.2 x (List.mem_cons_self ..)
    have := Asc.len' (l := l) (a := x + 1) (b := b) ⟨h1.2, fun n hn => ⟨h1.1 n hn, (h.2 n (List.mem_cons_of_mem _ hn)).2⟩⟩
    rw [List.length_cons]
    omega
theorem Asc.len {l : List Nat} {a b : Nat} (h : Asc l a b) : l.length ≤ b := Nat.le_trans h.len' (Nat.sub_le ..)
def spSome (K : PySem.W.Frag) : Sp := fun vs H Q _ => ∃ (b : Addr) (m : Nat), vs = [.ref b, .int (m : Int)] ∧ BoxAt H b ∧ 1 ≤ m ∧ m ≤ 1000 ∧
  ∀ (t l1 l2 : Addr) (L R : List Nat) (s p : Nat) (H' : Hp), Bx b H H' → H t = none → H l1 = none → H l2 = none → H' t = some (.tup [.ref l1, .int (s : Int), .int (p : Int), .ref l2]) → H' l1 = some (.lst (natV L)) → H' l2 = some (.lst (natV R)) →
    1 ≤ s → s ≤ m → 1 ≤ p → p ≤ m → Asc L 1 s → Asc R 0 p → Q (.ref t) H'
section
variable {K : PySem.W.Frag}
theorem ok_law_some (F : DefAt K mg "_law_some" s_law_some) (T : Txt K mg aGround aNum aInv) (D_law_take : DefOk P w K mg base CX0 1 "_law_take" ["_law_box_here", "_law_many"] spTake)
    (D_law_pick : DefOk P w K mg base CX0 2 "_law_pick" ["_law_box_here", "_law_items"] (spPick K)) : DefOk P w K mg base CX0 3 "_law_some" ["_law_box_here", "_law_most"] (spSome K) := by
  refine F.ok sc_law_some (fun _ _ _ _ _ _ us hl => match us, hl with | [_, _], _ => rfl) (fun vs H Q E h => ?_) (fun f cdv A outer s H vs Q E hr h => ?_)
  · obtain ⟨b, m, rfl, _⟩ := h
    rfl
  · obtain ⟨b, m, rfl, hb, m1, m2, k⟩ := h
    refine ⟨_, (pss_cons (ps_asg (pe_tup (pa_cons (pe_op (o_add K) pe_int (pe_callD D_law_take (hr.mono (by decide)) pass0 rfl (pa_cons (pv 0) (pa_cons (pv 1) pa_nil)))) (pa_cons (pe_op (o_add K) pe_int (pe_callD D_law_take (hr.mono (by decide)) pass0 rfl (pa_cons (pv 0) (pa_cons (pv 1) pa_nil)))) pa_nil))) (pg_t (n := 2) K rfl (pgs_cons (pg_name (i := 5) sc_law_some.nd rfl (Or.inl rfl)) (pgs_cons (pg_name (i := 6) sc_law_some.nd rfl (Or.inr rfl)) pgs_nil))))
  (pss_cons (ps_setLc (i := 2) rfl sc_law_some.nd rfl rfl (sw_true rfl rfl rfl (by decide +kernel)) (own := [("_law_number", 9)]) (g := (gName 9)) (pi_range2 (by rfl) T.n_range (pa_cons pe_int (pa_cons (pv 5) pa_nil))) (blkOk_by (own := [("_law_number", 9)]) (N := ["_law_box_here", "_law_most", "_law_ones", "_law_form", "_law_rests", "_law_since", "_law_period", "_law_small", "_law_size", "_law_number", "_law_rest"]) (sc := defScope s_law_some) (by decide +kernel)) (fun _ _ _ _ _ => (pg_name (i := 9) sc_law_some.nd rfl (Or.inl rfl) (Or.inr rfl))) (fun _ _ _ _ _ => (pts_one (pt_cmpR (o_eq K hr.units) (pe_callD D_law_take (hr.mono (by decide)) pass0 rfl (pa_cons (pv 0) (pa_cons pe_int pa_nil))) pe_int (nomark _)))) (fun _ _ _ _ _ => (pv 9)))
  (pss_cons (ps_set (i := 3) sc_law_some.nd rfl (Or.inl rfl) (pe_callD D_law_take (hr.mono (by decide)) pass0 rfl (pa_cons (pv 0) (pa_cons pe_int pa_nil))))
  (pss_cut (ps_set (i := 4) sc_law_some.nd rfl (Or.inl rfl) (pe_ifExp (pt_cmpR (o_eq K hr.units) (pv 3) pe_int (nomark _)) (pe_lst pa_nil) (pe_lc (own := [("_law_rest", 10)]) (g := (gName 10)) rfl sc_law_some.nd (pi_range1 (by rfl) T.n_range (pa_cons (pv 6) pa_nil)) (blkOk_by (own := [("_law_rest", 10)]) (N := ["_law_box_here", "_law_most", "_law_ones", "_law_form", "_law_rests", "_law_since", "_law_period", "_law_small", "_law_size", "_law_number", "_law_rest"]) (sc := defScope s_law_some) (by decide +kernel)) (fun _ _ _ _ _ => (pg_name (i := 10) sc_law_some.nd rfl (Or.inl rfl) (Or.inr rfl))) (fun _ _ _ _ _ => (pts_one (pt_cmpR o_gt (pe_callD D_law_take (hr.mono (by decide)) pass0 rfl (pa_cons (pv 0) (pa_cons pe_int pa_nil))) pe_int (nomark _)))) (fun _ _ _ _ _ => (pv 10)))))
  (pss_cut (ps_if (pt_cmpR (o_eq K hr.units) (pv 3) pe_int (nomark _)) (pss_cons (ps_setLc (i := 7) rfl sc_law_some.nd rfl rfl (sw_true rfl rfl rfl (by decide +kernel)) (own := [("_law_size", 8)]) (g := (gName 8)) (pi_range2 (by rfl) T.n_range (pa_cons pe_int (pa_cons (pe_op (o_add K) (pv 6) pe_int) pa_nil))) (blkOk_by (own := [("_law_size", 8)]) (N := ["_law_box_here", "_law_most", "_law_ones", "_law_form", "_law_rests", "_law_since", "_law_period", "_law_small", "_law_size", "_law_number", "_law_rest"]) (sc := defScope s_law_some) (by decide +kernel)) (fun _ _ _ _ _ => (pg_name (i := 8) sc_law_some.nd rfl (Or.inl rfl) (Or.inr rfl))) (fun _ _ _ _ _ => (pts_one (pt_cmpR (o_eq K hr.units) (pe_op o_mod (pv 6) (pv 8)) pe_int (nomark _)))) (fun _ _ _ _ _ => (pv 8)))
  (pss_cons (ps_set (i := 8) sc_law_some.nd rfl (Or.inr rfl) (pe_callD D_law_pick (hr.mono (by decide)) pass0 rfl (pa_cons (pv 0) (pa_cons (pv 7) pa_nil))))
  (pss_one (ps_setLc (i := 4) rfl sc_law_some.nd rfl rfl (sw_true rfl rfl rfl (by decide +kernel)) (own := [("_law_rest", 10)]) (g := (gName 10)) (pi_range1 (by rfl) T.n_range (pa_cons (pv 6) pa_nil)) (blkOk_by (own := [("_law_rest", 10)]) (N := ["_law_box_here", "_law_most", "_law_ones", "_law_form", "_law_rests", "_law_since", "_law_period", "_law_small", "_law_size", "_law_number", "_law_rest"]) (sc := defScope s_law_some) (by decide +kernel)) (fun _ _ _ _ _ => (pg_name (i := 10) sc_law_some.nd rfl (Or.inl rfl) (Or.inr rfl))) (fun _ _ _ _ _ => (pts_one (pt_cmpR (o_eq K hr.units) (pe_op o_mod (pv 10) (pv 8)) pe_int (nomark _)))) (fun _ _ _ _ _ => (pv 10))))))
  pss_nil)
  (pss_one (ps_ret (pe_tup (pa_cons (pv 2) (pa_cons (pv 5) (pa_cons (pv 6) (pa_cons (pv 4) pa_nil)))))))))))), ?_⟩
    tm_at "go"
    refine r_take hb (by omega) (by omega) fun d1 H1 d10 d11 hx1 => ?_
    tm_at "go"
    refine r_take hx1.box (by omega) (by omega) fun d2 H2 d20 d21 hx2 => ?_
    obtain ⟨sc, hsc⟩ : ∃ n : Nat, 1 + d1 = (n : Int) := ⟨(1 + d1).toNat, by omega⟩
    obtain ⟨pp, hpp⟩ : ∃ n : Nat, 1 + d2 = (n : Int) := ⟨(1 + d2).toNat, by omega⟩
    tm_at "go"
    rw [hsc, hpp]
    refine ⟨szl rfl, fun pt hpt => ?_⟩
    have c1 : 1 ≤ sc ∧ sc ≤ m := by omega
    have c2 : 1 ≤ pp ∧ pp ≤ m := by omega
    have hx12 := (hx1.trans hx2).upd (o := .tup [.int (sc : Int), .int (pp : Int)]) hpt
    have hpt2 : (upd H2 pt (.tup [.int (sc : Int), .int (pp : Int)])) pt = some (.tup [.int (sc : Int), .int (pp : Int)]) := upd_same
    clear hx1 hx2 hpt
    generalize upd H2 pt (.tup [.int (sc : Int), .int (pp : Int)]) = G2 at hx12 hpt2 ⊢
    refine r_gT (SqT.of hpt2) rfl ?_
    tm_at "go"
    refine ⟨1, sc, rfl, ⟨by decide, by decide, by omega, by omega⟩, fun D hD => ?_⟩
    have nDb : D ≠ b := Ne.symm (hx12.box.fresh hD)
    rw [show ((sc : Int) - 1).toNat = sc - 1 by omega]
    refine lc_range (fun i H' => Bx b G2 H' ∧ ∃ L, Asc L 1 (1 + i) ∧ H' D = some (.lst (natV L))) ⟨(Bx.refl hx12.box).upd hD, [], Asc.nil _ _, upd_same⟩ ?_ ?_
    · rintro i H3 hi ⟨hx3, L, hL, hl3⟩
      tm_at "go"
      refine ⟨rfl, ?_⟩
      tm_at "go"
      refine r_take hx3.box (by decide) (by decide) fun d H4 _ _ hx4 => ?_
      have hl4 := hx4.keep _ _ nDb hl3
      tm_at "go"
      refine r_eq rfl ?_
      tm_at "go"
      refine r_ite (fun _ => ?_) (fun _ => ?_)
      · tm_at "go"
        refine ⟨_, hl4, szlt (by rw [List.length_map]; exact Nat.ble_eq_true_of_le (Nat.le_trans hL.len (by omega))), (hx3.trans hx4).updD hD nDb, L ++ [1 + i], ?_, ?_⟩
        · exact Asc.snoc hL (by omega) (Nat.le_refl _)
        · rw [upd_same, natV_app]
          have e : (1 : Int) + (i : Int) = ((1 + i : Nat) : Int) := by omega
          rw [e]
          rfl
      · exact ⟨hx3.trans hx4, L, hL.up (by omega), hl4⟩
    · rintro H3 ⟨hx3, L, hL, hl3⟩
      have hL : Asc L 1 sc := hL.up (by omega)
      tm_at "go"
      have hxD := hx12.trans hx3
      have hD0 : H D = Option.none := hx12.free hD
      have nbD : D ≠ b := nDb
      clear hD hx12 hx3 hpt2
      refine r_take hxD.box (by decide) (by decide) fun d4 H4 _ _ hx4 => ?_
      have hl4 := hx4.keep _ _ nDb hl3
      have hxE := hxD.trans hx4
      clear hxD hx4 hl3
      tm_at "go"
      let P1 : St → Hp → Prop := fun σ' H' => (∃ (l2 : Addr) (R : List Nat), (∃ o7 o8 o9 o10 : Option V, σ' = [some (.ref b), some (.int (m : Int)), some (.ref D), some (.int d4), some (.ref l2), some (.int (sc : Int)), some (.int (pp : Int)), o7, o8, o9, o10]) ∧
        Bx b H H' ∧ H' D = some (.lst (natV L)) ∧ H' l2 = some (.lst (natV R)) ∧ H l2 = Option.none ∧ Asc R 0 pp)
      refine r_cut P1 ?_ ?_
      · tm_at "go"
        refine r_eq rfl ?_
        tm_at "go"
        refine r_ite (fun _ => ?_) (fun _ => ?_)
        · tm_at "go"
          refine ⟨szl rfl, fun l2 hl2 => ?_⟩
          tm_at "go"
          exact ⟨l2, [], ⟨_, _, _, _, rfl⟩, hxE.upd hl2, at_upd (ne_of_none hl4 hl2) hl4, upd_same, hxE.free hl2, Asc.nil _ _⟩
        · tm_at "go"
          refine ⟨_, rfl, by omega, by omega, fun D2 hD2 => ?_⟩
          have nD2b : D2 ≠ b := Ne.symm (hxE.box.fresh hD2)
          have nDD2 : D ≠ D2 := ne_of_none hl4 hD2
          have hD20 : H D2 = Option.none := hxE.free hD2
          rw [Int.toNat_natCast]
          refine lc_range (fun i H' => Bx b H H' ∧ H' D = some (.lst (natV L)) ∧ ∃ R, Asc R 0 i ∧ H' D2 = some (.lst (natV R))) ⟨hxE.upd hD2, at_upd nDD2 hl4, [], Asc.nil _ _, upd_same⟩ ?_ ?_
          · rintro i H5 hi ⟨hx5, hlD, R, hR, hlR⟩
            rw [Int.zero_add]
            tm_at "go"
            refine ⟨rfl, ?_⟩
            tm_at "go"
            refine r_take hx5.box (by decide) (by decide) fun d H6 _ _ hx6 => ?_
            have hlR6 := hx6.keep _ _ nD2b hlR
            have hlD6 := hx6.keep _ _ nDb hlD
            tm_at "go"
            refine r_ite (fun _ => ?_) (fun _ => ?_)
            · tm_at "go"
              refine ⟨_, hlR6, szlt (by rw [List.length_map]; exact Nat.ble_eq_true_of_le (Nat.le_trans hR.len (by omega))), (hx5.trans hx6).updD hD20 nD2b, at_upd nDD2 hlD6, R ++ [i], Asc.snoc hR (Nat.zero_le _) (Nat.le_refl _), ?_⟩
              rw [upd_same, natV_app]
              rfl
            · exact ⟨hx5.trans hx6, hlD6, R, hR.up (Nat.le_succ _), hlR6⟩
          · rintro H5 ⟨hx5, hlD, R, hR, hlR⟩
            tm_at "go"
            exact ⟨D2, R, ⟨_, _, _, _, rfl⟩, hx5, hlD, hlR, hD20, hR⟩
      rintro σ H5 ⟨l2, R, ⟨o7, o8, o9, o10, rfl⟩, hx5, hlD, hlR, hl20, hR⟩
      clear hxE hl4
      refine r_cut P1 ?_ ?_
      · tm_at "go"
        refine r_eq rfl ?_
        tm_at "go"
        refine r_ite (fun _ => ?_) (fun _ => ?_)
        · tm_at "go"
          refine ⟨1, _, rfl, ⟨by decide, by decide, by omega, by omega⟩, fun D3 hD3 => ?_⟩
          rw [show ((pp : Int) + 1 - 1).toNat = pp by omega]
          refine lc_range (fun i H' => Bx b H H' ∧ (H' D = some (.lst (natV L)) ∧ H' l2 = some (.lst (natV R))) ∧ ∃ S, Asc S 1 (1 + i) ∧ (1 ≤ i → S ≠ []) ∧ H' D3 = some (.lst (natV S)))
            ⟨hx5.upd hD3, ⟨at_upd (ne_of_none hlD hD3) hlD, at_upd (ne_of_none hlR hD3) hlR⟩, [], Asc.nil _ _, fun z => by omega, upd_same⟩ ?_ ?_
          · rintro i H6 hi ⟨hx6, ⟨hlD6, hlR6⟩, S, hS, hne, hl6⟩
            have e1 : (1 : Int) + (i : Int) = ((1 + i : Nat) : Int) := by omega
            rw [e1]
            tm_at "go"
            refine ⟨rfl, ?_⟩
            tm_at "go"
            refine r_mod (by omega) ?_
            tm_at "go"
            refine r_eq rfl ?_
            tm_at "go"
            refine r_ite (fun _ => ?_) (fun hc => ?_)
            · tm_at "go"
              have nb3 : D3 ≠ b := Ne.symm (hx5.box.fresh hD3)
              have n1 : D ≠ D3 := ne_of_none hlD hD3
              have n2 : l2 ≠ D3 := ne_of_none hlR hD3
              refine ⟨_, hl6, szlt (by rw [List.length_map]; exact Nat.ble_eq_true_of_le (Nat.le_trans hS.len (by omega))), hx6.updD (hx5.free hD3) nb3, ⟨at_upd n1 hlD6, at_upd n2 hlR6⟩, S ++ [1 + i], ?_, fun _ z => by simp at z, ?_⟩
              · exact Asc.snoc hS (by omega) (Nat.le_refl _)
              · rw [upd_same, natV_app]
                rfl
            · refine ⟨hx6, ⟨hlD6, hlR6⟩, S, hS.up (by omega), fun hi1 => ?_, hl6⟩
              by_cases z : i = 0
              · subst z
                exact absurd hc (by simp)
              · exact hne (by omega)
          · rintro H6 ⟨hx6, ⟨hlD6, hlR6⟩, S, hS, hne, hl6⟩
            have nb3 : D3 ≠ b := Ne.symm (hx5.box.fresh hD3)
            have hne := hne c2.1
            tm_at "go"
            refine ⟨b, D3, natV S, rfl, hx6.box, .inl (SqL.of hl6), nb3, ?_, ?_, fun v H7 hv hx7 => ?_⟩
            · rw [List.length_map]
              exact List.length_pos_iff.mpr hne
            · rw [List.length_map]
              have := hS.len
              omega
            obtain ⟨n, hn, rfl⟩ : ∃ n, n ∈ S ∧ v = .int ((n : Nat) : Int) := by
              obtain ⟨n, h1, h2⟩ := List.mem_map.mp hv
              exact ⟨n, h1, h2.symm⟩
            have n1 := (hS.2 n hn).1
            have hlD7 := hx7.keep _ _ nbD hlD6
            have hx67 := hx6.trans hx7
            tm_at "go"
            refine ⟨_, rfl, by omega, by omega, fun D4 hD4 => ?_⟩
            have nb4 : D4 ≠ b := Ne.symm (hx67.box.fresh hD4)
            have nDD4 : D ≠ D4 := ne_of_none hlD7 hD4
            have hD40 : H D4 = Option.none := hx67.free hD4
            rw [Int.toNat_natCast]
            refine lc_range (fun i H' => Bx b H H' ∧ H' D = some (.lst (natV L)) ∧ ∃ R, Asc R 0 i ∧ H' D4 = some (.lst (natV R))) ⟨hx67.upd hD4, at_upd nDD4 hlD7, [], Asc.nil _ _, upd_same⟩ ?_ ?_
            · rintro i H8 hi ⟨hx8, hlD8, R8, hR8, hlR8⟩
              rw [Int.zero_add]
              tm_at "go"
              refine ⟨rfl, ?_⟩
              tm_at "go"
              refine r_mod (by omega) ?_
              tm_at "go"
              refine r_eq rfl ?_
              tm_at "go"
              refine r_ite (fun _ => ?_) (fun _ => ?_)
              · tm_at "go"
                refine ⟨_, hlR8, szlt (by rw [List.length_map]; exact Nat.ble_eq_true_of_le (Nat.le_trans hR8.len (by omega))), hx8.updD hD40 nb4, at_upd nDD4 hlD8, R8 ++ [i], Asc.snoc hR8 (Nat.zero_le _) (Nat.le_refl _), ?_⟩
                rw [upd_same, natV_app]
                rfl
              · exact ⟨hx8, hlD8, R8, hR8.up (Nat.le_succ _), hlR8⟩
            · rintro H8 ⟨hx8, hlD8, R8, hR8, hlR8⟩
              tm_at "go"
              exact ⟨D4, R8, ⟨_, _, _, _, rfl⟩, hx8, hlD8, hlR8, hD40, hR8⟩
        · tm_at "go"
          exact ⟨l2, R, ⟨_, _, _, _, rfl⟩, hx5, hlD, hlR, hl20, hR⟩
      rintro σ H6 ⟨l3, R3, ⟨o7, o8, o9, o10, rfl⟩, hx6, hlD6, hlR6, hl30, hR3⟩
      tm_at "go"
      refine ⟨szl rfl, fun t ht => ?_⟩
      exact k t D l3 L R3 sc pp _ (hx6.upd ht) (hx6.free ht) hD0 hl30 upd_same (at_upd (ne_of_none hlD6 ht) hlD6) (at_upd (ne_of_none hlR6 ht) hlR6) c1.1 c1.2 c2.1 c2.2 hL hR3
end
/-! ### the least form is one alone -/
structure FormN (L : List Nat) (s p : Nat) (R : List Nat) : Prop where
  s1 : 1 ≤ s
  p1 : 1 ≤ p
  aL : Asc L 1 s
  aR : Asc R 0 p
  per : ∀ t, 1 ≤ t → t < p → p % t = 0 → ¬ ∀ r, r < p → R.contains r = R.contains (r % t)
  last : s = 1 ∨ L.contains (s - 1) ≠ R.contains ((s - 1) % p)
theorem con_iff {l : List Nat} {n : Nat} : l.contains n = true ↔ n ∈ l := List.contains_iff_mem
theorem con_eq {l m : List Nat} (h : ∀ n, n ∈ l ↔ n ∈ m) (n : Nat) : l.contains n = m.contains n := by
  rw [Bool.eq_iff_iff, con_iff, con_iff]
  exact h n
theorem con_no {l : List Nat} {n : Nat} (h : n ∉ l) : l.contains n = false := by
  cases e : l.contains n with
  | false => rfl
  | true => exact absurd (con_iff.mp e) h
theorem Asc.nodup {l : List Nat} {a b : Nat} (h : Asc l a b) : l.Nodup := h.1.imp fun h => Nat.ne_of_lt h
theorem Asc.ext {l m : List Nat} {a b c d : Nat} (h : Asc l a b) (g : Asc m c d) (e : ∀ n, n ∈ l ↔ n ∈ m) : l = m := by
  refine List.Perm.eq_of_pairwise (le := (· ≤ ·)) (fun a b _ _ h1 h2 => Nat.le_antisymm h1 h2) (h.1.imp fun h => Nat.le_of_lt h) (g.1.imp fun h => Nat.le_of_lt h) ((List.perm_ext_iff_of_nodup h.nodup g.nodup).mpr e)
theorem asc_filter (q : Nat → Bool) (a b : Nat) (h : ∀ n, n < b → q n = true → a ≤ n) : Asc ((List.range b).filter q) a b := by
  refine ⟨List.Pairwise.filter _ List.pairwise_lt_range, fun n hn => ?_⟩
  rw [List.mem_filter, List.mem_range] at hn
  exact ⟨h n hn.1 hn.2, hn.1⟩
theorem Asc.eq_filter {l : List Nat} {a b : Nat} (h : Asc l a b) : (List.range b).filter (fun n => l.contains n) = l := by
  refine (asc_filter _ a b (fun n _ z => (h.2 n (con_iff.mp z)).1)).ext h fun n => ?_
  rw [List.mem_filter, List.mem_range, con_iff]
  exact ⟨fun z => z.2, fun z => ⟨(h.2 n z).2, z⟩⟩
theorem hasN_congr {L L' R R' : List Nat} (hL : ∀ n, n ∈ L ↔ n ∈ L') (hR : ∀ n, n ∈ R ↔ n ∈ R') (s p n : Nat) : hasN L s p R n = hasN L' s p R' n := by
  unfold hasN
  rw [con_eq hL, con_eq hR]
theorem mod_mod_of {p q n : Nat} (h : q % p = 0) : n % q % p = n % p := Nat.mod_mod_of_dvd n (Nat.dvd_of_mod_eq_zero h)
theorem bad_nil {p s : Nat} {R : List Nat} : badOf p s R = [] ↔ ∀ r, r < p → (shortOf s R).contains (r % s) = R.contains r := by
  unfold badOf
  rw [List.filter_eq_nil_iff]
  constructor
  · intro h r hr
    have := h r (List.mem_range.mpr hr)
    simpa using this
  · intro h r hr
    rw [h r (List.mem_range.mp hr)]
    simp
theorem FormN.of {L0 R0 : List Nat} {s0 p0 s p : Nat} (hL : ∀ n ∈ L0, 1 ≤ n ∧ n < s0) (hR : ∀ r ∈ R0, r < p0) (lp : LeastP p0 R0 p) (ls : LeastS L0 p (shortOf p R0) s0 s) :
    FormN (listedOf L0 s) s p (shortOf p R0) ∧ s ≤ s0 ∧ p0 % p = 0 ∧ ∀ n, 1 ≤ n → hasN (listedOf L0 s) s p (shortOf p R0) n = hasN L0 s0 p0 R0 n := by
  have hp := lp.pos
  have ok := bad_nil.mp lp.ok
  have lc : ∀ n, n < s → (listedOf L0 s).contains n = L0.contains n := fun n hn => by
    unfold listedOf
    rw [Bool.eq_iff_iff, con_iff, con_iff, List.mem_filter, List.mem_range, con_iff]
    exact ⟨fun z => z.2, fun z => ⟨hn, z⟩⟩
  refine ⟨⟨ls.pos, hp, ?_, ?_, ?_, ?_⟩, ls.le, lp.dvd, ?_⟩
  · exact asc_filter _ _ _ fun n _ z => (hL n (con_iff.mp z)).1
  · exact asc_filter _ _ _ fun n _ _ => Nat.zero_le _
  · intro t t1 t2 td hall
    have hd : p0 % t = 0 := by
      obtain ⟨a, ha⟩ := Nat.dvd_of_mod_eq_zero lp.dvd
      obtain ⟨c, hc⟩ := Nat.dvd_of_mod_eq_zero td
      rw [ha, hc, Nat.mul_assoc]
      exact Nat.mul_mod_right _ _
    refine lp.least t t1 t2 hd (bad_nil.mpr fun r hr => ?_)
    have e1 := ok r hr
    have hrp : r % p < p := Nat.mod_lt _ hp
    have e2 := hall (r % p) hrp
    rw [e1, mod_mod_of td] at e2
    have hrt : r % t < t := Nat.mod_lt _ t1
    rw [short_has (Nat.lt_trans hrt t2)] at e2
    rw [short_has hrt, e2]
  · rcases ls.last with h | h
    · exact .inl h
    · by_cases h1 : s = 1
      · exact .inl h1
      · refine .inr ?_
        have := ls.pos
        rw [lc _ (by omega)]
        exact h
  · intro n hn
    unfold hasN
    by_cases h1 : n < s
    · rw [if_pos h1, if_pos (Nat.lt_of_lt_of_le h1 ls.le), lc n h1]
    · rw [if_neg h1]
      by_cases h2 : n < s0
      · rw [if_pos h2, ls.same n (by omega) h2]
      · have hp0 : 0 < p0 := Nat.lt_of_lt_of_le hp lp.le
        rw [if_neg h2, ← ok _ (Nat.mod_lt _ hp0), mod_mod_of lp.dvd]
theorem period_gcd (f : Nat → Bool) : ∀ a b : Nat, (∀ n, f (n + a) = f n) → (∀ n, f (n + b) = f n) → ∀ n, f (n + Nat.gcd a b) = f n := by
  intro a b
  induction a, b using Nat.gcd.induction with
  | H0 n => intro _ h; rw [Nat.gcd_zero_left]; exact h
  | H1 m n hm ih =>
    intro h1 h2
    rw [Nat.gcd_rec]
    refine ih (fun k => ?_) h1
    have mul : ∀ c k, f (k + m * c) = f k := fun c => by
      induction c with
      | zero => intro k; rfl
      | succ c ihc => intro k; rw [Nat.mul_succ, ← Nat.add_assoc, h1, ihc]
    have e := h2 k
    rw [← Nat.mod_add_div n m, ← Nat.add_assoc, mul] at e
    exact e
theorem per_mul {f : Nat → Bool} {p : Nat} (h : ∀ n, f (n + p) = f n) (c : Nat) : ∀ k, f (k + p * c) = f k := by
  induction c with
  | zero => intro k; rfl
  | succ c ih => intro k; rw [Nat.mul_succ, ← Nat.add_assoc, h, ih]
theorem per_mod {f : Nat → Bool} {p : Nat} (h : ∀ n, f (n + p) = f n) (k : Nat) : f (k % p) = f k := by
  have e := per_mul h (k / p) (k % p)
  rw [Nat.mod_add_div] at e
  exact e.symm
theorem FormN.tail {L R : List Nat} {s p n : Nat} (h : s ≤ n) : hasN L s p R n = R.contains (n % p) := by
  unfold hasN
  rw [if_neg (Nat.not_lt.mpr h)]
theorem FormN.head {L R : List Nat} {s p n : Nat} (h : n < s) : hasN L s p R n = L.contains n := by
  unfold hasN
  rw [if_pos h]
theorem FormN.gcd_ge {L R : List Nat} {s p q : Nat} (F : FormN L s p R) (hq : ∀ n, R.contains ((n + q) % p) = R.contains (n % p)) : p ∣ q := by
  have hp : ∀ n, R.contains ((n + p) % p) = R.contains (n % p) := fun n => by rw [Nat.add_mod_right]
  have hg := period_gcd (fun n => R.contains (n % p)) p q hp hq
  have g1 : 1 ≤ Nat.gcd p q := Nat.gcd_pos_of_pos_left _ F.p1
  have gd : Nat.gcd p q ∣ p := Nat.gcd_dvd_left ..
  by_cases e : Nat.gcd p q = p
  · rw [← e]
    exact Nat.gcd_dvd_right ..
  · have gl : Nat.gcd p q < p := Nat.lt_of_le_of_ne (Nat.le_of_dvd F.p1 gd) e
    refine absurd (fun r hr => ?_) (F.per _ g1 gl (Nat.mod_eq_zero_of_dvd gd))
    have z := per_mod (f := fun n => R.contains (n % p)) hg r
    have h1 : r % Nat.gcd p q < p := Nat.lt_trans (Nat.mod_lt _ g1) gl
    have z : R.contains (r % Nat.gcd p q % p) = R.contains (r % p) := z
    rw [Nat.mod_eq_of_lt h1, Nat.mod_eq_of_lt hr] at z
    exact z.symm
theorem FormN.last_le {L R L' R' : List Nat} {s p s' p' : Nat} (F' : FormN L' s' p' R') (s1 : 1 ≤ s) (h : ∀ n, 1 ≤ n → hasN L s p R n = hasN L' s' p' R' n) (tl : ∀ n, R.contains (n % p) = R'.contains (n % p')) : s' ≤ s := by
  refine Nat.le_of_not_lt fun hlt => ?_
  rcases F'.last with e | e
  · omega
  · have z := h (s' - 1) (by omega)
    rw [FormN.tail (by omega), FormN.head (by omega)] at z
    exact e (z.symm.trans (tl _))
theorem FormN.uniq {L R L' R' : List Nat} {s p s' p' : Nat} (F : FormN L s p R) (F' : FormN L' s' p' R') (h : ∀ n, 1 ≤ n → hasN L s p R n = hasN L' s' p' R' n) : L = L' ∧ s = s' ∧ p = p' ∧ R = R' := by
  have tl : ∀ n, R.contains (n % p) = R'.contains (n % p') := fun n => by
    have e1 : R.contains ((n + p * (p' * (s + s'))) % p) = R.contains (n % p) := by rw [Nat.add_mul_mod_self_left]
    have e2 : R'.contains ((n + p * (p' * (s + s'))) % p') = R'.contains (n % p') := by
      rw [show p * (p' * (s + s')) = p' * (p * (s + s')) by rw [← Nat.mul_assoc, Nat.mul_comm p p', Nat.mul_assoc], Nat.add_mul_mod_self_left]
    have big : s + s' ≤ n + p * (p' * (s + s')) := by
      have b1 : s + s' ≤ p' * (s + s') := Nat.le_mul_of_pos_left _ F'.p1
      have b2 : p' * (s + s') ≤ p * (p' * (s + s')) := Nat.le_mul_of_pos_left _ F.p1
      omega
    have z := h (n + p * (p' * (s + s'))) (by have := F.s1; omega)
    rw [FormN.tail (by omega), FormN.tail (by omega)] at z
    rw [← e1, ← e2, z]
  have d1 : p ∣ p' := F.gcd_ge fun n => by rw [tl, tl, Nat.add_mod_right]
  have d2 : p' ∣ p := F'.gcd_ge fun n => by rw [← tl, ← tl, Nat.add_mod_right]
  obtain rfl : p = p' := Nat.dvd_antisymm d1 d2
  obtain rfl : s = s' := Nat.le_antisymm (F.last_le F'.s1 (fun n hn => (h n hn).symm) fun n => (tl n).symm) (F'.last_le F.s1 h tl)
  refine ⟨F.aL.ext F'.aL fun n => ?_, rfl, rfl, F.aR.ext F'.aR fun n => ?_⟩
  · have key : 1 ≤ n → n < s → (n ∈ L ↔ n ∈ L') := fun h1 h2 => by
      have z := h n h1
      rw [FormN.head h2, FormN.head h2] at z
      rw [← con_iff, ← con_iff, z]
    exact ⟨fun z => (key (F.aL.2 n z).1 (F.aL.2 n z).2).mp z, fun z => (key (F'.aL.2 n z).1 (F'.aL.2 n z).2).mpr z⟩
  · have key : n < p → (n ∈ R ↔ n ∈ R') := fun h1 => by
      have z := tl n
      rw [Nat.mod_eq_of_lt h1] at z
      rw [← con_iff, ← con_iff, z]
    exact ⟨fun z => (key (F.aR.2 n z).2).mp z, fun z => (key (F'.aR.2 n z).2).mpr z⟩
theorem FormN.self {L R : List Nat} {s p : Nat} (F : FormN L s p R) : (∀ n ∈ L, 1 ≤ n ∧ n < s) ∧ ∀ r ∈ R, r < p := ⟨F.aL.2, fun r hr => (F.aR.2 r hr).2⟩
theorem natV_perm {ys : List V} {L : List Nat} (h : ys.Perm (natV L)) : ∃ M : List Nat, ys = natV M ∧ M.Perm L := by
  refine ⟨ys.map fun v => (intOf v).toNat, ?_, ?_⟩
  · have all : ∀ y ∈ ys, V.int (((intOf y).toNat : Nat) : Int) = y := fun y hy => by
      obtain ⟨n, _, rfl⟩ := List.mem_map.mp (h.mem_iff.mp hy)
      rfl
    rw [natV, List.map_map]
    exact (List.map_congr_left (g := id) all).trans (List.map_id _) |>.symm
  · have z := h.map fun v => (intOf v).toNat
    rw [natV, List.map_map] at z
    have e : L.map ((fun v => (intOf v).toNat) ∘ fun (n : Nat) => V.int (n : Int)) = L := (List.map_congr_left (g := id) fun n _ => rfl).trans (List.map_id _)
    rw [e] at z
    exact z
/-! ### making a set, in short -/
theorem arg_nat {K : PySem.W.Frag} {H : Hp} {l : Addr} {L : List Nat} (h : SqL K H l (natV L) ∨ SqT K H l (natV L)) (z : L.length ≤ 10000) : Arg K H (.ref l) (some (natV L)) :=
  ⟨l, rfl, h, by rw [List.length_map]; exact z, fun y hy => by
    obtain ⟨n, _, rfl⟩ := List.mem_map.mp hy
    exact .int _⟩
theorem all_nat {L : List Nat} {a b : Int} (h : ∀ n ∈ L, a ≤ (n : Int) ∧ (n : Int) ≤ b) : allV (some (natV L)) a b = true := by
  show ((natV L).all fun y => fromV y a b) = true
  rw [List.all_eq_true]
  intro y hy
  obtain ⟨n, hn, rfl⟩ := List.mem_map.mp hy
  have := h n hn
  show (decide (a ≤ (n : Int)) && decide ((n : Int) ≤ b)) = true
  rw [decide_eq_true this.1, decide_eq_true this.2]
  rfl
theorem natV_inj : ∀ {l m : List Nat}, natV l = natV m → l = m
  | [], [], _ => rfl
  | [], _ :: _, h => nomatch h
  | _ :: _, [], h => nomatch h
  | a :: l, b :: m, h => by
    have h1 : V.int ((a : Nat) : Int) = V.int ((b : Nat) : Int) := (List.cons.inj h).1
    have h2 := natV_inj (List.cons.inj h).2
    have h3 : ((a : Nat) : Int) = ((b : Nat) : Int) := V.int.inj h1
    rw [h2, show a = b by omega]
theorem sh_nats {K : PySem.W.Frag} {H : Hp} : ∀ {L : List Nat}, (∀ n ∈ L, n < 10 ^ 38) → Paired (fun v d => Sh K H v d 0 40) (natV L) (natD L)
  | [], _ => .nil
  | n :: L, h => .cons (sh_int (h n (List.mem_cons_self ..))) (sh_nats fun m hm => h m (List.mem_cons_of_mem _ hm))
theorem sh_natsT {K : PySem.W.Frag} {H : Hp} {a : Addr} {L : List Nat} (h : H a = some (.tup (natV L))) (hb : ∀ n ∈ L, n < 10 ^ 38) (z : L.length ≤ 1000) : Sh K H (.ref a) (.tuple (natD L)) 1 50000 :=
  sh_tup (SqT.of h) (sh_nats hb) (by rw [List.length_map]; omega)
theorem r_num {K : PySem.W.Frag} {aNum aInv : Addr} {H : Hp} {Q : Addr → Hp → Prop} {E : XK} {l q : Addr} {L R : List Nat} {s p : Nat} (hl : SqL K H l (natV L) ∨ SqT K H l (natV L)) (hq : SqL K H q (natV R) ∨ SqT K H q (natV R)) (s1 : 1 ≤ s) (s2 : s ≤ 10000) (p1 : 1 ≤ p) (p2 : p ≤ 10000)
    (hL : ∀ n ∈ L, 1 ≤ n ∧ n < s) (hR : ∀ r ∈ R, r < p) (zL : L.length ≤ 10000) (zR : R.length ≤ 10000)
    (k : ∀ (x : Addr) (L' R' : List Nat) (s' p' : Nat) (H' : Hp), FormN L' s' p' R' → s' ≤ s → p % p' = 0 → p' ≤ p → (∀ n, 1 ≤ n → hasN L' s' p' R' n = hasN L s p R n) → Same H H' → H x = none → NumAt aNum H' x L' s' p' R' → Q x H') :
    ∀ x dx, H x = none → H dx = none → dx ≠ x → spNumI K aNum aInv [.ref x, .ref l, .int (s : Int), .int (p : Int), .ref q] (upd (upd H dx (.own x)) x (.ins aNum dx [])) (fun v H2 => v = .non ∧ Q x H2) E := by
  intro x dx hx hdx hne
  have n2 : upd H dx (.own x) x = none := (upd_ne (Ne.symm hne)).trans hx
  have sm : Same H (upd (upd H dx (.own x)) x (.ins aNum dx [])) := Same.new (Same.new Same.refl hdx) n2
  have good : badN (some (natV L)) (.int (s : Int)) (.int (p : Int)) (some (natV R)) = none := by
    unfold badN
    have g1 : geV (.int (s : Int)) 1 = true := decide_eq_true (by omega)
    have g2 : geV (.int (p : Int)) 1 = true := decide_eq_true (by omega)
    have g3 : allV (some (natV L)) 1 (intOf (.int (s : Int)) - 1) = true := all_nat fun n hn => by
      have := hL n hn
      show 1 ≤ (n : Int) ∧ (n : Int) ≤ (s : Int) - 1
      omega
    have g4 : allV (some (natV R)) 0 (intOf (.int (p : Int)) - 1) = true := all_nat fun n hn => by
      have := hR n hn
      show 0 ≤ (n : Int) ∧ (n : Int) ≤ (p : Int) - 1
      omega
    rw [g1, g2, g3, g4]
    rfl
  refine ⟨x, dx, _, _, _, _, some (natV L), some (natV R), rfl, upd_same, arg_nat (hl.imp (Same.seqL sm) (sameT sm)) zL, .int _, .int _, arg_nat (hq.imp (Same.seqL sm) (sameT sm)) zR, fun i e => by cases e; omega, fun i e => by cases e; omega, fun w hw => ?_, fun _ L1 R1 s1' p1' s' p' a1 a2 H' e1 e2 e3 e4 _ _ _ _ lp ls kx hx' ha1 ha2 => ?_⟩
  · rw [good] at hw
    exact nomatch hw
  · obtain rfl := natV_inj (Option.some.inj e1)
    obtain rfl := natV_inj (Option.some.inj e2)
    obtain rfl : s = s1' := by have := V.int.inj e3; omega
    obtain rfl : p = p1' := by have := V.int.inj e4; omega
    obtain ⟨F, z1, z2, z3⟩ := FormN.of hL hR lp ls
    exact ⟨rfl, k x _ _ _ _ _ F z1 z2 lp.le z3 (Same.kx sm kx hx) hx ⟨dx, a1, a2, hx', ha1, ha2⟩⟩
/-! ### every, multiples -/
def MkN (aNum : Addr) (H : Hp) (Q : VK) (tells : Nat → Bool) (most : Nat) : Prop := ∀ (x : Addr) (L R : List Nat) (s p : Nat) (H' : Hp), FormN L s p R → s ≤ most → p ≤ most → (∀ n, 1 ≤ n → hasN L s p R n = tells n) → Same H H' → H x = none → NumAt aNum H' x L s p R → Q (.ref x) H'
def spEvery (aNum : Addr) : Sp := fun vs H Q _ => vs = [.ref aNum] ∧ MkN aNum H Q (fun _ => true) 1001
def spMult (aNum : Addr) : Sp := fun vs H Q _ => ∃ m : Nat, vs = [.ref aNum, .int (m : Int)] ∧ 1 ≤ m ∧ m ≤ 40 ∧ MkN aNum H Q (fun n => n % m == 0) 41
section
variable {K : PySem.W.Frag} {e2 : Addr}
theorem ok_every (F : CmAt K aNum "every" "Numbers.every" s_Numbers_every) (T : Txt K mg aGround aNum aInv) (M_Numbers : MakeOk P w K mg base (L2.CX P w) 4 "Numbers" aNum ["self", "listed", "since", "period", "rests"] [] (spNumI K aNum aInv)) :
    CmOk P w K mg base CX0 6 aNum "every" "Numbers.every" s_Numbers_every ["cls"] (spEvery aNum) := by
  refine F.ok sc_Numbers_every (fun _ _ _ _ _ _ us hl => match us, hl with | [_], _ => rfl) (fun vs H Q E h => ?_) (fun f cdv A outer s H vs Q E hr h => ?_)
  · obtain ⟨rfl, _⟩ := h
    rfl
  · obtain ⟨rfl, k⟩ := h
    refine ⟨_, (pss_one (ps_ret (pe_makeL (i := 0) (y := "cls") M_Numbers (hr.mono (by decide)) passF rfl (Or.inl rfl) (pa_cons (pe_tup pa_nil) (pa_cons pe_int (pa_cons pe_int (pa_cons (pe_tup (pa_cons pe_int pa_nil)) pa_nil))))))), ?_⟩
    tm_at "go"
    refine ⟨szl rfl, fun p1 hp1 => ?_⟩
    tm_at "go"
    refine ⟨szl rfl, fun p2 hp2 => ?_⟩
    tm_at "go"
    refine r_num (L := []) (R := [0]) (s := 1) (p := 1) (.inr (SqT.of (at_upd (ne_of_none upd_same hp2) upd_same))) (.inr (SqT.of upd_same)) (by decide) (by decide) (by decide) (by decide) (fun n hn => nomatch hn) (fun n hn => by rw [List.mem_singleton.mp hn]; decide) (by decide) (by decide)
      fun x L R s' p' H2 F hs _ hp' hh sm2 hx0 hx => ?_
    have sm := Same.new (o := .tup [.int 0]) (same_new (o := .tup []) hp1) hp2
    refine k x L R s' p' H2 F (by omega) (by omega) (fun n hn => (hh n hn).trans ?_) (sm.trans sm2) (Same.free sm hx0) hx
    rw [FormN.tail hn, Nat.mod_one]
    rfl
theorem ok_mult (F : CmAt K aNum "multiples" "Numbers.multiples" s_Numbers_multiples) (T : Txt K mg aGround aNum aInv) (M_Numbers : MakeOk P w K mg base (L2.CX P w) 4 "Numbers" aNum ["self", "listed", "since", "period", "rests"] [] (spNumI K aNum aInv)) :
    CmOk P w K mg base CX0 6 aNum "multiples" "Numbers.multiples" s_Numbers_multiples ["cls", "number"] (spMult aNum) := by
  refine F.ok sc_Numbers_multiples (fun _ _ _ _ _ _ us hl => match us, hl with | [_, _], _ => rfl) (fun vs H Q E h => ?_) (fun f cdv A outer s H vs Q E hr h => ?_)
  · obtain ⟨m, rfl, _⟩ := h
    rfl
  · obtain ⟨m, rfl, m1, m2, k⟩ := h
    refine ⟨_, (pss_one (ps_ret (pe_makeL (i := 0) (y := "cls") M_Numbers (hr.mono (by decide)) passF rfl (Or.inl rfl) (pa_cons (pe_tup pa_nil) (pa_cons pe_int (pa_cons (pv 1) (pa_cons (pe_tup (pa_cons pe_int pa_nil)) pa_nil))))))), ?_⟩
    tm_at "go"
    refine ⟨szl rfl, fun p1 hp1 => ?_⟩
    tm_at "go"
    refine ⟨szl rfl, fun p2 hp2 => ?_⟩
    tm_at "go"
    refine r_num (L := []) (R := [0]) (s := 1) (p := m) (.inr (SqT.of (at_upd (ne_of_none upd_same hp2) upd_same))) (.inr (SqT.of upd_same)) (by decide) (by decide) m1 (by omega) (fun n hn => nomatch hn) (fun n hn => by rw [List.mem_singleton.mp hn]; omega) (by decide) (by decide)
      fun x L R s' p' H2 F hs _ hp' hh sm2 hx0 hx => ?_
    have sm := Same.new (o := .tup [.int 0]) (same_new (o := .tup []) hp1) hp2
    refine k x L R s' p' H2 F (by omega) (by omega) (fun n hn => (hh n hn).trans ?_) (sm.trans sm2) (Same.free sm hx0) hx
    rw [FormN.tail hn, List.contains_cons]
    simp
end
/-! ### two sets put together -/
def numL (n : Nat) : List Nat := (List.range n).map fun i => 1 + i
theorem numL_len (n : Nat) : (numL n).length = n := by unfold numL; rw [List.length_map, List.length_range]
theorem numL_at {n i m : Nat} (h : (numL n)[i]? = some m) : m = 1 + i ∧ i < n := by
  unfold numL at h
  rw [List.getElem?_map] at h
  cases e : (List.range n)[i]? with
  | none => rw [e] at h; cases h
  | some j =>
    rw [e] at h
    have hi : i < n := by
      have := (List.getElem?_eq_some_iff.mp e).1
      rwa [List.length_range] at this
    have := List.getElem?_range hi
    rw [this] at e
    cases e
    cases h
    exact ⟨rfl, hi⟩
theorem numL_mem {n m : Nat} : m ∈ numL n ↔ 1 ≤ m ∧ m ≤ n := by
  unfold numL
  simp only [List.mem_map, List.mem_range]
  constructor
  · rintro ⟨i, hi, rfl⟩; omega
  · rintro ⟨h1, h2⟩; exact ⟨m - 1, by omega, by omega⟩
theorem rg_nums (n : Nat) : rgV 1 ((n : Nat) : Int) = natV (numL (n - 1)) := by
  unfold rgV numL natV
  rw [List.map_map, show ((n : Int) - 1).toNat = n - 1 by omega]
  refine List.map_congr_left fun i _ => ?_
  show V.int (1 + (i : Int)) = V.int ((1 + i : Nat) : Int)
  rw [Int.natCast_add]; rfl
def tellB (b0 b1 b2 b3 a b : Bool) : Bool := if a then (if b then b3 else b2) else (if b then b1 else b0)
theorem tell_at (b0 b1 b2 b3 a b : Bool) : atI [V.bl b0, V.bl b1, V.bl b2, V.bl b3] (2 * (if a = true then 1 else 0) + (if b = true then 1 else 0)) = some (.bl (tellB b0 b1 b2 b3 a b)) := by
  cases a <;> cases b <;> rfl
/-- the rests, and the listed ones, of what a table tells of the numbers below s + p -/
def putL (f : Nat → Bool) (s p : Nat) : List Nat := ((numL (s + p - 1)).filter f).filter fun n => decide (n < s)
def putR (f : Nat → Bool) (s p : Nat) : List Nat := (((numL (s + p - 1)).filter f).filter fun n => decide (s ≤ n)).map (· % p)
theorem putL_mem {f : Nat → Bool} {s p n : Nat} (p1 : 1 ≤ p) : n ∈ putL f s p ↔ 1 ≤ n ∧ n < s ∧ f n = true := by
  unfold putL
  simp only [List.mem_filter, numL_mem, decide_eq_true_eq]
  constructor
  · rintro ⟨⟨⟨h1, h2⟩, h3⟩, h4⟩; exact ⟨h1, h4, h3⟩
  · rintro ⟨h1, h4, h3⟩; exact ⟨⟨⟨h1, by omega⟩, h3⟩, h4⟩
theorem putR_mem {f : Nat → Bool} {s p r : Nat} (s1 : 1 ≤ s) : r ∈ putR f s p ↔ ∃ n, s ≤ n ∧ n < s + p ∧ f n = true ∧ n % p = r := by
  unfold putR
  simp only [List.mem_map, List.mem_filter, numL_mem, decide_eq_true_eq]
  constructor
  · rintro ⟨n, ⟨⟨⟨h1, h2⟩, h3⟩, h4⟩, h5⟩; exact ⟨n, h4, by omega, h3, h5⟩
  · rintro ⟨n, h4, h2, h3, h5⟩; exact ⟨n, ⟨⟨⟨by omega, by omega⟩, h3⟩, h4⟩, h5⟩
/-- f comes again by p from s on -/
theorem put_has {f : Nat → Bool} {s p : Nat} (s1 : 1 ≤ s) (p1 : 1 ≤ p) (per : ∀ n m, s ≤ n → s ≤ m → n % p = m % p → f n = f m) (n : Nat) (h : 1 ≤ n) : hasN (putL f s p) s p (putR f s p) n = f n := by
  unfold hasN
  by_cases c : n < s
  · rw [if_pos c]
    refine Bool.eq_iff_iff.mpr ?_
    rw [List.contains_iff_mem, putL_mem p1]
    exact ⟨fun z => z.2.2, fun z => ⟨h, c, z⟩⟩
  · rw [if_neg c]
    refine Bool.eq_iff_iff.mpr ?_
    rw [List.contains_iff_mem, putR_mem s1]
    constructor
    · rintro ⟨m, m1, _, fm, e⟩
      rw [per n m (by omega) m1 e.symm]
      exact fm
    · intro fn
      have hp : (n - s) % p < p := Nat.mod_lt _ (by omega)
      refine ⟨s + (n - s) % p, by omega, by omega, ?_, ?_⟩
      · rw [per _ n (by omega) (by omega), fn]
        rw [Nat.add_mod, Nat.mod_mod, ← Nat.add_mod, show s + (n - s) = n by omega]
      · rw [Nat.add_mod, Nat.mod_mod, ← Nat.add_mod, show s + (n - s) = n by omega]
theorem has_per {L R : List Nat} {s p q n m z : Nat} (d : p ∣ q) (hs : s ≤ z) (hn : z ≤ n) (hm : z ≤ m) (e : n % q = m % q) : hasN L s p R n = hasN L s p R m := by
  unfold hasN
  rw [if_neg (by omega), if_neg (by omega)]
  have h1 : n % p = m % p := by
    rw [← Nat.mod_mod_of_dvd n d, ← Nat.mod_mod_of_dvd m d, e]
  rw [h1]
theorem r_listRg2 {ta tb : TE} {σ : St} {H : Hp} {Q : VK} (k : ta σ H fun x H1 => tb σ H1 fun y H2 => ∃ i j, x = .int i ∧ y = .int j ∧ RgOk i j ∧ ∀ q, H2 q = none → Q (.ref q) (upd H2 q (.lst (rgV i j)))) : tLstRg (tRg2 ta tb) σ H Q := k
def spGcd : Sp := fun vs H Q _ => ∃ a b : Nat, vs = [.int (a : Int), .int (b : Int)] ∧ Q (.int ((Nat.gcd a b : Nat) : Int)) H
def lcm2 (p q : Nat) : Nat := p / Nat.gcd p q * q
theorem lcm2_dvd {p q : Nat} (p1 : 1 ≤ p) (q1 : 1 ≤ q) : p ∣ lcm2 p q ∧ q ∣ lcm2 p q ∧ 1 ≤ lcm2 p q ∧ lcm2 p q ≤ p * q := by
  have g1 : 1 ≤ Nat.gcd p q := Nat.gcd_pos_of_pos_left _ (by omega)
  obtain ⟨a, ha⟩ := Nat.gcd_dvd_left p q
  obtain ⟨b, hb⟩ := Nat.gcd_dvd_right p q
  have e : p / Nat.gcd p q = a := Nat.div_eq_of_eq_mul_right (by omega) ha
  unfold lcm2
  rw [e]
  have a1 : 1 ≤ a := by
    rcases Nat.eq_zero_or_pos a with z | z
    · subst z; omega
    · exact z
  refine ⟨⟨b, ?_⟩, Nat.dvd_mul_left .., Nat.mul_pos a1 q1, Nat.mul_le_mul_right _ ?_⟩
  · conv => rhs; rw [ha]
    conv => lhs; rw [hb]
    simp only [Nat.mul_assoc, Nat.mul_comm, Nat.mul_left_comm]
  · have := Nat.le_mul_of_pos_left a g1
    omega
def spMerged : Sp := fun vs H Q _ => ∃ (t1 t2 tt a1 a2 c1 c2 : Addr) (L R L' R' : List Nat) (s p s' p' : Nat) (b0 b1 b2 b3 : Bool), vs = [.ref t1, .ref t2, .ref tt] ∧
  H t1 = some (.tup [.ref a1, .int (s : Int), .int (p : Int), .ref a2]) ∧ H a1 = some (.tup (natV L)) ∧ H a2 = some (.tup (natV R)) ∧
  H t2 = some (.tup [.ref c1, .int (s' : Int), .int (p' : Int), .ref c2]) ∧ H c1 = some (.tup (natV L')) ∧ H c2 = some (.tup (natV R')) ∧ H tt = some (.tup [.bl b0, .bl b1, .bl b2, .bl b3]) ∧
  1 ≤ s ∧ 1 ≤ p ∧ 1 ≤ s' ∧ 1 ≤ p' ∧ s ≤ 1000 ∧ s' ≤ 1000 ∧ p ≤ 1000 ∧ p' ≤ 1000 ∧ p * p' ≤ 9000 ∧
  ∀ (t l r : Addr) (M W : List Nat) (z q : Nat) (H' : Hp), Same H H' → H' t = some (.tup [.ref l, .int (z : Int), .int (q : Int), .ref r]) → H' l = some (.lst (natV M)) → H' r = some (.lst (natV W)) → z = max s s' → 1 ≤ q → q ≤ p * p' →
    (∀ n ∈ M, 1 ≤ n ∧ n < z) → (∀ n ∈ W, n < q) → M.length ≤ 10000 → W.length ≤ 10000 → (∀ n, 1 ≤ n → hasN M z q W n = tellB b0 b1 b2 b3 (hasN L s p R n) (hasN L' s' p' R' n)) → Q (.ref t) H'
section
variable {K : PySem.W.Frag}
theorem ok_gcd (F : DefAt K mg "greatest_common" s_greatest_common) (T : Txt K mg aGround aNum aInv) : DefOk P w K mg base CX0 1 "greatest_common" ["one", "other"] spGcd := by
  refine F.ok sc_greatest_common (fun _ _ _ _ _ _ us hl => match us, hl with | [_, _], _ => rfl) (fun vs H Q E h => ?_) (fun f cdv A outer s H vs Q E hr h => ?_)
  · obtain ⟨a, b, rfl, _⟩ := h
    rfl
  · obtain ⟨a, b, rfl, k⟩ := h
    refine ⟨_, (pss_cons (ps_par (i := 2) (j := 3) (by rfl) sc_greatest_common.nd rfl rfl (by decide) rfl rfl (pa_cons (pv 0) (pa_cons (pv 1) pa_nil)) (by rfl))
  (pss_cons (ps_while PassesOwn.never (pt_cmpR o_gt (pv 3) pe_int (nomark _))
  (pss_one (ps_par (i := 2) (j := 3) (by rfl) sc_greatest_common.nd rfl rfl (by decide) rfl rfl (pa_cons (pv 3) (pa_cons (pe_op o_mod (pe_callTy c_int (by rfl) T.n_int (by decide +kernel) (pa_cons (pv 2) pa_nil)) (pv 3)) pa_nil)) (by rfl))))
  (pss_one (ps_ret (pv 2))))), ?_⟩
    tm_at "go"
    refine ⟨fun m σ' H' => H' = H ∧ ∃ x y : Nat, σ' = [some (.int (a : Int)), some (.int (b : Int)), some (.int (x : Int)), some (.int (y : Int))] ∧ Nat.gcd x y = Nat.gcd a b ∧ m = y, ⟨b, rfl, a, b, rfl, rfl, rfl⟩, ?_⟩
    rintro m σ' H' ⟨hH, x, y, rfl, e, hm⟩
    subst hH hm
    tm_at "go"
    refine r_id (fun h => ?_) (fun h => ?_)
    · refine ⟨fun σ' H1 => ∃ m', m' < m ∧ (H1 = H' ∧ ∃ x y : Nat, σ' = [some (.int (a : Int)), some (.int (b : Int)), some (.int (x : Int)), some (.int (y : Int))] ∧ Nat.gcd x y = Nat.gcd a b ∧ m' = y), fun σ' H' q => q, ?_⟩
      have y0 : 0 < m := by omega
      tm_at "go"
      refine r_mod (by omega) ?_
      tm_at "go"
      refine ⟨x % m, Nat.mod_lt _ y0, rfl, m, x % m, by rw [Int.natCast_emod]; rfl, ?_, rfl⟩
      rw [← e, Nat.gcd_comm x m, Nat.gcd_rec m x, Nat.gcd_comm]
    · tm_at "go"
      have : m = 0 := by omega
      subst this
      rw [Nat.gcd_zero_right] at e
      subst e
      exact k
theorem ok_merged (F : DefAt K mg "merged" s_merged) (T : Txt K mg aGround aNum aInv) (D_greatest_common : DefOk P w K mg base CX0 1 "greatest_common" ["one", "other"] spGcd) (D_is_told : DefOk P w K mg base CX0 1 "is_told" ["form", "number"] (spTold K)) :
    DefOk P w K mg base CX0 2 "merged" ["one", "other", "tells"] spMerged := by
  refine F.ok sc_merged (fun _ _ _ _ _ _ us hl => match us, hl with | [_, _, _], _ => rfl) (fun vs H Q E h => ?_) (fun f cdv A outer s H vs Q E hr h => ?_)
  · obtain ⟨t1, t2, tt, _, _, _, _, _, _, _, _, _, _, _, _, _, _, _, _, rfl, _⟩ := h
    rfl
  · obtain ⟨t1, t2, tt, a1, a2, c1, c2, L, R, L', R', sc, p, sc', p', b0, b1, b2, b3, rfl, h1, ha1, ha2, h2, hc1, hc2, ht, s1, p1, s1', p1', s9, s9', p9, p9', pp, k⟩ := h
    refine ⟨_, (pss_cons (ps_set (i := 3) sc_merged.nd rfl (Or.inr rfl) (pe_callBK (cr_maxKey2 rfl) (by rfl) T.n_max (by decide +kernel) (pa_cons (pe_ix (ix_u K) (pv 0) pe_int (fun _ _ => rfl)) (pa_cons (pe_ix (ix_u K) (pv 1) pe_int (fun _ _ => rfl)) pa_nil)) (pk_cons (pe_bT (T := "int") (by rfl) T.n_int (by decide +kernel)) pk_nil)))
  (pss_cons (ps_set (i := 4) sc_merged.nd rfl (Or.inr rfl) (pe_op o_mul (pe_op o_div (pe_ix (ix_u K) (pv 0) pe_int (fun _ _ => rfl)) (pe_callD D_greatest_common (hr.mono (by decide)) pass0 rfl (pa_cons (pe_ix (ix_u K) (pv 0) pe_int (fun _ _ => rfl)) (pa_cons (pe_ix (ix_u K) (pv 1) pe_int (fun _ _ => rfl)) pa_nil)))) (pe_ix (ix_u K) (pv 1) pe_int (fun _ _ => rfl))))
  (pss_cons (ps_set (i := 5) sc_merged.nd rfl (Or.inl rfl) (pe_listRg rfl (by rfl) T.n_list (prg_2 (by rfl) T.n_range pe_int (pe_op (o_add K) (pv 3) (pv 4)))))
  (pss_cons (ps_setLc (i := 6) rfl sc_merged.nd rfl rfl (sw_true rfl rfl rfl (by decide +kernel)) (own := [("number", 9)]) (g := (gName 9)) (pi_l K (pv 5)) (blkOk_by (own := [("number", 9)]) (N := ["one", "other", "tells", "since", "period", "numbers", "first", "second", "kept", "number", "here", "there"]) (sc := defScope s_merged) (by decide +kernel)) (fun _ _ _ _ _ => (pg_name (i := 9) sc_merged.nd rfl (Or.inl rfl) (Or.inr rfl))) (fun _ _ _ _ _ => pts_nil) (fun _ _ _ _ _ => (pe_callTy c_int (by rfl) T.n_int (by decide +kernel) (pa_cons (pe_callD D_is_told (hr.mono (by decide)) pass0 rfl (pa_cons (pv 0) (pa_cons (pv 9) pa_nil))) pa_nil))))
  (pss_cons (ps_setLc (i := 7) rfl sc_merged.nd rfl rfl (sw_true rfl rfl rfl (by decide +kernel)) (own := [("number", 9)]) (g := (gName 9)) (pi_l K (pv 5)) (blkOk_by (own := [("number", 9)]) (N := ["one", "other", "tells", "since", "period", "numbers", "first", "second", "kept", "number", "here", "there"]) (sc := defScope s_merged) (by decide +kernel)) (fun _ _ _ _ _ => (pg_name (i := 9) sc_merged.nd rfl (Or.inl rfl) (Or.inr rfl))) (fun _ _ _ _ _ => pts_nil) (fun _ _ _ _ _ => (pe_callTy c_int (by rfl) T.n_int (by decide +kernel) (pa_cons (pe_callD D_is_told (hr.mono (by decide)) pass0 rfl (pa_cons (pv 1) (pa_cons (pv 9) pa_nil))) pa_nil))))
  (pss_cons (ps_setLc (i := 8) rfl sc_merged.nd rfl rfl (sw_true rfl rfl rfl (by decide +kernel)) (own := [("number", 9), ("here", 10), ("there", 11)]) (g := (gTup K 3 (gCons (gName 9) (gCons (gName 10) (gCons (gName 11) gNil))))) (pi_zip3 K (by rfl) T.n_zip (pa_cons (pv 5) (pa_cons (pv 6) (pa_cons (pv 7) pa_nil)))) (blkOk_by (own := [("number", 9), ("here", 10), ("there", 11)]) (N := ["one", "other", "tells", "since", "period", "numbers", "first", "second", "kept", "number", "here", "there"]) (sc := defScope s_merged) (by decide +kernel)) (fun _ _ _ _ _ => (pg_t (n := 3) K rfl (pgs_cons (pg_name (i := 9) sc_merged.nd rfl (Or.inl rfl) (Or.inr rfl)) (pgs_cons (pg_name (i := 10) sc_merged.nd rfl (Or.inl rfl) (Or.inr rfl)) (pgs_cons (pg_name (i := 11) sc_merged.nd rfl (Or.inl rfl) (Or.inr rfl)) pgs_nil))))) (fun _ _ _ _ _ => (pts_one (pt_tr K (pe_ix (ix_u K) (pv 2) (pe_op (o_add K) (pe_op o_mul pe_int (pv 10)) (pv 11)) (fun _ _ => rfl))))) (fun _ _ _ _ _ => (pv 9)))
  (pss_one (ps_ret (pe_tup (pa_cons (pe_lc (own := [("number", 9)]) (g := (gName 9)) rfl sc_merged.nd (pi_l K (pv 8)) (blkOk_by (own := [("number", 9)]) (N := ["one", "other", "tells", "since", "period", "numbers", "first", "second", "kept", "number", "here", "there"]) (sc := defScope s_merged) (by decide +kernel)) (fun _ _ _ _ _ => (pg_name (i := 9) sc_merged.nd rfl (Or.inl rfl) (Or.inr rfl))) (fun _ _ _ _ _ => (pts_one (pt_cmpR o_lt (pv 9) (pv 3) (nomark _)))) (fun _ _ _ _ _ => (pv 9))) (pa_cons (pv 3) (pa_cons (pv 4) (pa_cons (pe_lc (own := [("number", 9)]) (g := (gName 9)) rfl sc_merged.nd (pi_l K (pv 8)) (blkOk_by (own := [("number", 9)]) (N := ["one", "other", "tells", "since", "period", "numbers", "first", "second", "kept", "number", "here", "there"]) (sc := defScope s_merged) (by decide +kernel)) (fun _ _ _ _ _ => (pg_name (i := 9) sc_merged.nd rfl (Or.inl rfl) (Or.inr rfl))) (fun _ _ _ _ _ => (pts_one (pt_cmpR o_ge (pv 9) (pv 3) (nomark _)))) (fun _ _ _ _ _ => (pe_op o_mod (pv 9) (pv 4)))) pa_nil))))))))))))), ?_⟩
    tm_at "go"
    refine r_maxK2 ?_
    rw [show (if (sc' : Int) > (sc : Int) then (sc' : Int) else (sc : Int)) = ((max sc sc' : Nat) : Int) from by split <;> omega]
    obtain ⟨z, hz⟩ : ∃ z, z = max sc sc' := ⟨_, rfl⟩
    rw [← hz]
    have z1 : 1 ≤ z := by omega
    have z2 : z ≤ 1000 := by omega
    tm_at "go"
    refine ⟨p, p', rfl, ?_⟩
    obtain ⟨dv1, dv2, q1, q2⟩ := lcm2_dvd p1 p1'
    have g1 : 1 ≤ Nat.gcd p p' := Nat.gcd_pos_of_pos_left _ (by omega)
    have g2 : Nat.gcd p p' ≤ p := Nat.gcd_le_left _ (by omega)
    refine r_div (by omega) (by omega) ?_
    tm_at "go"
    refine r_mul (cmulR ⟨by omega, by omega⟩) ?_
    rw [show ((p : Int) / ((Nat.gcd p p' : Nat) : Int)) * (p' : Int) = ((lcm2 p p' : Nat) : Int) from by unfold lcm2; rw [Int.natCast_mul, Int.natCast_ediv]]
    generalize lcm2 p p' = q at dv1 dv2 q1 q2 ⊢
    clear g1 g2
    tm_at "go"
    refine r_listRg2 ?_
    tm_at "go"
    refine ⟨1, _, rfl, rfl, RgOk.of_le (by omega) (by omega) (by omega) (by omega), fun nl hn0 => ?_⟩
    rw [show (z : Int) + (q : Int) = ((z + q : Nat) : Int) from by rw [Int.natCast_add], rg_nums]
    have sn := same_new hn0 (o := .lst (natV (numL (z + q - 1))))
    have hnl : upd H nl (.lst (natV (numL (z + q - 1)))) nl = some (.lst (natV (numL (z + q - 1)))) := upd_same
    generalize upd H nl (.lst (natV (numL (z + q - 1)))) = G at sn hnl ⊢
    clear hn0
    have h1 := sn _ _ h1
    have ha1 := sn _ _ ha1
    have ha2 := sn _ _ ha2
    have h2 := sn _ _ h2
    have hc1 := sn _ _ hc1
    have hc2 := sn _ _ hc2
    have ht := sn _ _ ht
    tm_at "go"
    have nll : (numL (z + q - 1)).length = z + q - 1 := numL_len _
    generalize hNL : numL (z + q - 1) = NL at hnl nll ⊢
    refine ⟨nl, rfl, ⟨_, SqL.of hnl⟩, fun D hD => ?_⟩
    refine lc_it (walk_list (xs := natV NL)) (fun i H' => Same G H' ∧ H' D = some (.lst ((NL.take i).map fun n => V.int (if hasN L sc p R n = true then 1 else 0)))) ⟨same_new hD, upd_same⟩ (fun i H' _ q => SqL.of (q.1 _ _ hnl)) ?_ ?_
    · rintro i y H1 H2 hi ⟨sm, hl⟩ ⟨rfl, hy⟩
      obtain ⟨n, hn, rfl⟩ := natV_at hy
      tm_at "go"
      refine ⟨rfl, ?_⟩
      tm_at "go"
      refine ⟨t1, a1, a2, L, R, sc, p, n, rfl, sm _ _ h1, .inr (SqT.of (sm _ _ ha1)), .inr (SqT.of (sm _ _ ha2)), p1, ?_⟩
      tm_at "go"
      refine ⟨_, hl, ?_, Same.updF sm hD, ?_⟩
      · rw [List.length_map]
        exact szlt (Nat.ble_eq_true_of_le (Nat.le_trans (List.length_take_le' ..) (by omega)))
      · rw [upd_same, take_succ hn, List.map_append]
        rfl
    rintro G1 ⟨sm1, hf⟩
    rw [show (natV NL).length = NL.length from List.length_map .., List.take_length] at hf
    replace hnl := sm1 _ _ hnl
    replace h2 := sm1 _ _ h2
    replace hc1 := sm1 _ _ hc1
    replace hc2 := sm1 _ _ hc2
    replace ht := sm1 _ _ ht
    have smA := sn.trans sm1
    clear sm1 sn hD
    clear h1 ha1 ha2
    tm_at "go"
    refine ⟨nl, rfl, ⟨_, SqL.of hnl⟩, fun D2 hD => ?_⟩
    refine lc_it (walk_list (xs := natV NL)) (fun i H' => Same G1 H' ∧ H' D2 = some (.lst ((NL.take i).map fun n => V.int (if hasN L' sc' p' R' n = true then 1 else 0)))) ⟨same_new hD, upd_same⟩ (fun i H' _ q => SqL.of (q.1 _ _ hnl)) ?_ ?_
    · rintro i y H1 H2 hi ⟨sm, hl⟩ ⟨rfl, hy⟩
      obtain ⟨n, hn, rfl⟩ := natV_at hy
      tm_at "go"
      refine ⟨rfl, ?_⟩
      tm_at "go"
      refine ⟨t2, c1, c2, L', R', sc', p', n, rfl, sm _ _ h2, .inr (SqT.of (sm _ _ hc1)), .inr (SqT.of (sm _ _ hc2)), p1', ?_⟩
      tm_at "go"
      refine ⟨_, hl, ?_, Same.updF sm hD, ?_⟩
      · rw [List.length_map]
        exact szlt (Nat.ble_eq_true_of_le (Nat.le_trans (List.length_take_le' ..) (by omega)))
      · rw [upd_same, take_succ hn, List.map_append]
        rfl
    rintro G2 ⟨sm2, hg⟩
    rw [show (natV NL).length = NL.length from List.length_map .., List.take_length] at hg
    replace hnl := sm2 _ _ hnl
    replace hf := sm2 _ _ hf
    replace ht := sm2 _ _ ht
    replace smA := smA.trans sm2
    clear sm2 hD h2 hc1 hc2
    tm_at "go"
    refine r_zip3 ?_
    tm_at "go"
    refine ⟨nl, D, D2, natV NL, NL.map fun n => V.int (if hasN L sc p R n = true then 1 else 0), NL.map fun n => V.int (if hasN L' sc' p' R' n = true then 1 else 0), rfl, SqL.of hnl, SqL.of hf, SqL.of hg, fun D3 hD => ?_⟩
    obtain ⟨f0, hf0⟩ : ∃ f0 : Nat → Bool, f0 = fun n => tellB b0 b1 b2 b3 (hasN L sc p R n) (hasN L' sc' p' R' n) := ⟨_, rfl⟩
    refine lc_it (walk_zip3 (xs := natV NL) (ys := NL.map fun n => V.int (if hasN L sc p R n = true then 1 else 0)) (zs := NL.map fun n => V.int (if hasN L' sc' p' R' n = true then 1 else 0)) (by rw [List.length_map, List.length_map]) (by rw [List.length_map, List.length_map]))
      (fun i H' => Same G2 H' ∧ H' D3 = some (.lst (natV ((NL.take i).filter f0)))) ⟨same_new hD, upd_same⟩ (fun i H' _ q => ⟨SqL.of (q.1 _ _ hnl), SqL.of (q.1 _ _ hf), SqL.of (q.1 _ _ hg)⟩) ?_ ?_
    · rintro i y H1 H2 hi ⟨sm, hl⟩ ⟨tq, x1, x2, x3, rfl, htq, rfl, e1, e2, e3⟩
      obtain ⟨n, hn, rfl⟩ := natV_at e1
      rw [List.getElem?_map, hn] at e2 e3
      cases e2
      cases e3
      refine r_gT (SqT.of upd_same) rfl ?_
      have s1 := same_new htq (o := .tup [.int (n : Int), .int (if hasN L sc p R n = true then 1 else 0), .int (if hasN L' sc' p' R' n = true then 1 else 0)])
      generalize upd H1 tq (.tup [.int (n : Int), .int (if hasN L sc p R n = true then 1 else 0), .int (if hasN L' sc' p' R' n = true then 1 else 0)]) = H2 at s1 ⊢
      have sm3 := sm.trans s1
      replace hl := s1 _ _ hl
      have ht2 := sm3 _ _ ht
      clear s1 sm
      tm_at "go"
      refine ⟨rfl, ?_⟩
      tm_at "go"
      refine r_ixT (SqT.of ht2) (tell_at _ _ _ _ _ _) ?_
      tm_at "go"
      have ef : tellB b0 b1 b2 b3 (hasN L sc p R n) (hasN L' sc' p' R' n) = f0 n := by rw [hf0]
      rw [ef]
      refine r_ite (fun c => ?_) (fun c => ?_)
      · tm_at "go"
        refine ⟨_, hl, ?_, Same.updF sm3 hD, ?_⟩
        · rw [List.length_map]
          exact szlt (Nat.ble_eq_true_of_le (Nat.le_trans (List.length_filter_le ..) (Nat.le_trans (List.length_take_le' ..) (by omega))))
        · rw [upd_same, take_succ hn, List.filter_append, List.filter_cons_of_pos c, natV_app]
          rfl
      · refine ⟨sm3, ?_⟩
        rw [take_succ hn, List.filter_append, List.filter_cons_of_neg (by rw [c]; exact Bool.false_ne_true), List.filter_nil, List.append_nil]
        exact hl
    rintro G3 ⟨sm3, hk⟩
    rw [show (natV NL).length = NL.length from List.length_map .., List.take_length] at hk
    replace smA := smA.trans sm3
    clear sm3 hD hnl hf hg ht
    have kl : (NL.filter f0).length ≤ z + q - 1 := Nat.le_trans (List.length_filter_le ..) (by omega)
    tm_at "go"
    generalize hKL : NL.filter f0 = KL at hk kl ⊢
    have kn : ∀ n ∈ KL, 1 ≤ n ∧ n < z + q := fun n hn => by
      rw [← hKL, ← hNL] at hn
      have := numL_mem.mp (List.mem_filter.mp hn).1
      omega
    refine ⟨D3, rfl, ⟨_, SqL.of hk⟩, fun D4 hD => ?_⟩
    refine lc_it (walk_list (xs := natV KL)) (fun i H' => Same G3 H' ∧ H' D4 = some (.lst (natV ((KL.take i).filter fun n => decide (n < z))))) ⟨same_new hD, upd_same⟩ (fun i H' _ q => SqL.of (q.1 _ _ hk)) ?_ ?_
    · rintro i y H1 H2 hi ⟨sm, hl⟩ ⟨rfl, hy⟩
      obtain ⟨n, hn, rfl⟩ := natV_at hy
      tm_at "go"
      refine ⟨rfl, ?_⟩
      tm_at "go"
      refine r_id (fun c => ?_) (fun c => ?_)
      · tm_at "go"
        refine ⟨_, hl, ?_, Same.updF sm hD, ?_⟩
        · rw [List.length_map]
          exact szlt (Nat.ble_eq_true_of_le (Nat.le_trans (List.length_filter_le ..) (Nat.le_trans (List.length_take_le' ..) (by omega))))
        · rw [upd_same, take_succ hn, List.filter_append, List.filter_cons_of_pos (p := fun n => decide (n < z)) (decide_eq_true (by omega)), natV_app]
          rfl
      · refine ⟨sm, ?_⟩
        rw [take_succ hn, List.filter_append, List.filter_cons_of_neg (p := fun n => decide (n < z)) (by rw [decide_eq_false (by omega)]; exact Bool.false_ne_true), List.filter_nil, List.append_nil]
        exact hl
    rintro G4 ⟨sm4, hM⟩
    rw [show (natV KL).length = KL.length from List.length_map .., List.take_length] at hM
    replace hk := sm4 _ _ hk
    replace smA := smA.trans sm4
    clear sm4 hD
    tm_at "go"
    refine ⟨D3, rfl, ⟨_, SqL.of hk⟩, fun D5 hD => ?_⟩
    refine lc_it (walk_list (xs := natV KL)) (fun i H' => Same G4 H' ∧ H' D5 = some (.lst (natV (((KL.take i).filter fun n => decide (z ≤ n)).map (· % q))))) ⟨same_new hD, upd_same⟩ (fun i H' _ q => SqL.of (q.1 _ _ hk)) ?_ ?_
    · rintro i y H1 H2 hi ⟨sm, hl⟩ ⟨rfl, hy⟩
      obtain ⟨n, hn, rfl⟩ := natV_at hy
      tm_at "go"
      refine ⟨rfl, ?_⟩
      tm_at "go"
      refine r_id (fun c => ?_) (fun c => ?_)
      · tm_at "go"
        refine r_mod (by omega) ?_
        rw [show (n : Int) % (q : Int) = ((n % q : Nat) : Int) from (Int.natCast_emod ..).symm]
        refine ⟨_, hl, ?_, Same.updF sm hD, ?_⟩
        · rw [List.length_map, List.length_map]
          exact szlt (Nat.ble_eq_true_of_le (Nat.le_trans (List.length_filter_le ..) (Nat.le_trans (List.length_take_le' ..) (by omega))))
        · rw [upd_same, take_succ hn, List.filter_append, List.filter_cons_of_pos (p := fun n => decide (z ≤ n)) (decide_eq_true (by omega)), List.map_append, natV_app]
          rfl
      · refine ⟨sm, ?_⟩
        rw [take_succ hn, List.filter_append, List.filter_cons_of_neg (p := fun n => decide (z ≤ n)) (by rw [decide_eq_false (by omega)]; exact Bool.false_ne_true), List.filter_nil, List.append_nil]
        exact hl
    rintro G5 ⟨sm5, hW⟩
    rw [show (natV KL).length = KL.length from List.length_map .., List.take_length] at hW
    replace hM := sm5 _ _ hM
    replace smA := smA.trans sm5
    clear sm5 hD hk
    tm_at "go"
    refine ⟨szl rfl, fun t ht => ?_⟩
    have eL : (KL.filter fun n => decide (n < z)) = putL f0 z q := by unfold putL; rw [hNL, hKL]
    have eR : ((KL.filter fun n => decide (z ≤ n)).map (· % q)) = putR f0 z q := by unfold putR; rw [hNL, hKL]
    have per : ∀ n m, z ≤ n → z ≤ m → n % q = m % q → f0 n = f0 m := fun n m h1 h2 e => by
      rw [hf0]
      show tellB _ _ _ _ _ _ = tellB _ _ _ _ _ _
      rw [has_per dv1 (by omega) h1 h2 e, has_per dv2 (by omega) h1 h2 e]
    refine k t D4 D5 _ _ z q _ (smA.trans (same_new ht)) upd_same (at_upd (ne_of_none hM ht) hM) (at_upd (ne_of_none hW ht) hW) hz q1 (by omega) ?_ ?_ ?_ ?_ ?_
    · intro n hn
      rw [eL] at hn
      have := (putL_mem q1).mp hn
      omega
    · intro n hn
      rw [eR] at hn
      obtain ⟨m, _, _, _, e⟩ := (putR_mem z1).mp hn
      rw [← e]
      exact Nat.mod_lt _ (by omega)
    · exact Nat.le_trans (List.length_filter_le ..) (by omega)
    · rw [List.length_map]
      exact Nat.le_trans (List.length_filter_le ..) (by omega)
    · intro n hn
      rw [eL, eR, put_has z1 q1 per n hn, hf0]
end
theorem empty_iff {L R : List Nat} {s p : Nat} (F : FormN L s p R) : decide (0 < L.length + R.length) = false ↔ ∀ n, 1 ≤ n → hasN L s p R n = false := by
  rw [decide_eq_false_iff_not]
  constructor
  · intro h n hn
    have e1 : L = [] := List.eq_nil_of_length_eq_zero (by omega)
    have e2 : R = [] := List.eq_nil_of_length_eq_zero (by omega)
    subst e1; subst e2
    unfold hasN
    split <;> rfl
  · intro h h0
    match L, R, F, h, h0 with
    | n :: L, R, F, h, _ =>
      have c := F.aL.2 n (List.mem_cons_self ..)
      have := h n c.1
      rw [FormN.head c.2, con_iff.mpr (List.mem_cons_self ..)] at this
      cases this
    | [], r :: R, F, h, _ =>
      have c := F.aR.2 r (List.mem_cons_self ..)
      have s1 := F.s1
      have hle : s ≤ p * s := Nat.le_mul_of_pos_left _ F.p1
      have := h (r + p * s) (by omega)
      rw [FormN.tail (by omega), Nat.add_mul_mod_self_left, Nat.mod_eq_of_lt c.2, con_iff.mpr (List.mem_cons_self ..)] at this
      cases this
    | [], [], _, _, h0 => exact absurd h0 (Nat.lt_irrefl _)
/-- x op y tells f of what both tell -/
def spPut (aNum : Addr) (f : Bool → Bool → Bool) : Sp := fun vs H Q _ => ∃ (x y : Addr) (L R L' R' : List Nat) (s p s' p' : Nat), vs = [.ref x, .ref y] ∧ NumAt aNum H x L s p R ∧ NumAt aNum H y L' s' p' R' ∧ 1 ≤ s ∧ 1 ≤ p ∧ 1 ≤ s' ∧ 1 ≤ p' ∧ s ≤ 1000 ∧ s' ≤ 1000 ∧ p ≤ 1000 ∧ p' ≤ 1000 ∧ p * p' ≤ 9000 ∧
  ∀ (x : Addr) (M W : List Nat) (z q : Nat) (H' : Hp), FormN M z q W → z ≤ max s s' → q ≤ p * p' → (∀ n, 1 ≤ n → hasN M z q W n = f (hasN L s p R n) (hasN L' s' p' R' n)) → Same H H' → H x = none → NumAt aNum H' x M z q W → Q (.ref x) H'
def spInv (aNum : Addr) : Sp := fun vs H Q _ => ∃ (x : Addr) (L R : List Nat) (s p : Nat), vs = [.ref x] ∧ NumAt aNum H x L s p R ∧ 1 ≤ s ∧ 1 ≤ p ∧ s ≤ 1000 ∧ p ≤ 90 ∧
  ∀ (x : Addr) (M W : List Nat) (z q : Nat) (H' : Hp), FormN M z q W → z ≤ s → q ≤ p * p → (∀ n, 1 ≤ n → hasN M z q W n = !hasN L s p R n) → Same H H' → H x = none → NumAt aNum H' x M z q W → Q (.ref x) H'
/-- x is within y (or the other way about) -/
def spSub (aNum : Addr) (r : (Nat → Bool) → (Nat → Bool) → Prop) : Sp := fun vs H Q _ => ∃ (x y : Addr) (L R L' R' : List Nat) (s p s' p' : Nat), vs = [.ref x, .ref y] ∧ NumAt aNum H x L s p R ∧ NumAt aNum H y L' s' p' R' ∧ FormN L s p R ∧ FormN L' s' p' R' ∧ s ≤ 1000 ∧ s' ≤ 1000 ∧ p ≤ 1000 ∧ p' ≤ 1000 ∧ p * p' ≤ 9000 ∧
  ∀ (b : Bool) (H' : Hp), (b = true ↔ r (hasN L s p R) (hasN L' s' p' R')) → Same H H' → Q (.bl b) H'
def within (f g : Nat → Bool) : Prop := ∀ n, 1 ≤ n → f n = true → g n = true
section
variable {K : PySem.W.Frag}
theorem ok_sub (F : MetAt K aNum "__sub__" "Numbers.__sub__" s_Numbers__sub) (T : Txt K mg aGround aNum aInv) (D_merged : DefOk P w K mg base CX0 2 "merged" ["one", "other", "tells"] spMerged) (M_Numbers : MakeOk P w K mg base (L2.CX P w) 4 "Numbers" aNum ["self", "listed", "since", "period", "rests"] [] (spNumI K aNum aInv)) : MetOk P w K mg base CX0 6 aNum "__sub__" ["self", "other"] (spPut aNum fun a b => a && !b) := by
  refine F.ok sc_Numbers__sub (fun _ _ _ _ _ _ us hl => match us, hl with | [_, _], _ => rfl) (fun vs H Q E h => ?_) (fun f cdv A outer s H vs Q E hr h => ?_)
  · obtain ⟨x, y, _, _, _, _, _, _, _, _, rfl, _⟩ := h
    rfl
  · obtain ⟨x, y, L, R, L', R', s0, p, s0', p', rfl, ⟨dx, a1, a2, hx, ha1, ha2⟩, ⟨dy, c1, c2, hy, hc1, hc2⟩, s1, p1, s1', p1', s9, s9', p9, p9', pp, k⟩ := h
    refine ⟨_, (pss_cons (ps_set (i := 2) sc_Numbers__sub.nd rfl (Or.inl rfl) (pe_tup (pa_cons (pe_fl K (pv 0)) (pa_cons (pe_fl K (pv 0)) (pa_cons (pe_fl K (pv 0)) (pa_cons (pe_fl K (pv 0)) pa_nil))))))
  (pss_cons (ps_set (i := 3) sc_Numbers__sub.nd rfl (Or.inl rfl) (pe_tup (pa_cons (pe_fl K (pv 1)) (pa_cons (pe_fl K (pv 1)) (pa_cons (pe_fl K (pv 1)) (pa_cons (pe_fl K (pv 1)) pa_nil))))))
  (pss_cons (ps_asg (pe_callD D_merged (hr.mono (by decide)) pass0 rfl (pa_cons (pv 2) (pa_cons (pv 3) (pa_cons (pe_tup (pa_cons pe_bl (pa_cons pe_bl (pa_cons pe_bl (pa_cons pe_bl pa_nil))))) pa_nil)))) (pg_t (n := 4) K rfl (pgs_cons (pg_name (i := 4) sc_Numbers__sub.nd rfl (Or.inl rfl)) (pgs_cons (pg_name (i := 5) sc_Numbers__sub.nd rfl (Or.inl rfl)) (pgs_cons (pg_name (i := 6) sc_Numbers__sub.nd rfl (Or.inl rfl)) (pgs_cons (pg_name (i := 7) sc_Numbers__sub.nd rfl (Or.inl rfl)) pgs_nil))))))
  (pss_one (ps_ret (pe_makeD M_Numbers (hr.mono (by decide)) passF rfl (pa_cons (pv 4) (pa_cons (pv 5) (pa_cons (pv 6) (pa_cons (pv 7) pa_nil)))))))))), ?_⟩
    tm_at "go"
    refine r_get hx T.clN T.nL rfl ?_
    tm_at "go"
    refine r_get hx T.clN T.nS rfl ?_
    tm_at "go"
    refine r_get hx T.clN T.nP rfl ?_
    tm_at "go"
    refine r_get hx T.clN T.nR rfl ?_
    tm_at "go"
    refine ⟨szl rfl, fun t1 ht0 => ?_⟩
    have sn := same_new ht0 (o := .tup [.ref a1, .int (s0 : Int), .int (p : Int), .ref a2])
    have ht1 : upd H t1 (.tup [.ref a1, .int (s0 : Int), .int (p : Int), .ref a2]) t1 = some (.tup [.ref a1, .int (s0 : Int), .int (p : Int), .ref a2]) := upd_same
    generalize upd H t1 (.tup [.ref a1, .int (s0 : Int), .int (p : Int), .ref a2]) = G1 at sn ht1 ⊢
    replace hy := sn _ _ hy
    replace ha1 := sn _ _ ha1
    replace ha2 := sn _ _ ha2
    replace hc1 := sn _ _ hc1
    replace hc2 := sn _ _ hc2
    have smA := sn
    clear sn
    tm_at "go"
    refine r_get hy T.clN T.nL rfl ?_
    tm_at "go"
    refine r_get hy T.clN T.nS rfl ?_
    tm_at "go"
    refine r_get hy T.clN T.nP rfl ?_
    tm_at "go"
    refine r_get hy T.clN T.nR rfl ?_
    tm_at "go"
    refine ⟨szl rfl, fun t2 ht0 => ?_⟩
    have sn := same_new ht0 (o := .tup [.ref c1, .int (s0' : Int), .int (p' : Int), .ref c2])
    have ht2 : upd G1 t2 (.tup [.ref c1, .int (s0' : Int), .int (p' : Int), .ref c2]) t2 = some (.tup [.ref c1, .int (s0' : Int), .int (p' : Int), .ref c2]) := upd_same
    generalize upd G1 t2 (.tup [.ref c1, .int (s0' : Int), .int (p' : Int), .ref c2]) = G2 at sn ht2 ⊢
    replace ht1 := sn _ _ ht1
    replace ha1 := sn _ _ ha1
    replace ha2 := sn _ _ ha2
    replace hc1 := sn _ _ hc1
    replace hc2 := sn _ _ hc2
    replace smA := smA.trans sn
    clear sn
    tm_at "go"
    refine ⟨szl rfl, fun tt ht0 => ?_⟩
    have sn := same_new ht0 (o := .tup [.bl false, .bl false, .bl true, .bl false])
    have htt : upd G2 tt (.tup [.bl false, .bl false, .bl true, .bl false]) tt = some (.tup [.bl false, .bl false, .bl true, .bl false]) := upd_same
    generalize upd G2 tt (.tup [.bl false, .bl false, .bl true, .bl false]) = G3 at sn htt ⊢
    replace ht1 := sn _ _ ht1
    replace ht2 := sn _ _ ht2
    replace ha1 := sn _ _ ha1
    replace ha2 := sn _ _ ha2
    replace hc1 := sn _ _ hc1
    replace hc2 := sn _ _ hc2
    replace smA := smA.trans sn
    clear sn
    refine ⟨t1, t2, tt, a1, a2, c1, c2, L, R, L', R', s0, p, s0', p', _, _, _, _, rfl, ht1, ha1, ha2, ht2, hc1, hc2, htt, s1, p1, s1', p1', s9, s9', p9, p9', pp, fun t l r M W z q H' sm ht hl hr' hz q1 q2 hM hW lM lW hh => ?_⟩
    tm_at "go"
    refine r_gT (SqT.of ht) rfl ?_
    tm_at "go"
    refine r_num (L := M) (R := W) (.inl (SqL.of hl)) (.inl (SqL.of hr')) (by omega) (by omega) q1 (by omega) hM hW lM lW fun x' M' W' z' q' H5 FF z9 _ q9 hh' s5 hn hX => ?_
    tm_at "go"
    refine k x' M' W' z' q' H5 FF (by omega) (by omega) (fun n hn => ?_) ((smA.trans sm).trans s5) (Same.free (smA.trans sm) hn) hX
    rw [hh' n hn, hh n hn]
    cases hasN L s0 p R n <;> cases hasN L' s0' p' R' n <;> rfl
end
def spBoolN (aNum : Addr) : Sp := fun vs H Q _ => ∃ (x : Addr) (L R : List Nat) (s p : Nat), vs = [.ref x] ∧ NumAt aNum H x L s p R ∧ Q (.bl (decide (0 < L.length + R.length))) H
section
variable {K : PySem.W.Frag}
theorem ok_boolN (F : MetAt K aNum "__bool__" "Numbers.__bool__" s_Numbers__bool) (T : Txt K mg aGround aNum aInv) : MetOk P w K mg base CX0 1 aNum "__bool__" ["self"] (spBoolN aNum) := by
  refine F.ok sc_Numbers__bool (fun _ _ _ _ _ _ us hl => match us, hl with | [_], _ => rfl) (fun vs H Q E h => ?_) (fun f cdv A outer s H vs Q E hr h => ?_)
  · obtain ⟨x, L, R, s, p, rfl, _⟩ := h
    rfl
  · obtain ⟨x, L, R, sc, p, rfl, ⟨dx, a1, a2, hx, ha1, ha2⟩, k⟩ := h
    refine ⟨_, (pss_one (ps_ret (pe_cmpR o_gt (pe_op (o_add K) (pe_callB (c_len K) (by rfl) T.n_len (by decide +kernel) (pa_cons (pe_fl K (pv 0)) pa_nil)) (pe_callB (c_len K) (by rfl) T.n_len (by decide +kernel) (pa_cons (pe_fl K (pv 0)) pa_nil))) pe_int (nomark _)))), ?_⟩
    tm_at "go"
    refine r_get hx T.clN T.nL rfl ?_
    tm_at "go"
    refine r_get hx T.clN T.nR rfl ?_
    tm_at "go"
    rw [List.length_map, List.length_map, show decide ((0 : Int) < ((L.length : Nat) : Int) + ((R.length : Nat) : Int)) = decide (0 < L.length + R.length) from decide_eq_decide.mpr (by omega)]
    exact k
end
theorem within_iff {L R L' R' M W : List Nat} {s p s' p' z q : Nat} (F : FormN M z q W) (h : ∀ n, 1 ≤ n → hasN M z q W n = (hasN L s p R n && !hasN L' s' p' R' n)) :
    (!decide (0 < M.length + W.length)) = true ↔ within (hasN L s p R) (hasN L' s' p' R') := by
  rw [Bool.not_eq_true', empty_iff F]
  constructor
  · intro k n hn f1
    have := k n hn
    rw [h n hn, f1] at this
    cases g : hasN L' s' p' R' n
    · rw [g] at this; cases this
    · rfl
  · intro k n hn
    rw [h n hn]
    cases f1 : hasN L s p R n
    · rfl
    · rw [k n hn f1]; rfl
theorem same_iff {L R L' R' : List Nat} {s p s' p' : Nat} (F : FormN L s p R) (F' : FormN L' s' p' R') : (L = L' ∧ s = s' ∧ p = p' ∧ R = R') ↔ within (hasN L s p R) (hasN L' s' p' R') ∧ within (hasN L' s' p' R') (hasN L s p R) := by
  constructor
  · rintro ⟨rfl, rfl, rfl, rfl⟩
    exact ⟨fun _ _ h => h, fun _ _ h => h⟩
  · rintro ⟨a, b⟩
    exact F.uniq F' fun n hn => Bool.eq_iff_iff.mpr ⟨a n hn, b n hn⟩
section
variable {K : PySem.W.Frag}
theorem ok_le (F : MetAt K aNum "__le__" "Numbers.__le__" s_Numbers__le) (T : Txt K mg aGround aNum aInv) (M_Numbers__sub : MetOk P w K mg base CX0 6 aNum "__sub__" ["self", "other"] (spPut aNum fun a b => a && !b)) (M_Numbers__bool : MetOk P w K mg base CX0 1 aNum "__bool__" ["self"] (spBoolN aNum)) : MetOk P w K mg base CX0 7 aNum "__le__" ["self", "other"] (spSub aNum fun f g => within f g) := by
  refine F.ok sc_Numbers__le (fun _ _ _ _ _ _ us hl => match us, hl with | [_, _], _ => rfl) (fun vs H Q E h => ?_) (fun f cdv A outer s H vs Q E hr h => ?_)
  · obtain ⟨x, y, _, _, _, _, _, _, _, _, rfl, _⟩ := h
    rfl
  · obtain ⟨x, y, L, R, L', R', s0, p, s0', p', rfl, hX, hY, F1, F2, s9, s9', p9, p9', pp, k⟩ := h
    refine ⟨_, (pss_one (ps_ret (pe_notO M_Numbers__bool (hr.mono (by decide)) pass0 (pe_op (o_own M_Numbers__sub T.sf (hr.mono (by decide)) pass0) (pv 0) (pv 1))))), ?_⟩
    obtain ⟨dx, a1, a2, hx, _⟩ := id hX
    obtain ⟨dy, c1, c2, hy, _⟩ := id hY
    tm_at "go"
    refine r_notO ?_
    tm_at "go"
    refine r_ownB hx hy ⟨x, y, L, R, L', R', s0, p, s0', p', rfl, hX, hY, F1.s1, F1.p1, F2.s1, F2.p1, s9, s9', p9, p9', pp, fun x' M W z q H' FF z9 q9 hh sm hn hZ => ?_⟩
    obtain ⟨dz, e1, e2, hz, _⟩ := id hZ
    refine r_truO hz ⟨x', M, W, z, q, rfl, hZ, _, rfl, ?_⟩
    exact k _ H' (within_iff FF hh) sm
end
/-! ### what divides an element -/
def DivOf (f : Nat → Bool) (n : Nat) : Prop := ∃ m, 1 ≤ m ∧ f m = true ∧ n ∣ m
theorem reach {n p r : Nat} (n1 : 1 ≤ n) (h : Nat.gcd n p ∣ r) : ∃ t, (r + t * p) % n = 0 := by
  classical
  have e : ∀ k, decide (∃ t, (k + Nat.gcd n p + t * p) % n = 0) = decide (∃ t, (k + t * p) % n = 0) := by
    refine period_gcd (fun k => decide (∃ t, (k + t * p) % n = 0)) n p (fun k => decide_eq_decide.mpr ?_) (fun k => decide_eq_decide.mpr ?_)
    · have e : ∀ t, (k + n + t * p) % n = (k + t * p) % n := fun t => by rw [Nat.add_right_comm, Nat.add_mod_right]
      exact ⟨fun ⟨t, h⟩ => ⟨t, by rw [← e]; exact h⟩, fun ⟨t, h⟩ => ⟨t, by rw [e]; exact h⟩⟩
    · constructor
      · rintro ⟨t, h⟩
        refine ⟨t + 1, ?_⟩
        rw [Nat.succ_mul, Nat.add_comm (t * p), ← Nat.add_assoc]
        exact h
      · rintro ⟨t, h⟩
        obtain ⟨m, rfl⟩ : ∃ m, n = m + 1 := ⟨n - 1, by omega⟩
        refine ⟨t + m, ?_⟩
        have : k + p + (t + m) * p = k + t * p + (m + 1) * p := by
          rw [Nat.add_mul, Nat.add_mul, Nat.one_mul]; omega
        rw [this, Nat.add_mul_mod_self_left]
        exact h
  obtain ⟨c, rfl⟩ := h
  have z := per_mul (f := fun k => decide (∃ t, (k + t * p) % n = 0)) e c 0
  have z0 : decide (∃ t, (0 + t * p) % n = 0) = true := decide_eq_true ⟨0, by simp⟩
  rw [Nat.zero_add] at z
  exact of_decide_eq_true (z.trans z0)
theorem reach_gcd {n p r t : Nat} (h : (r + t * p) % n = 0) : Nat.gcd n p ∣ r := by
  have d1 : Nat.gcd n p ∣ r + t * p := Nat.dvd_trans (Nat.gcd_dvd_left n p) (Nat.dvd_of_mod_eq_zero h)
  have d2 : Nat.gcd n p ∣ t * p := Nat.dvd_trans (Nat.gcd_dvd_right n p) (Nat.dvd_mul_left ..)
  exact (Nat.dvd_add_left d2).mp d1
theorem reach_lt {n p r : Nat} (n1 : 1 ≤ n) (h : Nat.gcd n p ∣ r) : ∃ t, t < n ∧ (r + t * p) % n = 0 := by
  obtain ⟨t, ht⟩ := reach n1 h
  refine ⟨t % n, Nat.mod_lt _ n1, ?_⟩
  rw [Nat.add_mod, Nat.mod_mul_mod, ← Nat.add_mod]
  exact ht
theorem gcd_mod {n p r : Nat} : Nat.gcd n p ∣ r % p ↔ Nat.gcd n p ∣ r := Nat.dvd_mod_iff (Nat.gcd_dvd_right n p)
theorem divOf_iff {L R : List Nat} {s p n : Nat} (s1 : 1 ≤ s) (p1 : 1 ≤ p) (n1 : 1 ≤ n) (hL : ∀ m ∈ L, 1 ≤ m ∧ m < s) (hR : ∀ r ∈ R, r < p) :
    DivOf (hasN L s p R) n ↔ (∃ m ∈ L, n ∣ m) ∨ ∃ r ∈ R, Nat.gcd n p ∣ r := by
  constructor
  · rintro ⟨m, m1, hm, hd⟩
    by_cases h : m < s
    · rw [FormN.head h] at hm
      exact .inl ⟨m, con_iff.mp hm, hd⟩
    · rw [FormN.tail (Nat.le_of_not_lt h)] at hm
      exact .inr ⟨m % p, con_iff.mp hm, gcd_mod.mpr (Nat.dvd_trans (Nat.gcd_dvd_left n p) hd)⟩
  · rintro (⟨m, hm, hd⟩ | ⟨r, hr, hd⟩)
    · have := hL m hm
      exact ⟨m, this.1, by rw [FormN.head this.2]; exact con_iff.mpr hm, hd⟩
    · have hr' : Nat.gcd n p ∣ r + s * p := (Nat.dvd_add_right hd).mpr (Nat.dvd_trans (Nat.gcd_dvd_right n p) (Nat.dvd_mul_left ..))
      obtain ⟨t, ht⟩ := reach n1 hr'
      have sp : s ≤ s * p := Nat.le_mul_of_pos_right s p1
      have e : (r + s * p + t * p) % p = r := by
        rw [Nat.add_assoc, ← Nat.add_mul, Nat.add_mul_mod_self_right, Nat.mod_eq_of_lt (hR r hr)]
      refine ⟨r + s * p + t * p, by omega, ?_, Nat.dvd_of_mod_eq_zero ht⟩
      rw [FormN.tail (by omega), e]
      exact con_iff.mpr hr
/-- the rests of what divides -/
theorem rests_iff {R W : List Nat} {p n : Nat} (p1 : 1 ≤ p) (n1 : 1 ≤ n) (h : ∀ r, r ∈ W ↔ ∃ m, 1 ≤ m ∧ m ≤ p ∧ (∃ q ∈ R, q % Nat.gcd m p = 0) ∧ m % p = r) : n % p ∈ W ↔ ∃ r ∈ R, Nat.gcd n p ∣ r := by
  have key : ∀ m k, m % p = k % p → Nat.gcd m p = Nat.gcd k p := fun m k e => by
    rw [Nat.gcd_comm m p, Nat.gcd_rec p m, e, ← Nat.gcd_rec p k, Nat.gcd_comm]
  rw [h]
  constructor
  · rintro ⟨m, _, _, ⟨q, hq, hd⟩, e⟩
    rw [key m n e] at hd
    exact ⟨q, hq, Nat.dvd_of_mod_eq_zero hd⟩
  · rintro ⟨q, hq, hd⟩
    by_cases z : n % p = 0
    · refine ⟨p, p1, Nat.le_refl _, ⟨q, hq, ?_⟩, by rw [Nat.mod_self, z]⟩
      rw [← key n p (by rw [Nat.mod_self, z])]
      exact Nat.mod_eq_zero_of_dvd hd
    · have lt := Nat.mod_lt n p1
      refine ⟨n % p, by omega, by omega, ⟨q, hq, ?_⟩, Nat.mod_mod ..⟩
      rw [← key n (n % p) (Nat.mod_mod ..).symm]
      exact Nat.mod_eq_zero_of_dvd hd
/-- the divisors found so far -/
theorem divs_step {F G : List Nat} {m i : Nat} (i1 : 1 ≤ i) (hF : ∀ n, n ∈ F ↔ n ∣ m ∧ (n < i ∨ m / n < i)) (hG : ∀ n, n ∈ G ↔ n ∈ F ∨ (m % i = 0 ∧ (n = i ∨ n = m / i))) (m1 : 1 ≤ m) : ∀ n, n ∈ G ↔ n ∣ m ∧ (n < i + 1 ∨ m / n < i + 1) := by
  intro n
  rw [hG, hF]
  constructor
  · rintro (⟨h1, h2⟩ | ⟨h1, rfl | rfl⟩)
    · exact ⟨h1, by omega⟩
    · exact ⟨Nat.dvd_of_mod_eq_zero h1, by omega⟩
    · have d := Nat.dvd_of_mod_eq_zero h1
      refine ⟨Nat.div_dvd_of_dvd d, .inr ?_⟩
      rw [Nat.div_div_self d (by omega)]
      omega
  · rintro ⟨h1, h2⟩
    by_cases e1 : n < i ∨ m / n < i
    · exact .inl ⟨h1, e1⟩
    · have h2 : n = i ∨ m / n = i := by omega
      rcases h2 with rfl | rfl
      · exact .inr ⟨Nat.mod_eq_zero_of_dvd h1, .inl rfl⟩
      · refine .inr ⟨Nat.mod_eq_zero_of_dvd (Nat.div_dvd_of_dvd h1), .inr ?_⟩
        rw [Nat.div_div_self h1 (by omega)]
theorem divs_end {F : List Nat} {m i : Nat} (m1 : 1 ≤ m) (hF : ∀ n, n ∈ F ↔ n ∣ m ∧ (n < i ∨ m / n < i)) (h : m < i * i) (n : Nat) : n ∈ F ↔ n ∣ m := by
  rw [hF]
  refine ⟨fun z => z.1, fun z => ⟨z, ?_⟩⟩
  refine Classical.byContradiction fun c => ?_
  have e := Nat.mul_div_cancel' z
  have := Nat.mul_le_mul (show i ≤ n by omega) (show i ≤ m / n by omega)
  omega
theorem mergeK_kv : ∀ (m l : List Nat), mergeK (kvOf l) (kvOf m) = kvOf (m.foldl ins l)
  | [], l => rfl
  | n :: m, l => by
    show mergeK (putK (kvOf l) (Sum.inl (n : Int)) (.bl true)) (kvOf m) = _
    rw [putK_kv, mergeK_kv m]
    rfl
theorem kvOf_keys (l : List Nat) : ((kvOf l).map fun kv => kV kv.1) = natV l := by
  unfold kvOf natV
  rw [List.map_map]
  rfl
theorem kvOf_len (l : List Nat) : (kvOf l).length = l.length := List.length_map ..
theorem tyL {K : PySem.W.Frag} {H : Hp} {p : Addr} {xs : List V} (h : H p = some (.lst xs)) : tyV K "list" (.ref p) H := .inl ⟨rfl, xs, SqL.of h⟩
theorem tyD {K : PySem.W.Frag} {H : Hp} {p : Addr} {kvs : List (Key × V)} (h : H p = some (.dK kvs)) : tyV K "dict" (.ref p) H := .inr (.inr (.inl ⟨rfl, .inl ⟨kvs, h⟩⟩))
def spDivs : Sp := fun vs H Q _ => ∃ m : Nat, vs = [.int (m : Int)] ∧ 1 ≤ m ∧ m ≤ 1000 ∧ ∀ (l : Addr) (D : List Nat) (H' : Hp), Same H H' → H l = none → H' l = some (.lst (natV D)) → (∀ n, n ∈ D ↔ n ∣ m) → D.length ≤ 2 * (m + 1) → Q (.ref l) H'
section
variable {K : PySem.W.Frag}
theorem ok_divs (F : DefAt K mg "divisors_of" s_divisors_of) (T : Txt K mg aGround aNum aInv) : DefOk P w K mg base CX0 1 "divisors_of" ["number"] spDivs := by
  refine F.ok sc_divisors_of (fun _ _ _ _ _ _ us hl => match us, hl with | [_], _ => rfl) (fun vs H Q E h => ?_) (fun f cdv A outer s H vs Q E hr h => ?_)
  · obtain ⟨m, rfl, _⟩ := h
    rfl
  · obtain ⟨m, rfl, m1, m2, k⟩ := h
    refine ⟨_, (pss_cons (ps_par (i := 1) (j := 2) (by rfl) sc_divisors_of.nd rfl rfl (by decide) rfl rfl (pa_cons (pe_lst pa_nil) (pa_cons pe_int pa_nil)) (by rfl))
  (pss_cons (ps_while PassesOwn.never (pt_cmpR o_le (pe_op o_mul (pv 2) (pv 2)) (pv 0) (nomark _))
  (pss_cons (ps_if (pt_cmpR (o_eq K hr.units) (pe_op o_mod (pv 0) (pv 2)) pe_int (nomark _)) (pss_one (ps_expr (pe_bm PySem.F.plainAttrs_list PySem.F.slot_list_extend PySem.F.type_list_extend mt_extend (pv 1) (pa_cons (pe_lst (pa_cons (pv 2) (pa_cons (pe_op o_div (pv 0) (pv 2)) pa_nil))) pa_nil))))
  pss_nil)
  (pss_one (ps_set (i := 2) sc_divisors_of.nd rfl (Or.inl rfl) (pe_op (o_add K) (pv 2) pe_int)))))
  (pss_one (ps_ret (pv 1))))), ?_⟩
    tm_at "go"
    refine ⟨szl rfl, fun l hl => ?_⟩
    tm_at "go"
    refine ⟨fun j σ' H' => Same H H' ∧ ∃ (i : Nat) (F : List Nat), σ' = [some (.int (m : Int)), some (.ref l), some (.int (i : Int))] ∧ H' l = some (.lst (natV F)) ∧ (∀ n, n ∈ F ↔ n ∣ m ∧ (n < i ∨ m / n < i)) ∧ 1 ≤ i ∧ i ≤ m + 1 ∧ F.length ≤ 2 * i ∧ j = m + 1 - i,
      ⟨m, same_new hl, 1, [], rfl, upd_same, fun n => ?_, Nat.le_refl _, by omega, Nat.zero_le _, by omega⟩, ?_⟩
    · refine ⟨fun z => (nomatch z), fun ⟨z1, z2⟩ => ?_⟩
      have n1 := Nat.pos_of_dvd_of_pos z1 m1
      have n2 := Nat.div_pos (Nat.le_of_dvd m1 z1) n1
      omega
    rintro j σ' H' ⟨sm, i, F, rfl, hF, hm, i1, i2, zF, rfl⟩
    tm_at "go"
    refine r_mul (cmulL ⟨by omega, by omega⟩) ?_
    tm_at "go"
    refine r_id (fun c => ?_) (fun c => ?_)
    · refine ⟨fun σ' H1 => ∃ m', m' < m + 1 - i ∧ (Same H H1 ∧ ∃ (i : Nat) (F : List Nat), σ' = [some (.int (m : Int)), some (.ref l), some (.int (i : Int))] ∧ H1 l = some (.lst (natV F)) ∧ (∀ n, n ∈ F ↔ n ∣ m ∧ (n < i ∨ m / n < i)) ∧ 1 ≤ i ∧ i ≤ m + 1 ∧ F.length ≤ 2 * i ∧ m' = m + 1 - i), fun σ' H' q => q, ?_⟩
      have im : i ≤ m := by
        have c : i * i ≤ m := by
          have e : ((i * i : Nat) : Int) = (i : Int) * (i : Int) := Int.natCast_mul ..
          omega
        have := Nat.le_mul_of_pos_left i i1
        omega
      tm_at "go"
      refine r_mod (by omega) ?_
      tm_at "go"
      refine r_eq rfl ?_
      tm_at "go"
      rw [show ((0 : Int)) = ((0 : Nat) : Int) from rfl, modE]
      refine r_id (fun c => ?_) (fun c => ?_)
      · tm_at "go"
        refine ⟨tyL hF, ?_⟩
        tm_at "go"
        refine r_div (by omega) (by omega) ?_
        tm_at "go"
        refine ⟨szl rfl, fun q hq => ?_⟩
        tm_at "go"
        rw [show (m : Int) / (i : Int) = ((m / i : Nat) : Int) from (Int.natCast_ediv ..).symm]
        refine ⟨l, q, _, natV [i, m / i], rfl, rfl, at_upd (ne_of_none hF hq) hF, upd_same, ?_, ?_⟩
        · rw [List.length_map]
          exact sz (by show F.length + 2 ≤ 100000; omega)
        tm_at "go"
        refine ⟨m + 1 - (i + 1), by omega, Same.updF (Same.new sm hq) hl, i + 1, F ++ [i, m / i], rfl, ?_, divs_step i1 hm (fun n => ?_) m1, by omega, by omega, by rw [List.length_append, show ([i, m / i] : List Nat).length = 2 from rfl]; omega, rfl⟩
        · rw [upd_same, natV_app]
        · rw [List.mem_append]
          exact or_congr Iff.rfl ⟨fun z => ⟨c, by simpa using z⟩, fun z => by simpa using z.2⟩
      · tm_at "go"
        refine ⟨m + 1 - (i + 1), by omega, sm, i + 1, F, rfl, hF, divs_step i1 hm (fun n => ⟨.inl, fun z => z.elim id fun z => absurd z.1 c⟩) m1, by omega, by omega, by omega, rfl⟩
    · tm_at "go"
      have c : m < i * i := by
        have e : ((i * i : Nat) : Int) = (i : Int) * (i : Int) := Int.natCast_mul ..
        omega
      exact k l F H' sm hl hF (divs_end m1 hm c) (by omega)
end
def spDvd (aNum : Addr) : Sp := fun vs H Q _ => ∃ (x : Addr) (L R : List Nat) (s p : Nat), vs = [.ref x] ∧ NumAt aNum H x L s p R ∧ FormN L s p R ∧ s ≤ 100 ∧ p ≤ 100 ∧
  ∀ (x' : Addr) (L' R' : List Nat) (s' p' : Nat) (H' : Hp), FormN L' s' p' R' → s' ≤ s → p' ≤ p → (∀ n, 1 ≤ n → (hasN L' s' p' R' n = true ↔ DivOf (hasN L s p R) n)) → Same H H' → H x' = none → NumAt aNum H' x' L' s' p' R' → Q (.ref x') H'
section
variable {K : PySem.W.Frag}
theorem ok_dividing (F : MetAt K aNum "dividing" "Numbers.dividing" s_Numbers_dividing) (T : Txt K mg aGround aNum aInv) (D_divisors_of : DefOk P w K mg base CX0 1 "divisors_of" ["number"] spDivs) (D_greatest_common : DefOk P w K mg base CX0 1 "greatest_common" ["one", "other"] spGcd)
    (M_Numbers : MakeOk P w K mg base (L2.CX P w) 4 "Numbers" aNum ["self", "listed", "since", "period", "rests"] [] (spNumI K aNum aInv)) : MetOk P w K mg base CX0 6 aNum "dividing" ["self"] (spDvd aNum) := by
  refine F.ok sc_Numbers_dividing (fun _ _ _ _ _ _ us hl => match us, hl with | [_], _ => rfl) (fun vs H Q E h => ?_) (fun f cdv A outer s H vs Q E hr h => ?_)
  · obtain ⟨x, _, _, _, _, rfl, _⟩ := h
    rfl
  · obtain ⟨x, L, R, sc, p, rfl, ⟨dx, a1, a2, hx, ha1, ha2⟩, FF, s9, p9, k⟩ := h
    refine ⟨_, (pss_cons (ps_set (i := 1) sc_Numbers_dividing.nd rfl (Or.inr rfl) pe_dnewK)
  (pss_cons (ps_for PassesOwn.never rfl (pi_t K (pe_fl K (pv 0))) (pg_name (i := 2) sc_Numbers_dividing.nd rfl (Or.inl rfl))
  (pss_one (ps_expr (pe_bm PySem.F.plainAttrs_dict PySem.F.slot_dict_update PySem.F.type_dict_update mt_dupd (pv 1) (pa_cons (pe_dc (own := [("small", 7)]) (g := (gName 7)) rfl sc_Numbers_dividing.nd (pi_l K (pe_callD D_divisors_of (hr.mono (by decide)) pass0 rfl (pa_cons (pv 2) pa_nil))) (blkOk_by (own := [("small", 7)]) (N := ["self", "known", "number", "since", "rests", "listed", "common", "small", "rest"]) (sc := defScope s_Numbers_dividing) (by decide +kernel)) (fun _ _ _ _ _ => (pg_name (i := 7) sc_Numbers_dividing.nd rfl (Or.inl rfl) (Or.inr rfl))) (fun _ _ _ _ _ => pts_nil) (fun _ _ _ _ _ => (pv 7)) (fun _ _ _ _ _ => pe_bl)) pa_nil)))))
  (pss_cons (ps_set (i := 3) sc_Numbers_dividing.nd rfl (Or.inl rfl) (pe_op (o_add K) pe_int (pe_callBK (cr_maxKey K rfl) (by rfl) T.n_max (by decide +kernel) (pa_cons (pe_lst (pa_cons pe_int (pa_starD rfl (pv 1) pa_nil))) pa_nil) (pk_cons (pe_bT (T := "int") (by rfl) T.n_int (by decide +kernel)) pk_nil))))
  (pss_cons (ps_set (i := 4) sc_Numbers_dividing.nd rfl (Or.inr rfl) (pe_lst pa_nil))
  (pss_cons (ps_for PassesOwn.never rfl (pi_range2 (by rfl) T.n_range (pa_cons pe_int (pa_cons (pe_op (o_add K) (pe_fl K (pv 0)) pe_int) pa_nil))) (pg_name (i := 2) sc_Numbers_dividing.nd rfl (Or.inl rfl))
  (pss_cons (ps_set (i := 6) sc_Numbers_dividing.nd rfl (Or.inr rfl) (pe_callD D_greatest_common (hr.mono (by decide)) pass0 rfl (pa_cons (pv 2) (pa_cons (pe_fl K (pv 0)) pa_nil))))
  (pss_one (ps_if (pt_tr K (pe_callB (c_any K rfl) (by rfl) T.n_any (by decide +kernel) (pa_cons (pe_lc (own := [("rest", 8)]) (g := (gName 8)) rfl sc_Numbers_dividing.nd (pi_t K (pe_fl K (pv 0))) (blkOk_by (own := [("rest", 8)]) (N := ["self", "known", "number", "since", "rests", "listed", "common", "small", "rest"]) (sc := defScope s_Numbers_dividing) (by decide +kernel)) (fun _ _ _ _ _ => (pg_name (i := 8) sc_Numbers_dividing.nd rfl (Or.inl rfl) (Or.inr rfl))) (fun _ _ _ _ _ => pts_nil) (fun _ _ _ _ _ => (pe_cmpR (o_eq K hr.units) (pe_op o_mod (pv 8) (pv 6)) pe_int (nomark _)))) pa_nil))) (pss_one (ps_expr (pe_bm PySem.F.plainAttrs_list PySem.F.slot_list_append PySem.F.type_list_append mt_append (pv 4) (pa_cons (pe_op o_mod (pv 2) (pe_fl K (pv 0))) pa_nil))))
  pss_nil))))
  (pss_cons (ps_setLc (i := 5) rfl sc_Numbers_dividing.nd rfl rfl (sw_true rfl rfl rfl (by decide +kernel)) (own := [("number", 2)]) (g := (gName 2)) (pi_range2 (by rfl) T.n_range (pa_cons pe_int (pa_cons (pv 3) pa_nil))) (blkOk_by (own := [("number", 2)]) (N := ["self", "known", "number", "since", "rests", "listed", "common", "small", "rest"]) (sc := defScope s_Numbers_dividing) (by decide +kernel)) (fun _ _ _ _ _ => (pg_name (i := 2) sc_Numbers_dividing.nd rfl (Or.inl rfl) (Or.inr rfl))) (fun _ _ _ _ _ => (pts_one (PW.pt (pw_or (pt_cmp (pc_din (hu_of hr) (pv 2) (pv 1))) (pw_or1 (pt_cmpR (o_in K) (pe_op o_mod (pv 2) (pe_fl K (pv 0))) (pv 4) rfl)))))) (fun _ _ _ _ _ => (pv 2)))
  (pss_one (ps_ret (pe_makeD M_Numbers (hr.mono (by decide)) passF rfl (pa_cons (pv 5) (pa_cons (pv 3) (pa_cons (pe_fl K (pv 0)) (pa_cons (pv 4) pa_nil))))))))))))), ?_⟩
    have zL := FF.aL.len
    have zR := FF.aR.len
    have lL : (natV L).length = L.length := List.length_map ..
    have p1 := FF.p1
    have s1 := FF.s1
    tm_at "go"
    intro kd hkd
    tm_at "go"
    refine r_get (at_upd (ne_of_none hx hkd) hx) T.clN T.nL rfl ?_
    tm_at "go"
    refine ⟨a1, rfl, ⟨_, SqT.of (at_upd (ne_of_none ha1 hkd) ha1)⟩, ?_⟩
    refine for_it (walk_tup (xs := natV L)) (fun i σ H' => (∃ o2 o3 o4 o5 o6 o7 o8 : Option V, σ = [some (.ref x), some (.ref kd), o2, o3, o4, o5, o6, o7, o8]) ∧ Same H H' ∧ ∃ Z : List Nat, H' kd = some (.dK (kvOf Z)) ∧ Z.length ≤ 200 * i ∧ ∀ n, n ∈ Z ↔ ∃ m ∈ L.take i, n ∣ m)
      ⟨⟨_, _, _, _, _, _, _, rfl⟩, same_new hkd, [], upd_same, Nat.zero_le _, fun n => ⟨fun z => (nomatch z), fun ⟨_, z, _⟩ => by simp at z⟩⟩ (fun i σ H' _ q => SqT.of (q.2.1 _ _ ha1)) ?_ ?_
    · rintro i y σ H1 H2 hi ⟨⟨o2, o3, o4, o5, o6, o7, o8, rfl⟩, sm, Z, hZ, zZ, hm⟩ ⟨rfl, hy⟩
      obtain ⟨n, hn, rfl⟩ := natV_at hy
      have nL := FF.aL.2 n (List.mem_of_getElem? hn)
      tm_at "go"
      refine ⟨tyD hZ, ?_⟩
      tm_at "go"
      refine ⟨n, rfl, nL.1, by omega, fun l M H3 sm3 hl0 hl hM zM => ?_⟩
      tm_at "go"
      refine ⟨l, rfl, ⟨_, SqL.of hl⟩, fun D hD => ?_⟩
      refine dc_it (walk_list (xs := natV M)) (fun j H' => Same H3 H' ∧ H' D = some (.dK (kvOf (ded (M.take j))))) ⟨same_new hD, upd_same⟩ (fun j H' _ q => SqL.of (q.1 _ _ hl)) ?_ ?_
      · rintro j y H4 H5 hj ⟨sm4, hd⟩ ⟨rfl, hy⟩
        obtain ⟨c, hc, rfl⟩ := natV_at hy
        have lM : (natV M).length = M.length := List.length_map ..
        tm_at "go"
        refine ⟨rfl, ?_⟩
        tm_at "go"
        refine ⟨_, Sum.inl (c : Int), rfl, hd, ?_, Same.updF sm4 hD, ?_⟩
        · unfold kvOf
          rw [List.length_map]
          exact szlt (Nat.ble_eq_true_of_le (Nat.le_trans (ded_len _) (Nat.le_trans (List.length_take_le ..) (by omega))))
        · rw [upd_same, putK_kv, take_succ hc, ded_snoc]
      · rintro H4 ⟨sm4, hd⟩
        rw [show (natV M).length = M.length from List.length_map .., List.take_length] at hd
        have hZ4 := sm4 _ _ (sm3 _ _ hZ)
        have smA := (sm.trans sm3).trans sm4
        clear sm4 hl
        tm_at "go"
        refine r_dupd (ne_of_none (sm3 _ _ hZ) hD) hZ4 hd ?_ ?_
        · rw [kvOf_len, kvOf_len]
          have := ded_len M
          exact Nat.le_trans (Nat.add_le_add zZ this) (sz (by omega))
        rw [mergeK_kv]
        tm_at "go"
        refine ⟨⟨_, _, _, _, _, _, _, rfl⟩, Same.updF smA hkd, _, upd_same, ?_, fun c => ?_⟩
        · have e1 := foldl_len (ded M) Z
          have e2 := ded_len M
          omega
        · rw [foldl_mem, ded_mem, hm, hM, take_succ hn]
          constructor
          · rintro (⟨m, h1, h2⟩ | h)
            · exact ⟨m, List.mem_append_left _ h1, h2⟩
            · exact ⟨n, List.mem_append_right _ (List.mem_singleton.mpr rfl), h⟩
          · rintro ⟨m, h1, h2⟩
            rcases List.mem_append.mp h1 with h1 | h1
            · exact .inl ⟨m, h1, h2⟩
            · rw [List.mem_singleton.mp h1] at h2
              exact .inr h2
    rintro σ H1 ⟨⟨o2, o3, o4, o5, o6, o7, o8, rfl⟩, sm, Z, hZ, zZ, hm⟩
    rw [show (natV L).length = L.length from List.length_map ..] at zZ hm
    rw [List.take_length] at hm
    replace hx := sm _ _ hx
    replace ha2 := sm _ _ ha2
    clear ha1
    tm_at "go"
    refine ⟨kd, _, rfl, hZ, ?_⟩
    rw [kvOf_keys]
    tm_at "go"
    rw [List.append_nil]
    refine ⟨sz (by rw [List.length_cons, List.length_map]; omega), fun q hq => ?_⟩
    tm_at "go"
    refine r_maxK (ns := (0 :: Z).map fun (n : Nat) => (n : Int)) (SqL.of (by rw [upd_same, List.map_map]; rfl)) (by rw [List.length_map]; exact Nat.zero_lt_succ _) fun m hm0 hle => ?_
    obtain ⟨mm, hmm, rfl⟩ := List.mem_map.mp hm0
    have hle : ∀ n ∈ Z, n ≤ mm := fun n hn => by
      have := hle (n : Int) (List.mem_map.mpr ⟨n, List.mem_cons_of_mem _ hn, rfl⟩)
      omega
    have msc : mm < sc := by
      rcases List.mem_cons.mp hmm with e | e
      · omega
      · obtain ⟨m, hm1, hm2⟩ := (hm mm).mp e
        have := FF.aL.2 m hm1
        have := Nat.le_of_dvd (by omega) hm2
        omega
    have sn := same_new hq (o := .lst (.int 0 :: natV Z))
    generalize upd H1 q (.lst (.int 0 :: natV Z)) = G1 at sn ⊢
    replace hx := sn _ _ hx
    replace ha2 := sn _ _ ha2
    replace hZ := sn _ _ hZ
    replace sm := sm.trans sn
    clear sn hm0 hmm hq
    tm_at "go"
    rw [show (1 : Int) + (mm : Int) = ((1 + mm : Nat) : Int) by omega]
    refine ⟨szl rfl, fun kr hkr => ?_⟩
    tm_at "go"
    have sr := same_new hkr (o := .lst [])
    refine r_get (sr _ _ hx) T.clN T.nP rfl ?_
    tm_at "go"
    refine ⟨1, _, rfl, ⟨by decide, by decide, by omega, by omega⟩, ?_⟩
    rw [show ((p : Int) + 1 - 1).toNat = p by omega]
    have lR : (natV R).length = R.length := List.length_map ..
    refine for_range (lo := 1) (n := p) (fun i σ H' => (∃ o2 o5 o6 o7 o8 : Option V, σ = [some (.ref x), some (.ref kd), o2, some (.int ((1 + mm : Nat) : Int)), some (.ref kr), o5, o6, o7, o8]) ∧ Same G1 H' ∧
      ∃ W : List Nat, H' kr = some (.lst (natV W)) ∧ W.length ≤ i ∧ ∀ r, r ∈ W ↔ ∃ m, 1 ≤ m ∧ m ≤ i ∧ (∃ q ∈ R, q % Nat.gcd m p = 0) ∧ m % p = r)
      ⟨⟨_, _, _, _, _, rfl⟩, sr, [], upd_same, Nat.zero_le _, fun n => ⟨fun z => (nomatch z), fun ⟨m, z1, z2, _⟩ => by omega⟩⟩ ?_ ?_
    · rintro i σ H1 hi ⟨⟨o2, o5, o6, o7, o8, rfl⟩, sm1, W, hW, zW, hw⟩
      rw [show (1 : Int) + (i : Int) = ((i + 1 : Nat) : Int) by omega]
      tm_at "go"
      refine r_get (sm1 _ _ hx) T.clN T.nP rfl ?_
      tm_at "go"
      refine ⟨i + 1, p, rfl, ?_⟩
      have g1 : 1 ≤ Nat.gcd (i + 1) p := Nat.gcd_pos_of_pos_right _ p1
      generalize hg : Nat.gcd (i + 1) p = g at g1
      tm_at "go"
      refine r_get (sm1 _ _ hx) T.clN T.nR rfl ?_
      tm_at "go"
      refine ⟨a2, rfl, ⟨_, SqT.of (sm1 _ _ ha2)⟩, fun D hD => ?_⟩
      refine lc_it (walk_tup (xs := natV R)) (fun j H' => Same H1 H' ∧ H' D = some (.lst (((R.take j).map fun q => decide (q % g = 0)).map V.bl))) ⟨same_new hD, upd_same⟩ (fun j H' _ q => SqT.of (q.1 _ _ (sm1 _ _ ha2))) ?_ ?_
      · rintro j y H2 H3 hj ⟨sm2, hl⟩ ⟨rfl, hy⟩
        obtain ⟨c, hc, rfl⟩ := natV_at hy
        tm_at "go"
        refine ⟨rfl, ?_⟩
        tm_at "go"
        refine r_mod (by omega) ?_
        tm_at "go"
        refine r_eq rfl ?_
        rw [show ((0 : Int)) = ((0 : Nat) : Int) from rfl, modE]
        refine ⟨_, hl, ?_, Same.updF sm2 hD, ?_⟩
        · rw [List.length_map, List.length_map]
          exact szlt (Nat.ble_eq_true_of_le (Nat.le_trans (List.length_take_le ..) (by omega)))
        · rw [upd_same, take_succ hc, List.map_append, List.map_append]
          rfl
      · rintro H2 ⟨sm2, hl⟩
        rw [lR, List.take_length] at hl
        replace hW := sm2 _ _ hW
        replace sm1 := sm1.trans sm2
        tm_at "go"
        refine ⟨D, _, rfl, SqL.of hl, ?_⟩
        have ea : (List.map (fun q => decide (q % g = 0)) R).any id = true ↔ ∃ q ∈ R, q % g = 0 := by
          rw [List.any_map, List.any_eq_true]
          simp
        tm_at "go"
        refine r_ite (fun c => ?_) (fun c => ?_)
        · tm_at "go"
          refine ⟨tyL hW, ?_⟩
          tm_at "go"
          refine r_get (sm1 _ _ hx) T.clN T.nP rfl ?_
          refine r_mod (by omega) ?_
          tm_at "go"
          rw [show ((i + 1 : Nat) : Int) % (p : Int) = (((i + 1) % p : Nat) : Int) from (Int.natCast_emod ..).symm]
          refine r_append hW (szlt (by rw [List.length_map]; exact Nat.ble_eq_true_of_le (by omega))) ?_
          tm_at "go"
          refine ⟨⟨_, _, _, _, _, rfl⟩, Same.updF sm1 hkr, W ++ [(i + 1) % p], by rw [upd_same, natV_app]; rfl, by rw [List.length_append]; exact Nat.succ_le_succ zW, fun r => ?_⟩
          rw [List.mem_append, List.mem_singleton, hw]
          constructor
          · rintro (⟨m, h1, h2, h3⟩ | rfl)
            · exact ⟨m, h1, by omega, h3⟩
            · exact ⟨i + 1, by omega, Nat.le_refl _, by rw [hg]; exact ea.mp c, rfl⟩
          · rintro ⟨m, h1, h2, h3, h4⟩
            by_cases e : m = i + 1
            · subst e
              exact .inr h4.symm
            · exact .inl ⟨m, h1, by omega, h3, h4⟩
        · refine ⟨⟨_, _, _, _, _, rfl⟩, sm1, W, hW, by omega, fun r => ?_⟩
          rw [hw]
          constructor
          · rintro ⟨m, h1, h2, h3⟩
            exact ⟨m, h1, by omega, h3⟩
          · rintro ⟨m, h1, h2, h3, h4⟩
            by_cases e : m = i + 1
            · subst e
              rw [hg] at h3
              rw [ea.mpr h3] at c
              cases c
            · exact ⟨m, h1, by omega, h3, h4⟩
    rintro σ G2 ⟨⟨o2, o5, o6, o7, o8, rfl⟩, sm1, W, hW, zW, hw⟩
    replace hx := sm1 _ _ hx
    replace hZ := sm1 _ _ hZ
    replace sm := sm.trans sm1
    clear sm1 sr hkr ha2
    tm_at "go"
    refine ⟨1, _, rfl, ⟨by decide, by decide, by omega, by omega⟩, fun D hD => ?_⟩
    rw [show (((1 + mm : Nat) : Int) - 1).toNat = mm by omega]
    obtain ⟨f0, hf0⟩ : ∃ f0 : Nat → Bool, f0 = fun n => Z.contains n || W.contains (n % p) := ⟨_, rfl⟩
    refine lc_range (fun i H' => Same G2 H' ∧ H' D = some (.lst (natV ((numL i).filter f0)))) ⟨same_new hD, upd_same⟩ ?_ ?_
    · rintro i H3 hi ⟨sm3, hl⟩
      rw [show (1 : Int) + (i : Int) = ((i + 1 : Nat) : Int) by omega]
      tm_at "go"
      refine ⟨rfl, ?_⟩
      tm_at "go"
      refine r_dinG (k := Sum.inl ((i + 1 : Nat) : Int)) (sm3 _ _ hZ) ?_
      rw [valV_kv]
      have eN : (numL (i + 1)).filter f0 = (numL i).filter f0 ++ (if f0 (i + 1) = true then [i + 1] else []) := by
        unfold numL
        rw [List.range_succ, List.map_append, List.filter_append]
        congr 1
        show List.filter f0 [1 + i] = _
        rw [Nat.add_comm 1 i, List.filter_cons, List.filter_nil]
      have zl : (natV ((numL i).filter f0)).length < sizeLine := by
        rw [List.length_map]
        exact szlt (Nat.ble_eq_true_of_le (Nat.le_trans (List.length_filter_le ..) (by rw [numL_len]; omega)))
      refine ⟨_, rfl, ?_⟩
      refine r_ite (fun c => ?_) (fun c => ?_)
      · tm_at "go"
        refine ⟨_, hl, zl, Same.updF sm3 hD, ?_⟩
        rw [upd_same, eN, if_pos (by rw [hf0]; show (_ || _) = true; rw [c]; rfl), natV_app]
        rfl
      · tm_at "go"
        refine r_get (sm3 _ _ hx) T.clN T.nP rfl ?_
        refine r_mod (by omega) ?_
        tm_at "go"
        rw [show ((i + 1 : Nat) : Int) % (p : Int) = (((i + 1) % p : Nat) : Int) from (Int.natCast_emod ..).symm]
        refine r_inQ (.inl (SqL.of (sm3 _ _ hW))) rfl (flat_nats _) ?_
        rw [inV_nat]
        tm_at "go"
        have ef : f0 (i + 1) = W.contains ((i + 1) % p) := by rw [hf0]; show (_ || _) = _; rw [c]; rfl
        rw [← ef]
        refine r_ite (fun c => ?_) (fun c => ?_)
        · tm_at "go"
          refine ⟨_, hl, zl, Same.updF sm3 hD, ?_⟩
          rw [upd_same, eN, if_pos c, natV_app]
          rfl
        · refine ⟨sm3, ?_⟩
          rw [eN, if_neg (by rw [c]; exact Bool.false_ne_true), List.append_nil]
          exact hl
    rintro G3 ⟨sm3, hl⟩
    replace hx := sm3 _ _ hx
    replace hW := sm3 _ _ hW
    replace sm := sm.trans sm3
    clear sm3 hZ hD
    tm_at "go"
    refine r_get hx T.clN T.nP rfl ?_
    tm_at "go"
    have hM : ∀ n, n ∈ (numL mm).filter f0 ↔ (1 ≤ n ∧ n ≤ mm) ∧ (n ∈ Z ∨ n % p ∈ W) := fun n => by
      rw [List.mem_filter, numL_mem, hf0]
      simp [con_iff]
    have zM : ((numL mm).filter f0).length ≤ mm := Nat.le_trans (List.length_filter_le ..) (by rw [numL_len]; omega)
    generalize (numL mm).filter f0 = M at hl hM zM
    have wl : ∀ r ∈ W, r < p := fun r hr => by
      obtain ⟨m, _, _, _, rfl⟩ := (hw r).mp hr
      exact Nat.mod_lt _ p1
    refine r_num (L := M) (R := W) (.inl (SqL.of hl)) (.inl (SqL.of hW)) (by omega) (by omega) p1 (by omega) (fun n hn => by have := (hM n).mp hn; omega) wl (by omega) (by omega)
      fun x' L' R' s' p' H' F' h1 h2 h3 h4 sm' hx0 hX => ?_
    refine k x' L' R' s' p' H' F' (by omega) h3 (fun n hn => ?_) (sm.trans sm') (Same.free sm hx0) hX
    rw [h4 n hn, divOf_iff s1 p1 hn FF.self.1 FF.self.2, ← rests_iff p1 hn hw, ← hm n]
    by_cases c : n < 1 + mm
    · rw [FormN.head c, con_iff, hM]
      exact ⟨fun z => z.2, fun z => ⟨⟨hn, by omega⟩, z⟩⟩
    · rw [FormN.tail (Nat.le_of_not_lt c), con_iff]
      refine ⟨.inr, fun z => z.elim (fun z => ?_) id⟩
      have := hle n z
      omega
end
section
variable {K : PySem.W.Frag}
theorem r_neNil {H : Hp} {Q : VK} {D : Addr} {l : List Nat} (h : H D = some (.lst (natV l))) (k : ∀ H', Same H H' → Q (.bl (!l.isEmpty)) H') : ([] : List V).length ≤ sizeLine ∧ ∀ p, H p = none → uNe K (.ref D) (.ref p) (upd H p (.lst [])) Q :=
  ⟨szl rfl, fun p hp => r_neD (.lst (SqL.of ((same_new hp) _ _ h)) (dp_nats _)) (.lst (SqL.of upd_same) .nil) (sp_nats _) rfl (by rw [eqv_nil]; exact k _ (same_new hp))⟩
theorem numL_succ (n : Nat) : numL (n + 1) = numL n ++ [1 + n] := by
  unfold numL
  rw [List.range_succ, List.map_append]
  rfl
theorem numL_asc (n : Nat) : (numL n).Pairwise (· < ·) := by
  unfold numL
  rw [List.pairwise_map]
  exact List.pairwise_lt_range.imp fun h => by omega
theorem com_last {n p : Nat} {f0 : Nat → Bool} (p1 : 1 ≤ p) (h : ∀ d, f0 d = true ↔ p % d = 0 ∧ n % d = 0) : ∃ M', (numL p).filter f0 = M' ++ [Nat.gcd n p] := by
  have hg : Nat.gcd n p ∈ (numL p).filter f0 := by
    rw [List.mem_filter, numL_mem, h]
    exact ⟨⟨Nat.gcd_pos_of_pos_right _ p1, Nat.gcd_le_right _ p1⟩, Nat.mod_eq_zero_of_dvd (Nat.gcd_dvd_right ..), Nat.mod_eq_zero_of_dvd (Nat.gcd_dvd_left ..)⟩
  have ha : ∀ a ∈ (numL p).filter f0, a ≤ Nat.gcd n p := fun a ha => by
    rw [List.mem_filter, h] at ha
    exact Nat.le_of_dvd (Nat.gcd_pos_of_pos_right _ p1) (Nat.dvd_gcd (Nat.dvd_of_mod_eq_zero ha.2.2) (Nat.dvd_of_mod_eq_zero ha.2.1))
  have hs := (numL_asc p).filter f0
  generalize (numL p).filter f0 = l at hg ha hs
  rcases List.eq_nil_or_concat l with rfl | ⟨M', a, rfl⟩
  · cases hg
  · rw [List.concat_eq_append] at hg ha hs ⊢
    refine ⟨M', ?_⟩
    have h1 := ha a (List.mem_append_right _ (List.mem_singleton.mpr rfl))
    rcases List.mem_append.mp hg with h2 | h2
    · have := (List.pairwise_append.mp hs).2.2 _ h2 a (List.mem_singleton.mpr rfl)
      omega
    · rw [List.mem_singleton.mp h2]
theorem atI_snoc (L : List Nat) (n : Nat) : atI (natV (L ++ [n])) (-1) = some (.int ((n : Nat) : Int)) := by
  unfold atI ixN natV
  rw [if_neg (by omega), List.length_map, List.length_append, if_pos (by show -(((L.length + 1 : Nat) : Int)) ≤ -1; omega)]
  show (List.map _ _)[((-1 : Int) + ((L.length + 1 : Nat) : Int)).toNat]? = _
  rw [show ((-1 : Int) + ((L.length + 1 : Nat) : Int)).toNat = L.length by omega, List.getElem?_map, List.getElem?_append_right (Nat.le_refl _), Nat.sub_self]
  rfl
def spCom : Sp := fun vs H Q _ => ∃ n p r : Nat, vs = [.int (n : Int), .int (p : Int), .int (r : Int)] ∧ 1 ≤ n ∧ 1 ≤ p ∧ p ≤ 100 ∧ ∀ H', Same H H' → Q (.bl (decide (r % Nat.gcd n p = 0))) H'
theorem ok_com (F : DefAt K mg "_law_common_divides" s_law_common_divides) (T : Txt K mg aGround aNum aInv) : DefOk P w K mg base CX0 1 "_law_common_divides" ["_law_number", "_law_period", "_law_rest"] spCom := by
  refine F.ok sc_law_common_divides (fun _ _ _ _ _ _ us hl => match us, hl with | [_, _, _], _ => rfl) (fun vs H Q E h => ?_) (fun f cdv A outer s H vs Q E hr h => ?_)
  · obtain ⟨n, p, r, rfl, _⟩ := h
    rfl
  · obtain ⟨n, p, r, rfl, n1, p1, p9, k⟩ := h
    refine ⟨_, (pss_cons (ps_setLc (i := 3) rfl sc_law_common_divides.nd rfl rfl (sw_true rfl rfl rfl (by decide +kernel)) (own := [("_law_size", 4)]) (g := (gName 4)) (pi_range2 (by rfl) T.n_range (pa_cons pe_int (pa_cons (pe_op (o_add K) (pv 1) pe_int) pa_nil))) (blkOk_by (own := [("_law_size", 4)]) (N := ["_law_number", "_law_period", "_law_rest", "_law_both", "_law_size"]) (sc := defScope s_law_common_divides) (by decide +kernel)) (fun _ _ _ _ _ => (pg_name (i := 4) sc_law_common_divides.nd rfl (Or.inl rfl) (Or.inr rfl))) (fun _ _ _ _ _ => (pts_one (PW.pt (pw_and (pt_cmpR (o_eq K hr.units) (pe_op o_mod (pv 1) (pv 4)) pe_int (nomark _)) (pw_and1 (pt_cmpR (o_eq K hr.units) (pe_op o_mod (pe_callTy c_int (by rfl) T.n_int (by decide +kernel) (pa_cons (pv 0) pa_nil)) (pv 4)) pe_int (nomark _))))))) (fun _ _ _ _ _ => (pv 4)))
  (pss_one (ps_ret (pe_cmpR (o_eq K hr.units) (pe_op o_mod (pv 2) (pe_ix (ix_u K) (pv 3) (pe_un un_neg pe_int) (fun _ _ => rfl))) pe_int (nomark _))))), ?_⟩
    tm_at "go"
    refine ⟨1, _, rfl, ⟨by decide, by decide, by omega, by omega⟩, fun D hD => ?_⟩
    rw [show ((p : Int) + 1 - 1).toNat = p by omega]
    obtain ⟨f0, hf0⟩ : ∃ f0 : Nat → Bool, f0 = fun d => decide (p % d = 0) && decide (n % d = 0) := ⟨_, rfl⟩
    refine lc_range (fun i H' => Same H H' ∧ H' D = some (.lst (natV ((numL i).filter f0)))) ⟨same_new hD, upd_same⟩ ?_ ?_
    · rintro i H3 hi ⟨sm3, hl⟩
      rw [show (1 : Int) + (i : Int) = ((1 + i : Nat) : Int) by omega]
      tm_at "go"
      refine ⟨rfl, ?_⟩
      have zl : (natV ((numL i).filter f0)).length < sizeLine := by
        rw [List.length_map]
        exact szlt (Nat.ble_eq_true_of_le (Nat.le_trans (List.length_filter_le ..) (by rw [numL_len]; omega)))
      tm_at "go"
      refine r_mod (by omega) ?_
      tm_at "go"
      refine r_eq rfl ?_
      tm_at "go"
      rw [show ((0 : Int)) = ((0 : Nat) : Int) from rfl, modE]
      refine r_id (fun c => ?_) (fun c => ?_)
      · tm_at "go"
        refine r_mod (by omega) ?_
        tm_at "go"
        refine r_eq rfl ?_
        tm_at "go"
        rw [modE]
        refine r_id (fun c2 => ?_) (fun c2 => ?_)
        · tm_at "go"
          refine ⟨_, hl, zl, Same.updF sm3 hD, ?_⟩
          rw [upd_same, numL_succ, List.filter_append, List.filter_cons_of_pos (by rw [hf0]; simp [c, c2]), natV_app]
          rfl
        · refine ⟨sm3, ?_⟩
          rw [numL_succ, List.filter_append, List.filter_cons_of_neg (by rw [hf0]; simp [c2]), List.filter_nil, List.append_nil]
          exact hl
      · refine ⟨sm3, ?_⟩
        rw [numL_succ, List.filter_append, List.filter_cons_of_neg (by rw [hf0]; simp [c]), List.filter_nil, List.append_nil]
        exact hl
    rintro G ⟨sm, hl⟩
    obtain ⟨M', eM⟩ := com_last (n := n) p1 (f0 := f0) fun d => by rw [hf0]; simp
    rw [eM] at hl
    have g1 : 1 ≤ Nat.gcd n p := Nat.gcd_pos_of_pos_right _ p1
    generalize Nat.gcd n p = g at hl g1 k
    tm_at "go"
    refine r_ixL (SqL.of hl) (atI_snoc M' g) ?_
    refine r_mod (by omega) ?_
    tm_at "go"
    refine r_eq rfl ?_
    rw [show ((0 : Int)) = ((0 : Nat) : Int) from rfl, modE]
    exact k _ sm
def spDiv (K : PySem.W.Frag) : Sp := fun vs H Q _ => ∃ (t l1 l2 : Addr) (L R : List Nat) (s p n : Nat), vs = [.ref t, .int (n : Int)] ∧ H t = some (.tup [.ref l1, .int (s : Int), .int (p : Int), .ref l2]) ∧ H l1 = some (.lst (natV L)) ∧ H l2 = some (.lst (natV R)) ∧
  1 ≤ s ∧ s ≤ 100 ∧ 1 ≤ p ∧ p ≤ 100 ∧ (∀ m ∈ L, 1 ≤ m ∧ m < s) ∧ (∀ r ∈ R, r < p) ∧ L.length ≤ 1000 ∧ R.length ≤ 1000 ∧ 1 ≤ n ∧ ∀ (b : Bool) H', (b = true ↔ DivOf (hasN L s p R) n) → Same H H' → Q (.bl b) H'
theorem ok_divides (F : DefAt K mg "_law_divides" s_law_divides) (T : Txt K mg aGround aNum aInv) (D_law_common_divides : DefOk P w K mg base CX0 1 "_law_common_divides" ["_law_number", "_law_period", "_law_rest"] spCom) : DefOk P w K mg base CX0 2 "_law_divides" ["_law_given", "_law_number"] (spDiv K) := by
  refine F.ok sc_law_divides (fun _ _ _ _ _ _ us hl => match us, hl with | [_, _], _ => rfl) (fun vs H Q E h => ?_) (fun f cdv A outer s H vs Q E hr h => ?_)
  · obtain ⟨t, l1, l2, L, R, s0, p, n, rfl, _⟩ := h
    rfl
  · obtain ⟨t, l1, l2, L, R, s0, p, n, rfl, ht, hl1, hl2, s1, s9, p1, p9, hL, hR, zL, zR, n1, k⟩ := h
    have ediv := divOf_iff s1 p1 n1 hL hR
    refine ⟨_, (pss_cons (ps_asg (pv 0) (pg_t (n := 4) K rfl (pgs_cons (pg_name (i := 3) sc_law_divides.nd rfl (Or.inl rfl)) (pgs_cons (pg_name (i := 4) sc_law_divides.nd rfl (Or.inl rfl)) (pgs_cons (pg_name (i := 5) sc_law_divides.nd rfl (Or.inr rfl)) (pgs_cons (pg_name (i := 6) sc_law_divides.nd rfl (Or.inl rfl)) pgs_nil))))))
  (pss_cons (ps_if (pt_cmpR (o_ne K hr.units) (pe_lc (own := [("_law_one", 8)]) (g := (gName 8)) rfl sc_law_divides.nd (pi_l K (pv 3)) (blkOk_by (own := [("_law_one", 8)]) (N := ["_law_given", "_law_number", "_law_start", "_law_ones", "_law_since", "_law_period", "_law_rests", "_law_met", "_law_one", "_law_turn", "_law_rest"]) (sc := defScope s_law_divides) (by decide +kernel)) (fun _ _ _ _ _ => (pg_name (i := 8) sc_law_divides.nd rfl (Or.inl rfl) (Or.inr rfl))) (fun _ _ _ _ _ => (pts_one (pt_cmpR (o_eq K hr.units) (pe_op o_mod (pv 8) (pv 1)) pe_int (nomark _)))) (fun _ _ _ _ _ => (pv 8))) (pe_lst pa_nil) (nomark _)) (pss_one (ps_ret pe_bl))
  pss_nil)
  (pss_cons (ps_if (pt_cmpR o_gt (pv 1) pe_int (nomark _)) (pss_one (ps_ret (pe_cmpR (o_ne K hr.units) (pe_lc (own := [("_law_rest", 10)]) (g := (gName 10)) rfl sc_law_divides.nd (pi_l K (pv 6)) (blkOk_by (own := [("_law_rest", 10)]) (N := ["_law_given", "_law_number", "_law_start", "_law_ones", "_law_since", "_law_period", "_law_rests", "_law_met", "_law_one", "_law_turn", "_law_rest"]) (sc := defScope s_law_divides) (by decide +kernel)) (fun _ _ _ _ _ => (pg_name (i := 10) sc_law_divides.nd rfl (Or.inl rfl) (Or.inr rfl))) (fun _ _ _ _ _ => (pts_one (pt_tr K (pe_callD D_law_common_divides (hr.mono (by decide)) pass0 rfl (pa_cons (pv 1) (pa_cons (pv 5) (pa_cons (pv 10) pa_nil))))))) (fun _ _ _ _ _ => (pv 10))) (pe_lst pa_nil) (nomark _))))
  pss_nil)
  (pss_cons (ps_for PassesOwn.never rfl (pi_range2 (by rfl) T.n_range (pa_cons (pv 4) (pa_cons (pe_op (o_add K) (pv 4) (pv 5)) pa_nil))) (pg_name (i := 2) sc_law_divides.nd rfl (Or.inr rfl))
  (pss_cons (ps_setLc (i := 7) rfl sc_law_divides.nd rfl rfl (sw_true rfl rfl rfl (by decide +kernel)) (own := [("_law_turn", 9)]) (g := (gName 9)) (pi_range1 (by rfl) T.n_range (pa_cons (pv 1) pa_nil)) (blkOk_by (own := [("_law_turn", 9)]) (N := ["_law_given", "_law_number", "_law_start", "_law_ones", "_law_since", "_law_period", "_law_rests", "_law_met", "_law_one", "_law_turn", "_law_rest"]) (sc := defScope s_law_divides) (by decide +kernel)) (fun _ _ _ _ _ => (pg_name (i := 9) sc_law_divides.nd rfl (Or.inl rfl) (Or.inr rfl))) (fun _ _ _ _ _ => (pts_one (pt_cmpR (o_eq K hr.units) (pe_op o_mod (pe_op (o_add K) (pv 2) (pe_op o_mul (pv 9) (pv 5))) (pv 1)) pe_int (nomark _)))) (fun _ _ _ _ _ => pe_int))
  (pss_one (ps_if (PW.pt (pw_and (pt_cmpR (o_in K) (pe_op o_mod (pv 2) (pv 5)) (pv 6) rfl) (pw_and1 (pt_cmpR (o_ne K hr.units) (pv 7) (pe_lst pa_nil) (nomark _))))) (pss_one (ps_ret pe_bl))
  pss_nil))))
  (pss_one (ps_ret pe_bl)))))), ?_⟩
    tm_at "go"
    refine r_gT (SqT.of ht) rfl ?_
    tm_at "go"
    refine ⟨l1, rfl, ⟨_, SqL.of hl1⟩, fun D hD => ?_⟩
    refine lc_it (walk_list (xs := natV L)) (fun i H' => Same H H' ∧ H' D = some (.lst (natV ((L.take i).filter fun m => decide (m % n = 0))))) ⟨same_new hD, upd_same⟩ (fun i H' _ q => SqL.of (q.1 _ _ hl1)) ?_ ?_
    · rintro i y H1 H2 hi ⟨sm, hl⟩ ⟨rfl, hy⟩
      obtain ⟨m, hm, rfl⟩ := natV_at hy
      tm_at "go"
      refine ⟨rfl, ?_⟩
      tm_at "go"
      refine r_mod (by omega) ?_
      tm_at "go"
      refine r_eq rfl ?_
      tm_at "go"
      rw [show ((0 : Int)) = ((0 : Nat) : Int) from rfl, modE]
      refine r_id (fun c => ?_) (fun c => ?_)
      · tm_at "go"
        refine ⟨_, hl, ?_, Same.updF sm hD, ?_⟩
        · rw [List.length_map]
          exact szlt (Nat.ble_eq_true_of_le (Nat.le_trans (List.length_filter_le ..) (Nat.le_trans (List.length_take_le' ..) (by omega))))
        · rw [upd_same, take_succ hm, List.filter_append, List.filter_cons_of_pos (p := fun m => decide (m % n = 0)) (decide_eq_true c), natV_app]
          rfl
      · refine ⟨sm, ?_⟩
        rw [take_succ hm, List.filter_append, List.filter_cons_of_neg (p := fun m => decide (m % n = 0)) (by rw [decide_eq_false c]; exact Bool.false_ne_true), List.filter_nil, List.append_nil]
        exact hl
    rintro G ⟨sm, hl⟩
    rw [show (natV L).length = L.length from List.length_map .., List.take_length] at hl
    have eM : ((L.filter fun m => decide (m % n = 0)).isEmpty = false) ↔ ∃ m ∈ L, n ∣ m := by
      rw [List.isEmpty_eq_false_iff_exists_mem]
      constructor
      · rintro ⟨m, hm⟩
        rw [List.mem_filter, decide_eq_true_eq] at hm
        exact ⟨m, hm.1, Nat.dvd_of_mod_eq_zero hm.2⟩
      · rintro ⟨m, hm, hd⟩
        exact ⟨m, List.mem_filter.mpr ⟨hm, decide_eq_true (Nat.mod_eq_zero_of_dvd hd)⟩⟩
    generalize (L.filter fun m => decide (m % n = 0)) = M at hl eM
    tm_at "go"
    refine r_neNil hl fun H2 sm2 => ?_
    tm_at "go"
    replace sm := sm.trans sm2
    clear hl sm2 hD
    refine r_ite (fun c => ?_) (fun c => ?_)
    · tm_at "go"
      refine k _ _ ⟨fun _ => ediv.mpr (.inl (eM.mp (by simpa using c))), fun _ => rfl⟩ sm
    have no : ¬ ∃ m ∈ L, n ∣ m := fun z => by rw [eM.mpr z] at c; cases c
    clear c eM
    have ediv : DivOf (hasN L s0 p R) n ↔ ∃ r ∈ R, Nat.gcd n p ∣ r := ediv.trans ⟨fun z => z.resolve_left no, .inr⟩
    clear no
    tm_at "go"
    replace hl2 := sm _ _ hl2
    clear hl1 ht
    refine r_id (fun c => ?_) (fun c => ?_)
    · tm_at "go"
      refine ⟨l2, rfl, ⟨_, SqL.of hl2⟩, fun D hD => ?_⟩
      refine lc_it (walk_list (xs := natV R)) (fun i H' => Same H2 H' ∧ H' D = some (.lst (natV ((R.take i).filter fun r => decide (r % Nat.gcd n p = 0))))) ⟨same_new hD, upd_same⟩ (fun i H' _ q => SqL.of (q.1 _ _ hl2)) ?_ ?_
      · rintro i y H3 H4 hi ⟨sm3, hl⟩ ⟨rfl, hy⟩
        obtain ⟨r, hr', rfl⟩ := natV_at hy
        tm_at "go"
        refine ⟨rfl, ?_⟩
        tm_at "go"
        refine ⟨n, p, r, rfl, n1, p1, p9, fun H5 sm5 => ?_⟩
        tm_at "go"
        replace sm3 := sm3.trans sm5
        replace hl := sm5 _ _ hl
        refine r_id (fun c => ?_) (fun c => ?_)
        · tm_at "go"
          refine ⟨_, hl, ?_, Same.updF sm3 hD, ?_⟩
          · rw [List.length_map]
            exact szlt (Nat.ble_eq_true_of_le (Nat.le_trans (List.length_filter_le ..) (Nat.le_trans (List.length_take_le' ..) (by omega))))
          · rw [upd_same, take_succ hr', List.filter_append, List.filter_cons_of_pos (p := fun r => decide (r % Nat.gcd n p = 0)) (decide_eq_true c), natV_app]
            rfl
        · refine ⟨sm3, ?_⟩
          rw [take_succ hr', List.filter_append, List.filter_cons_of_neg (p := fun r => decide (r % Nat.gcd n p = 0)) (by rw [decide_eq_false c]; exact Bool.false_ne_true), List.filter_nil, List.append_nil]
          exact hl
      rintro G ⟨sm3, hl⟩
      rw [show (natV R).length = R.length from List.length_map .., List.take_length] at hl
      tm_at "go"
      refine r_neNil hl fun H3 sm4 => ?_
      refine k _ _ ?_ ((sm.trans sm3).trans sm4)
      rw [ediv, Bool.not_eq_true', List.isEmpty_eq_false_iff_exists_mem]
      constructor
      · rintro ⟨m, hm⟩
        rw [List.mem_filter, decide_eq_true_eq] at hm
        exact ⟨m, hm.1, Nat.dvd_of_mod_eq_zero hm.2⟩
      · rintro ⟨m, hm, hd⟩
        exact ⟨m, List.mem_filter.mpr ⟨hm, decide_eq_true (Nat.mod_eq_zero_of_dvd hd)⟩⟩
    · tm_at "go"
      refine ⟨_, _, rfl, ⟨by omega, by omega, by omega, by omega⟩, ?_⟩
      rw [show ((s0 : Int) + (p : Int) - (s0 : Int)).toNat = p by omega]
      refine for_range (lo := (s0 : Int)) (n := p) (fun i σ H' => (∃ o2 o7 o8 o9 o10 : Option V, σ = [some (.ref t), some (.int (n : Int)), o2, some (.ref l1), some (.int (s0 : Int)), some (.int (p : Int)), some (.ref l2), o7, o8, o9, o10]) ∧ Same H2 H' ∧
        ∀ j, j < i → (s0 + j) % p ∈ R → ¬ Nat.gcd n p ∣ s0 + j) ⟨⟨_, _, _, _, _, rfl⟩, Same.refl, fun j z => by omega⟩ ?_ ?_
      · rintro i σ H3 hi ⟨⟨o2, o7, o8, o9, o10, rfl⟩, sm3, hno⟩
        rw [show (s0 : Int) + (i : Int) = ((s0 + i : Nat) : Int) by omega]
        generalize hst : s0 + i = st
        tm_at "go"
        refine ⟨_, rfl, by omega, by omega, fun D hD => ?_⟩
        rw [Int.toNat_natCast]
        refine lc_range (fun j H' => Same H3 H' ∧ ∃ M : List Nat, H' D = some (.lst (natV M)) ∧ M.length ≤ j ∧ (M.isEmpty = false ↔ ∃ u, u < j ∧ (st + u * p) % n = 0)) ⟨same_new hD, [], upd_same, Nat.le_refl _, ⟨fun z => (nomatch z), fun ⟨u, z, _⟩ => by omega⟩⟩ ?_ ?_
        · rintro j H4 hj ⟨sm4, M, hl, zM, hM⟩
          rw [show (0 : Int) + (j : Int) = (j : Int) by omega]
          tm_at "go"
          refine ⟨rfl, ?_⟩
          tm_at "go"
          refine r_mul (cmulR ⟨by omega, by omega⟩) ?_
          tm_at "go"
          refine r_mod (by omega) ?_
          tm_at "go"
          refine r_eq rfl ?_
          rw [show (st : Int) + (j : Int) * (p : Int) = ((st + j * p : Nat) : Int) by rw [Int.natCast_add, Int.natCast_mul], show ((0 : Int)) = ((0 : Nat) : Int) from rfl, modE]
          tm_at "go"
          refine r_id (fun c => ?_) (fun c => ?_)
          · tm_at "go"
            refine ⟨_, hl, szlt (by rw [List.length_map]; exact Nat.ble_eq_true_of_le (by omega)), Same.updF sm4 hD, M ++ [1], by rw [upd_same, natV_app]; rfl, by rw [List.length_append]; exact Nat.succ_le_succ zM, ?_⟩
            exact ⟨fun _ => ⟨j, by omega, c⟩, fun _ => by cases M <;> rfl⟩
          · refine ⟨sm4, M, hl, by omega, hM.trans ⟨fun ⟨u, h1, h2⟩ => ⟨u, by omega, h2⟩, fun ⟨u, h1, h2⟩ => ⟨u, ?_, h2⟩⟩⟩
            by_cases e : u = j
            · subst e; exact absurd h2 c
            · omega
        rintro H4 ⟨sm4, M, hl, zM, hM⟩
        have hg : (∃ u, u < n ∧ (st + u * p) % n = 0) ↔ Nat.gcd n p ∣ st := ⟨fun ⟨u, _, h⟩ => reach_gcd h, fun h => reach_lt n1 h⟩
        rw [hg] at hM
        replace sm3 := sm3.trans sm4
        clear sm4 hD hg
        tm_at "go"
        refine r_mod (by omega) ?_
        tm_at "go"
        rw [show (st : Int) % (p : Int) = ((st % p : Nat) : Int) from (Int.natCast_emod ..).symm]
        refine r_inQ (.inl (SqL.of (sm3 _ _ hl2))) rfl (flat_nats _) ?_
        rw [inV_nat]
        tm_at "go"
        refine r_ite (fun c => ?_) (fun c => ?_)
        · tm_at "go"
          refine r_neNil hl fun H5 sm5 => ?_
          tm_at "go"
          replace sm3 := sm3.trans sm5
          clear sm5 hl
          refine r_ite (fun c2 => ?_) (fun c2 => ?_)
          · tm_at "go"
            refine k _ _ ⟨fun _ => ediv.mpr ⟨st % p, con_iff.mp c, gcd_mod.mpr (hM.mp (by simpa using c2))⟩, fun _ => rfl⟩ (sm.trans sm3)
          · tm_at "go"
            refine ⟨⟨_, _, _, _, _, rfl⟩, sm3, fun j hj hr2 hd => ?_⟩
            by_cases e : j = i
            · subst e
              rw [hst] at hd
              rw [hM.mpr hd] at c2
              cases c2
            · exact hno j (by omega) hr2 hd
        · tm_at "go"
          refine ⟨⟨_, _, _, _, _, rfl⟩, sm3, fun j hj hr2 hd => ?_⟩
          by_cases e : j = i
          · subst e
            rw [hst] at hr2
            rw [con_iff.mpr hr2] at c
            cases c
          · exact hno j (by omega) hr2 hd
      · rintro σ H3 ⟨⟨o2, o7, o8, o9, o10, rfl⟩, sm3, hno⟩
        tm_at "go"
        refine k _ _ ⟨fun z => (nomatch z), fun z => ?_⟩ (sm.trans sm3)
        obtain ⟨r, hr1, hd⟩ := ediv.mp z
        have rp := hR r hr1
        -- the start of the round with this rest
        obtain ⟨j, hj, ej⟩ : ∃ j, j < p ∧ (s0 + j) % p = r := by
          refine ⟨(r + (p - s0 % p)) % p, Nat.mod_lt _ p1, ?_⟩
          have := Nat.mod_lt s0 p1
          rw [Nat.add_mod_mod]
          have e := Nat.mod_add_div s0 p
          have e2 : s0 + (r + (p - s0 % p)) = r + p * (s0 / p + 1) := by
            rw [Nat.mul_add, Nat.mul_one]; omega
          rw [e2, Nat.add_mul_mod_self_left, Nat.mod_eq_of_lt rp]
        have hd2 : Nat.gcd n p ∣ s0 + j := gcd_mod.mp (by rw [ej]; exact hd)
        exact absurd hd2 (hno j hj (by rw [ej]; exact hr1))
end
def spLaw (K : PySem.W.Frag) : Sp := fun vs H Q _ => ∃ (a : Addr) (ns : List Int), vs = [.ref a] ∧ SqL K H a (ns.map V.int) ∧ ns.length ≤ 63 ∧ ∀ H', Q (.bl true) H'
theorem ends_gen {t : TS} {D : Ends} {σ : St} {H : Hp} (h : ∀ D' : Ends, D'.nx = D.nx → D'.rt = D.rt → t D' σ H) : t D σ H := h D rfl rfl
def ArgB (b : Addr) (H : Hp) (t : Addr) (L : List Nat) (s p : Nat) (R : List Nat) : Prop := ∃ l1 l2, H t = some (.tup [.ref l1, .int (s : Int), .int (p : Int), .ref l2]) ∧ H l1 = some (.lst (natV L)) ∧ H l2 = some (.lst (natV R)) ∧ t ≠ b ∧ l1 ≠ b ∧ l2 ≠ b
theorem ArgB.bx {b : Addr} {H H' : Hp} {t : Addr} {L R : List Nat} {s p : Nat} (e : Bx b H H') (h : ArgB b H t L s p R) : ArgB b H' t L s p R := by
  obtain ⟨l1, l2, x, y, z, n1, n2, n3⟩ := h
  exact ⟨l1, l2, e.keep _ _ n1 x, e.keep _ _ n2 y, e.keep _ _ n3 z, n1, n2, n3⟩
theorem ArgB.mono {b : Addr} {H H' : Hp} {t : Addr} {L R : List Nat} {s p : Nat} (e : Same H H') (h : ArgB b H t L s p R) : ArgB b H' t L s p R := by
  obtain ⟨l1, l2, x, y, z, n1, n2, n3⟩ := h
  exact ⟨l1, l2, e _ _ x, e _ _ y, e _ _ z, n1, n2, n3⟩
theorem NumAt.bx {b : Addr} {H H' : Hp} {x : Addr} {L R : List Nat} {s p : Nat} (e : Bx b H H') (hb : BoxAt H b) (h : NumAt aNum H x L s p R) : NumAt aNum H' x L s p R := by
  obtain ⟨dx, a1, a2, h1, h2, h3⟩ := h
  exact ⟨dx, a1, a2, e.keep _ _ (hb.ne h1 fun _ _ _ z => nomatch z) h1, e.keep _ _ (hb.ne h2 fun _ _ _ z => nomatch z) h2, e.keep _ _ (hb.ne h3 fun _ _ _ z => nomatch z) h3⟩
section
variable {K : PySem.W.Frag} {e1 e2 : Addr}
set_option maxHeartbeats 4000000 in
theorem ok_law (F : DefAt K mg "law" s_law) (T : Txt K mg aGround aNum aInv) (D_law_box : DefOk P w K mg base CX0 1 "_law_box" ["_law_script", "_law_k", "_law_own"] (spBox K)) (D_law_take : DefOk P w K mg base CX0 1 "_law_take" ["_law_box_here", "_law_many"] spTake)
    (D_law_some : DefOk P w K mg base CX0 3 "_law_some" ["_law_box_here", "_law_most"] (spSome K)) (D_law_divides : DefOk P w K mg base CX0 2 "_law_divides" ["_law_given", "_law_number"] (spDiv K))
    (M_Numbers : MakeOk P w K mg base (L2.CX P w) 4 "Numbers" aNum ["self", "listed", "since", "period", "rests"] [] (spNumI K aNum aInv))
    (M_Numbers_0 : MakeOk P w K mg base (L2.CX P w) 4 "Numbers" aNum ["self", "listed", "since", "period", "rests"] [.ref e1, .int 1, .int 1, .ref e2] (spNumI K aNum aInv)) (te1 : ∀ H, SqT K H e1 []) (te2 : ∀ H, SqT K H e2 [])
    (M_Numbers_every : CmOk P w K mg base CX0 6 aNum "every" "Numbers.every" s_Numbers_every ["cls"] (spEvery aNum)) (M_Numbers_multiples : CmOk P w K mg base CX0 6 aNum "multiples" "Numbers.multiples" s_Numbers_multiples ["cls", "number"] (spMult aNum))
    (M_Numbers__contains : MetOk P w K mg base CX0 2 aNum "__contains__" ["self", "value"] (spHas K aNum)) (M_Numbers__eq : MetOk P w K mg base CX0 1 aNum "__eq__" ["self", "other"] (spEqN K aNum)) (M_Numbers__bool : MetOk P w K mg base CX0 1 aNum "__bool__" ["self"] (spBoolN aNum))
    (M_Numbers__le : MetOk P w K mg base CX0 7 aNum "__le__" ["self", "other"] (spSub aNum fun f g => within f g)) (M_Numbers_dividing : MetOk P w K mg base CX0 6 aNum "dividing" ["self"] (spDvd aNum)) :
    DefG P w K mg base CX0 9 "law" ["_law_script"] (spLaw K) := by
  refine F.okG sc_law (fun _ _ _ _ _ _ us hl => match us, hl with | [_], _ => rfl) (fun vs H Q E h => ?_) (fun f cdv A outer s H vs Q E hgd hr h => ?_)
  · obtain ⟨a, ns, rfl, _⟩ := h
    rfl
  · obtain ⟨a, ns, rfl, hS, nl, k⟩ := h
    refine ⟨_, (pss_cons (ps_for PassesOwn.never rfl (pi_range1 (by rfl) T.n_range (pa_cons (pe_callB (c_max2 rfl) (by rfl) T.n_max (by decide +kernel) (pa_cons pe_int (pa_cons (pe_callB (c_min2 rfl) (by rfl) T.n_min (by decide +kernel) (pa_cons pe_int (pa_cons (pe_callB (c_len K) (by rfl) T.n_len (by decide +kernel) (pa_cons (pv 0) pa_nil)) pa_nil))) pa_nil))) pa_nil)) (pg_name (i := 1) sc_law.nd rfl (Or.inl rfl))
  (pss_cons (ps_set (i := 2) sc_law.nd rfl (Or.inr rfl) (pe_callD D_law_box (hr.mono (by decide)) pass0 rfl (pa_cons (pv 0) (pa_cons (pv 1) (pa_cons pe_int pa_nil)))))
  (pss_cons (ps_set (i := 3) sc_law.nd rfl (Or.inl rfl) (pe_callD D_law_some (hr.mono (by decide)) pass0 rfl (pa_cons (pv 2) (pa_cons pe_int pa_nil))))
  (pss_cut (ps_if (pt_cmpR (o_eq K hr.units) (pe_callD D_law_take (hr.mono (by decide)) pass0 rfl (pa_cons (pv 2) (pa_cons pe_int pa_nil))) pe_int (nomark _)) (pss_one (ps_set (i := 3) sc_law.nd rfl (Or.inl rfl) (pe_tup (pa_cons (pe_lc (own := [("_law_turn", 8)]) (g := (gName 8)) rfl sc_law.nd (pi_range1 (by rfl) T.n_range (pa_cons (pe_callD D_law_take (hr.mono (by decide)) pass0 rfl (pa_cons (pv 2) (pa_cons pe_int pa_nil))) pa_nil)) (blkOk_by (own := [("_law_turn", 8)]) (N := ["_law_script", "_law_k", "_law_box_here", "_law_given", "_law_some_here", "_law_found", "_law_far", "_law_number", "_law_turn"]) (sc := defScope s_law) (by decide +kernel)) (fun _ _ _ _ _ => (pg_name (i := 8) sc_law.nd rfl (Or.inl rfl) (Or.inr rfl))) (fun _ _ _ _ _ => pts_nil) (fun _ _ _ _ _ => (pe_op (o_add K) pe_int (pe_callD D_law_take (hr.mono (by decide)) pass0 rfl (pa_cons (pv 2) (pa_cons pe_int pa_nil)))))) (pa_cons pe_int (pa_cons (pe_ix (ix_u K) (pv 3) pe_int (fun _ _ => rfl)) (pa_cons (pe_ix (ix_u K) (pv 3) pe_int (fun _ _ => rfl)) pa_nil)))))))
  pss_nil)
  (pss_cons (ps_set (i := 4) sc_law.nd rfl (Or.inl rfl) (pe_makeD M_Numbers (hr.mono (by decide)) passF rfl (pa_cons (pe_ix (ix_u K) (pv 3) pe_int (fun _ _ => rfl)) (pa_cons (pe_ix (ix_u K) (pv 3) pe_int (fun _ _ => rfl)) (pa_cons (pe_ix (ix_u K) (pv 3) pe_int (fun _ _ => rfl)) (pa_cons (pe_ix (ix_u K) (pv 3) pe_int (fun _ _ => rfl)) pa_nil))))))
  (pss_cons (ps_set (i := 5) sc_law.nd rfl (Or.inl rfl) (pe_metD0 M_Numbers_dividing (hr.mono (by decide)) pass0 (pv 4)))
  (pss_cons (ps_setLc (i := 6) rfl sc_law.nd rfl rfl (sw_true rfl rfl rfl (by decide +kernel)) (own := [("_law_turn", 8)]) (g := (gName 8)) (pi_range1 (by rfl) T.n_range (pa_cons pe_int pa_nil)) (blkOk_by (own := [("_law_turn", 8)]) (N := ["_law_script", "_law_k", "_law_box_here", "_law_given", "_law_some_here", "_law_found", "_law_far", "_law_number", "_law_turn"]) (sc := defScope s_law) (by decide +kernel)) (fun _ _ _ _ _ => (pg_name (i := 8) sc_law.nd rfl (Or.inl rfl) (Or.inr rfl))) (fun _ _ _ _ _ => pts_nil) (fun _ _ _ _ _ => (pe_op (o_add K) (pe_op o_pow pe_int pe_int) (pe_callD D_law_take (hr.mono (by decide)) pass0 rfl (pa_cons (pv 2) (pa_cons (pe_op o_pow pe_int pe_int) pa_nil))))))
  (pss_cons (ps_for PassesOwn.never rfl (pi_l K (pe_op (o_add K) (pe_listRg rfl (by rfl) T.n_list (prg_2 (by rfl) T.n_range pe_int pe_int)) (pv 6))) (pg_name (i := 7) sc_law.nd rfl (Or.inl rfl))
  (pss_one (ps_if (pt_cmpR (o_ne K hr.units) (pe_cmpR (o_inOwn M_Numbers__contains (hr.mono (by decide)) pass0) (pv 7) (pv 5) rfl) (pe_callD D_law_divides (hr.mono (by decide)) pass0 rfl (pa_cons (pv 3) (pa_cons (pv 7) pa_nil))) (nomark _)) (pss_one (ps_ret pe_bl))
  pss_nil)))
  (pss_cons (ps_if (PW.pt (pw_or (pt_cmpR (o_neOwn M_Numbers__eq T.ne_Numbers T.ob_Numbers hr.units (hr.mono (by decide))) (pe_metD0 M_Numbers_dividing (hr.mono (by decide)) pass0 (pv 5)) (pv 5) (nomark _)) (pw_or (pt_not (pt_cmpR (o_cmpAny M_Numbers__le K (hu0_of hr) (hr.mono (by decide)) pass0) (pv 4) (pv 5) (nomark _))) (pw_or1 (pt_cmpR (o_ne K hr.units) (pe_callTy (c_boolOwn M_Numbers__bool (hr.mono (by decide))) (by rfl) T.n_bool (by decide +kernel) (pa_cons (pv 5) pa_nil)) (pe_callTy (c_boolOwn M_Numbers__bool (hr.mono (by decide))) (by rfl) T.n_bool (by decide +kernel) (pa_cons (pv 4) pa_nil)) (nomark _)))))) (pss_one (ps_ret pe_bl))
  pss_nil)
  (pss_one (ps_if (PW.pt (pw_or (pt_cut (PW.pt (pw_and (pt_own M_Numbers__bool (hr.mono (by decide)) pass0 (pv 4)) (pw_and1 (pt_cmpR (o_notInOwn M_Numbers__contains (hr.mono (by decide)) pass0) pe_int (pv 5) rfl))))) (pw_or1 (pt_cmpR (o_neOwn M_Numbers__eq T.ne_Numbers T.ob_Numbers hr.units (hr.mono (by decide))) (pe_metD0 M_Numbers_dividing (hr.mono (by decide)) pass0 (pe_cm M_Numbers_multiples (hr.mono (by decide)) pass0 (pe_gR rfl T.m_Numbers) (pa_cons (pe_op (o_add K) pe_int (pe_callD D_law_take (hr.mono (by decide)) pass0 rfl (pa_cons (pv 2) (pa_cons pe_int pa_nil)))) pa_nil))) (pe_cm0 M_Numbers_every (hr.mono (by decide)) pass0 (pe_gR rfl T.m_Numbers)) (nomark _))))) (pss_one (ps_ret pe_bl))
  pss_nil)))))))))))
  (pss_one (ps_ret (pe_notO M_Numbers__bool (hr.mono (by decide)) pass0 (pe_metD0 M_Numbers_dividing (hr.mono (by decide)) pass0 (pe_makeD0 M_Numbers_0 (hr.mono (by decide)) passF rfl)))))), ?_⟩
    tm_at "go"
    refine ⟨_, rfl, by split <;> split <;> omega, by split <;> split <;> omega, for_range (lo := 0) (n := _)
      (fun i σ H' => (∃ o1 o2 o3 o4 o5 o6 o7 o8 : Option V, σ = [some (.ref a), o1, o2, o3, o4, o5, o6, o7, o8]) ∧ Same H H') ⟨⟨_, _, _, _, _, _, _, _, rfl⟩, Same.refl⟩ ?_ ?_⟩
    rotate_left
    · rintro σ H' ⟨⟨o1, o2, o3, o4, o5, o6, o7, o8, rfl⟩, sm⟩
      tm_at "go"
      refine r_notO ?_
      tm_at "go"
      refine r_num (L := []) (R := []) (s := 1) (p := 1) (.inr (te1 _)) (.inr (te2 _)) (by decide) (by decide) (by decide) (by decide) (fun n hn => nomatch hn) (fun n hn => nomatch hn) (by decide) (by decide) fun x M W z q H7 F1 zs' _ qp e1' sn hx0 hX => ?_
      tm_at "go"
      obtain ⟨dx, a1, a2, hx, -⟩ := id hX
      refine r_obj (a := x) hx rfl ?_
      tm_at "go"
      clear hx dx a1 a2
      refine ⟨x, M, W, z, q, rfl, hX, F1, by omega, by omega, fun y M' W' z' q' H8 F2 zs'' qp' e2' sn hy0 hY => ?_⟩
      tm_at "go"
      obtain ⟨dy, c1, c2, hy, -⟩ := id hY
      refine r_truO hy ⟨y, M', W', z', q', rfl, hY, _, rfl, ?_⟩
      have e0 : decide (0 < M'.length + W'.length) = false := (empty_iff F2).mpr fun n hn => by
        rw [Bool.eq_false_iff]
        intro c
        obtain ⟨m, m1, h, -⟩ := (e2' n hn).mp c
        rw [e1' m m1] at h
        unfold hasN at h
        split at h <;> cases h
      rw [e0]
      exact k _
    · rintro i σ H0 hi ⟨⟨o1, o2, o3, o4, o5, o6, o7, o8, rfl⟩, sm0⟩
      have hi4 : i < 64 := by
        have : (if (if (↑(List.map V.int ns).length : Int) < 3 then (↑(List.map V.int ns).length : Int) else 3) > 1 then
              if (↑(List.map V.int ns).length : Int) < 3 then (↑(List.map V.int ns).length : Int) else 3 else 1) ≤ 3 := by split <;> split <;> omega
        omega
      tm_at "r2"
      refine ends_gen fun DD hnx _ => ?_
      tm_at "go"
      refine ⟨a, ns, _, 8, rfl, Same.seqL sm0 hS, by omega, by omega, by decide, by decide, by omega, fun b H1 hb0 hx1 => ?_⟩
      have hb : H b = Option.none := Same.free sm0 hb0
      have sm1 : Same H H1 := Same.bx sm0 hx1 hb
      have bx1 := hx1.box
      clear sm0 hx1 hb0
      tm_at "go"
      refine ⟨b, 16, rfl, bx1, by omega, by omega, fun t1 l1 l2 L R sc p H2 hx ht0 hl10 hl20 ht hl1 hl2 s1 s2 p1 p2 aL aR => ?_⟩
      have A1 : ArgB b H2 t1 L sc p R := ⟨l1, l2, ht, hl1, hl2, Ne.symm (bx1.fresh ht0), Ne.symm (bx1.fresh hl10), Ne.symm (bx1.fresh hl20)⟩
      have sm2 := Same.bx sm1 hx hb
      have bx2 := hx.box
      clear hx sm1 bx1 ht0 hl10 hl20 ht hl1 hl2 l1 l2
      tm_at "go"
      refine r_cut (fun σ' H' => ∃ (t1 : Addr) (L : List Nat) (sc : Nat), σ' = [some (.ref a), some (.int (0 + (i : Int))), some (.ref b), some (.ref t1), o4, o5, o6, o7, o8] ∧ Same H H' ∧ BoxAt H' b ∧ ArgB b H' t1 L sc p R ∧
        1 ≤ sc ∧ sc ≤ 90 ∧ (∀ m ∈ L, 1 ≤ m ∧ m < sc) ∧ L.length ≤ 100) ?_ ?_
      · tm_at "go"
        refine r_take bx2 (by decide) (by decide) fun j H3 j0 j1 hx => ?_
        have sm3 := Same.bx sm2 hx hb
        have bx3 := hx.box
        replace A1 := A1.bx hx
        clear hx sm2 bx2
        tm_at "go"
        refine r_eq rfl ?_
        tm_at "go"
        refine r_id (fun _ => ?_) (fun _ => ?_)
        · tm_at "go"
          refine r_take bx3 (by decide) (by decide) fun c H4 c0 c1 hx => ?_
          have sm4 := Same.bx sm3 hx hb
          have bx4 := hx.box
          replace A1 := A1.bx hx
          clear hx sm3 bx3
          tm_at "go"
          refine ⟨c, rfl, by omega, by omega, fun D hD => ?_⟩
          have nDb : D ≠ b := Ne.symm (bx4.fresh hD)
          obtain ⟨cn, rfl⟩ : ∃ cn : Nat, c = (cn : Int) := ⟨c.toNat, by omega⟩
          rw [Int.toNat_natCast]
          refine lc_range (lo := 0) (fun i H' => Bx b H4 H' ∧ ∃ fs : List Nat, fs.length = i ∧ (∀ n ∈ fs, 1 ≤ n ∧ n < 90) ∧ H' D = some (.lst (natV fs))) ⟨(Bx.refl bx4).upd hD, [], rfl, fun n hn => (nomatch hn), upd_same⟩ ?_ ?_
          · rintro i2 H9 hi2 ⟨hx, fs, lf, pf, hf⟩
            tm_at "go"
            refine ⟨rfl, ?_⟩
            tm_at "go"
            refine r_take hx.box (by decide) (by decide) fun d H10 d0 d1 hx2 => ?_
            have hf2 := hx2.keep _ _ nDb hf
            obtain ⟨n, hn, n1⟩ : ∃ n : Nat, 1 + d = (n : Int) ∧ 1 ≤ n ∧ n < 90 := ⟨(1 + d).toNat, by omega, by omega, by omega⟩
            tm_at "go"
            rw [hn]
            refine ⟨_, hf2, szlt (by rw [List.length_map]; exact Nat.ble_eq_true_of_le (by omega)), (hx.trans hx2).updD hD nDb, fs ++ [n], by rw [List.length_append, lf]; rfl, fun m hm => ?_, by rw [upd_same, natV_app]; rfl⟩
            rcases List.mem_append.mp hm with hm | hm
            · exact pf m hm
            · rw [List.mem_singleton.mp hm]; exact n1
          rintro Hc ⟨hx, fs, lf, pf, hf⟩
          have sm5 := Same.bx sm4 hx hb
          replace A1 := A1.bx hx
          have bx5 := hx.box
          clear hx sm4 bx4 hD
          obtain ⟨q1, q2, h1, h2, h3, n1, n2, n3⟩ := id A1
          tm_at "go"
          refine ⟨szl rfl, fun t2 ht2 => ?_⟩
          have nt2 : t2 ≠ b := Ne.symm (bx5.fresh ht2)
          have s3 := same_new ht2 (o := .tup [.ref D, .int 90, .int (p : Int), .ref q2])
          have hq3 : upd Hc t2 (.tup [.ref D, .int 90, .int (p : Int), .ref q2]) t2 = some (.tup [.ref D, .int 90, .int (p : Int), .ref q2]) := upd_same
          generalize upd Hc t2 (.tup [.ref D, .int 90, .int (p : Int), .ref q2]) = H8 at s3 hq3 ⊢
          tm_at "go"
          exact ⟨t2, fs, 90, rfl, sm5.trans s3, bx5.same s3, ⟨D, q2, hq3, s3 _ _ hf, s3 _ _ h3, nt2, nDb, n3⟩, by decide, by decide, pf, by omega⟩
        · tm_at "go"
          exact ⟨t1, L, sc, rfl, sm3, bx3, A1, s1, by omega, aL.2, by have := aL.len; omega⟩
      clear A1 s1 s2 aL sm2 bx2
      clear L sc t1
      rintro σ5 H3 ⟨t1, L, sc, rfl, sm3, bx3, A1, s1, s2, aL, zL⟩
      obtain ⟨q1, q2, h1, h2, h3, n1, n2, n3⟩ := id A1
      have zR : R.length ≤ 16 := by have := aR.len; omega
      tm_at "go"
      refine r_num (L := L) (R := R) (.inl (SqL.of h2)) (.inl (SqL.of h3)) s1 (by omega) p1 (by omega) aL (fun r hr => (aR.2 r hr).2) (by omega) (by omega) fun x M W z q H7 F1 zs' _ qp e1' sn hx0 hX => ?_
      replace A1 := A1.mono sn
      have sm7 := sm3.trans sn
      have bx7 := bx3.same sn
      clear sn sm3 bx3 hx0 h1 h2 h3 n1 n2 n3 q1 q2
      tm_at "go"
      obtain ⟨dx, a1, a2, hx, -⟩ := id hX
      refine r_obj (a := x) hx rfl ?_
      tm_at "go"
      clear hx dx a1 a2
      refine ⟨x, M, W, z, q, rfl, hX, F1, by omega, by omega, fun y M' W' z' q' H8 F2 zs'' qp' e2' sn hy0 hY => ?_⟩
      replace A1 := A1.mono sn
      replace hX := hX.mono sn
      have sm8 := sm7.trans sn
      have bx8 := bx7.same sn
      clear sn sm7 bx7 hy0
      tm_at "go"
      refine ⟨10, rfl, by decide, by decide, fun D hD => ?_⟩
      have nDb : D ≠ b := Ne.symm (bx8.fresh hD)
      refine lc_range (lo := 0) (fun i H' => Bx b H8 H' ∧ ∃ fs : List Nat, fs.length = i ∧ (∀ n ∈ fs, 1 ≤ n) ∧ H' D = some (.lst (natV fs))) ⟨(Bx.refl bx8).upd hD, [], rfl, fun n hn => (nomatch hn), upd_same⟩ ?_ ?_
      · rintro i2 H9 hi2 ⟨hx, fs, lf, pf, hf⟩
        tm_at "go"
        refine ⟨rfl, ?_⟩
        tm_at "go"
        refine r_take hx.box (by decide) (by decide) fun d H10 d0 d1 hx2 => ?_
        have hf2 := hx2.keep _ _ nDb hf
        obtain ⟨n, hn, n1⟩ : ∃ n : Nat, (10 : Int) ^ (12 : Int).toNat + d = (n : Int) ∧ 1 ≤ n := ⟨((10 : Int) ^ (12 : Int).toNat + d).toNat, by
          have : (0 : Int) < (10 : Int) ^ (12 : Int).toNat := by decide
          omega, by
          have : (0 : Int) < (10 : Int) ^ (12 : Int).toNat := by decide
          omega⟩
        tm_at "go"
        rw [hn]
        refine ⟨_, hf2, szlt (by rw [List.length_map]; exact Nat.ble_eq_true_of_le (by omega)), (hx.trans hx2).updD hD nDb, fs ++ [n], by rw [List.length_append, lf]; rfl, fun m hm => ?_, by rw [upd_same, natV_app]; rfl⟩
        rcases List.mem_append.mp hm with hm | hm
        · exact pf m hm
        · rw [List.mem_singleton.mp hm]; exact n1
      rintro Hc ⟨hx, fs, lf, pf, hf⟩
      replace A1 := A1.bx hx
      replace hX := hX.bx hx bx8
      replace hY := hY.bx hx bx8
      have sm9 := Same.bx sm8 hx hb
      have bx9 := hx.box
      clear hx sm8 bx8 hD nDb
      tm_at "go"
      refine r_listRg2 ?_
      tm_at "go"
      refine ⟨1, 121, rfl, rfl, RgOk.of_le (by decide) (by decide) (by decide) (by decide), fun ql hql => ?_⟩
      rw [show rgV 1 121 = natV (numL 120) from rg_nums 121]
      have sn := same_new hql (o := .lst (natV (numL 120)))
      have hq : upd Hc ql (.lst (natV (numL 120))) ql = some (.lst (natV (numL 120))) := upd_same
      generalize upd Hc ql (.lst (natV (numL 120))) = Hd at sn hq ⊢
      tm_at "go"
      refine r_addL hq (sn _ _ hf) (by rw [List.length_map, List.length_map, numL_len, lf]; exact szl rfl) fun pl hpl => ?_
      rw [← natV_app]
      have sn2 := same_new hpl (o := .lst (natV (numL 120 ++ fs)))
      have hp : upd Hd pl (.lst (natV (numL 120 ++ fs))) pl = some (.lst (natV (numL 120 ++ fs))) := upd_same
      generalize upd Hd pl (.lst (natV (numL 120 ++ fs))) = He at sn2 hp ⊢
      have NS1 : ∀ n ∈ numL 120 ++ fs, 1 ≤ n := fun n hn => by
        rcases List.mem_append.mp hn with hn | hn
        · exact (numL_mem.mp hn).1
        · exact pf n hn
      generalize numL 120 ++ fs = NS at NS1 hp ⊢
      have sA := sn.trans sn2
      replace A1 := A1.mono sA
      replace hX := hX.mono sA
      replace hY := hY.mono sA
      replace sm9 := sm9.trans sA
      replace bx9 := bx9.same sA
      clear sn sn2 hq hql hpl sA hf lf pf
      refine ⟨pl, rfl, ⟨_, SqL.of hp⟩, for_it (walk_list (xs := natV NS)) (fun j σ H' => (∃ o7 o8 : Option V, σ = [some (.ref a), some (.int (0 + (i : Int))), some (.ref b), some (.ref t1), some (.ref x), some (.ref y), some (.ref D), o7, o8]) ∧ Same He H')
        ⟨⟨_, _, rfl⟩, Same.refl⟩ (fun j σ H' _ q => SqL.of (q.2 _ _ hp)) ?_ ?_⟩
      · rintro j v σ H9 H10 hj ⟨⟨o7', o8', rfl⟩, sm⟩ ⟨rfl, hv⟩
        obtain ⟨n, hn, rfl⟩ := natV_at hv
        have n1 := NS1 n (List.mem_of_getElem? hn)
        tm_at "go"
        obtain ⟨dw, c1, c2, hwi, -⟩ := id (hY.mono sm)
        refine r_inOwn hwi ⟨y, .int (n : Int), M', W', z', q', rfl, hY.mono sm, F2.p1, .int _, fun H13 s13 => ⟨_, rfl, ?_⟩⟩
        rw [show inN (.int (n : Int)) M' z' q' W' = hasN M' z' q' W' n from by
          show (decide (0 < (n : Int)) && hasN M' z' q' W' (Int.toNat (n : Int))) = _
          rw [decide_eq_true (show (0 : Int) < (n : Int) by omega), Int.toNat_natCast]
          rfl]
        have smB := sm.trans s13
        obtain ⟨q1, q2, h1, h2, h3, -⟩ := A1.mono smB
        tm_at "go"
        refine ⟨t1, q1, q2, L, R, sc, p, n, rfl, h1, h2, h3, s1, by omega, p1, by omega, aL, fun r hr => (aR.2 r hr).2, by omega, by omega, n1, fun d H12 hd s12 => ?_⟩
        have e : hasN M' z' q' W' n = d := by
          rw [Bool.eq_iff_iff, e2' n n1, hd]
          exact ⟨fun ⟨m, m1, h, h'⟩ => ⟨m, m1, by rw [← e1' m m1]; exact h, h'⟩, fun ⟨m, m1, h, h'⟩ => ⟨m, m1, by rw [e1' m m1]; exact h, h'⟩⟩
        refine r_ne rfl ?_
        tm_at "go"
        rw [e, blNe]
        refine r_ite (fun c => ?_) (fun _ => ?_)
        · rw [bne_self_eq_false] at c
          cases c
        · exact ⟨⟨_, _, rfl⟩, smB.trans s12⟩
      rintro σ9 Hf ⟨⟨o7', o8', rfl⟩, sm⟩
      replace A1 := A1.mono sm
      replace hX := hX.mono sm
      replace hY := hY.mono sm
      replace sm9 := sm9.trans sm
      replace bx9 := bx9.same sm
      clear sm hp NS1 A1
      clear NS
      tm_at "go"
      obtain ⟨dy, c1, c2, hy, -⟩ := id hY
      refine r_obj (a := y) hy rfl ?_
      tm_at "go"
      refine ⟨y, M', W', z', q', rfl, hY, F2, by omega, by omega, fun v Mv Wv zv qv Hv F3 zs3 qp3 e3 sn hv0 hV => ?_⟩
      replace hX := hX.mono sn
      replace hY := hY.mono sn
      replace hy := sn _ _ hy
      replace sm9 := sm9.trans sn
      replace bx9 := bx9.same sn
      clear sn hv0
      tm_at "go"
      obtain ⟨dv, d1, d2, hv, -⟩ := id hV
      refine ⟨v, dv, _, y, dy, _, rfl, rfl, hv, hy, .inl ⟨v, y, Mv, Wv, M', W', zv, qv, z', q', rfl, hV, hY, fun H2 s2 => ⟨_, rfl, ?_⟩⟩⟩
      have same : Mv = M' ∧ zv = z' ∧ qv = q' ∧ Wv = W' := F3.uniq F2 fun n hn => by
        rw [Bool.eq_iff_iff, e3 n hn, e2' n hn]
        constructor
        · rintro ⟨m, m1, h, hd⟩
          obtain ⟨m', h1, h2, h3⟩ := (e2' m m1).mp h
          exact ⟨m', h1, h2, Nat.dvd_trans hd h3⟩
        · rintro ⟨m, m1, h, hd⟩
          exact ⟨n, hn, (e2' n hn).mpr ⟨m, m1, h, hd⟩, Nat.dvd_refl n⟩
      rw [decide_eq_true same]
      clear same F3 zs3 qp3 e3 hV hv d1 d2 dv
      replace hX := hX.mono s2
      replace hY := hY.mono s2
      replace hy := s2 _ _ hy
      replace sm9 := sm9.trans s2
      replace bx9 := bx9.same s2
      clear s2
      obtain ⟨dx, a1, a2, hx, -⟩ := id hX
      tm_at "go"
      have qq : q * q' ≤ 16 * 16 := Nat.mul_le_mul (by omega) (by omega)
      refine r_cmpA hx (T.tyN _ _ _ _ hy) nf_self ⟨x, y, M, W, M', W', z, q, z', q', rfl, hX, hY, F1, F2, by omega, by omega, by omega, by omega, by omega, fun bb H3 hbb sn => ⟨bb, rfl, ?_⟩⟩
      obtain rfl : bb = true := hbb.mpr fun n hn h => (e2' n hn).mpr ⟨n, hn, h, Nat.dvd_refl n⟩
      clear hbb qq
      replace hX := hX.mono sn
      replace hY := hY.mono sn
      replace hx := sn _ _ hx
      replace hy := sn _ _ hy
      replace sm9 := sm9.trans sn
      replace bx9 := bx9.same sn
      clear sn
      tm_at "go"
      have em : decide (0 < M'.length + W'.length) = decide (0 < M.length + W.length) := by
        have k1 := empty_iff F1
        have k2 := empty_iff F2
        have : (∀ n, 1 ≤ n → hasN M' z' q' W' n = false) ↔ ∀ n, 1 ≤ n → hasN M z q W n = false := by
          constructor
          · intro h n hn
            rw [Bool.eq_false_iff]
            intro c
            have := (e2' n hn).mpr ⟨n, hn, c, Nat.dvd_refl n⟩
            rw [h n hn] at this
            cases this
          · intro h n hn
            rw [Bool.eq_false_iff]
            intro c
            obtain ⟨m, m1, hm, -⟩ := (e2' n hn).mp c
            rw [h m m1] at hm
            cases hm
        have k3 := k2.trans (this.trans k1.symm)
        cases u : decide (0 < M'.length + W'.length) <;> cases v : decide (0 < M.length + W.length)
        · rfl
        · rw [u, v] at k3; cases k3.mp rfl
        · rw [u, v] at k3; cases k3.mpr rfl
        · rfl
      refine r_boolOwn hy ⟨y, M', W', z', q', rfl, hY, _, rfl, ?_⟩
      tm_at "go"
      refine r_boolOwn hx ⟨x, M, W, z, q, rfl, hX, _, rfl, ?_⟩
      refine r_ne rfl ?_
      rw [em, blNe, bne_self_eq_false]
      tm_at "go"
      refine r_cutT (fun v H' => v = false ∧ Same H3 H') ?_ ?_
      · tm_at "go"
        refine r_truO hx ⟨x, M, W, z, q, rfl, hX, _, rfl, ?_⟩
        refine r_ite (fun c => ?_) (fun _ => ⟨rfl, Same.refl⟩)
        tm_at "go"
        refine ⟨y, dy, _, rfl, hy, y, .int 1, M', W', z', q', rfl, hY, F2.p1, .int _, fun H4 s4 => ⟨_, rfl, ?_⟩⟩
        have e : inN (.int 1) M' z' q' W' = true := by
          show (decide ((0 : Int) < 1) && hasN M' z' q' W' 1) = true
          rw [decide_eq_true (show (0 : Int) < 1 by decide), Bool.true_and, e2' 1 (Nat.le_refl _)]
          refine Classical.byContradiction fun no => ?_
          have : decide (0 < M.length + W.length) = false := (empty_iff F1).mpr fun n hn => by
            rw [Bool.eq_false_iff]
            exact fun c => no ⟨n, hn, c, Nat.one_dvd n⟩
          rw [this] at c
          cases c
        rw [e]
        exact ⟨_, rfl, rfl, s4⟩
      rintro v H4 ⟨rfl, s4⟩
      replace sm9 := sm9.trans s4
      replace bx9 := bx9.same s4
      clear hx hy hX hY e2' e1' em F1 F2 zs' zs'' qp qp'
      tm_at "go"
      refine r_take bx9 (by decide) (by decide) fun d H5 d0 d1 hx => ?_
      have sm10 := Same.bx sm9 hx hb
      clear hx bx9 sm9
      obtain ⟨m, hm, m1, m2⟩ : ∃ m : Nat, 1 + d = (m : Int) ∧ 1 ≤ m ∧ m ≤ 40 := ⟨(1 + d).toNat, by omega, by omega, by omega⟩
      tm_at "go"
      rw [hm]
      refine ⟨m, rfl, m1, m2, fun u Lu Ru su pu H6 F4 zs4 qp4 e4 sn hu0 hU => ?_⟩
      replace sm10 := sm10.trans sn
      clear sn hu0
      obtain ⟨du, d1, d2, hu, -⟩ := id hU
      refine r_obj (a := u) hu rfl ?_
      tm_at "go"
      refine ⟨u, Lu, Ru, su, pu, rfl, hU, F4, by omega, by omega, fun v Mv Wv zv qv H7 F5 zs5 qp5 e5 sn hv0 hV => ?_⟩
      replace sm10 := sm10.trans sn
      clear sn hv0 hu d1 d2 du hU
      tm_at "go"
      refine ⟨rfl, fun o Lo Ro so po H8 F6 zs6 qp6 e6 sn ho0 hO => ?_⟩
      replace sm10 := sm10.trans sn
      replace hV := hV.mono sn
      clear sn ho0
      obtain ⟨dv, d1, d2, hv, -⟩ := id hV
      obtain ⟨dw, d3, d4, hw, -⟩ := id hO
      refine ⟨v, dv, _, o, dw, _, rfl, rfl, hv, hw, .inl ⟨v, o, Mv, Wv, Lo, Ro, zv, qv, so, po, rfl, hV, hO, fun H2 s2 => ⟨_, rfl, ?_⟩⟩⟩
      have same : Mv = Lo ∧ zv = so ∧ qv = po ∧ Wv = Ro := F5.uniq F6 fun n hn => by
        rw [e6 n hn, e5 n hn]
        refine ⟨n * m, Nat.mul_pos hn m1, ?_, Nat.dvd_mul_right n m⟩
        rw [e4 _ (Nat.mul_pos hn m1)]
        show (n * m % m == 0) = true
        rw [Nat.mul_mod_left]
        rfl
      rw [decide_eq_true same]
      tm_at "go"
      rw [hnx]
      exact ⟨⟨_, _, _, _, _, _, _, _, rfl⟩, sm10.trans s2⟩
end
theorem all_mk {h : Heap} (X : K.In h) (G : h.Ns mainGlobals mg)
    {e1 e2 : Addr} {d_e1 d_e2 : Option Addr} {n_e1 n_e2 : Nat} {s_e1 s_e2 : Array (Option Value)}
    (a_GroundError : PySem.W.nsIn K mainGlobals "GroundError" = some (some (.ref aGround)))
    (bs_GroundError : PySem.W.specialIn K (.ref aGround) "__getattribute__" = some (some (.builtin "type.__getattribute__")))
    (br_GroundError : PySem.W.readsIn K aGround (.type "type") = true)
    (bf_GroundError : PySem.W.findCls K (.ref aGround) (.type "type") "__init__" = some (.val (.builtin "ValueError.__init__")))
    (a_InvalidNumbers : PySem.W.nsIn K mainGlobals "InvalidNumbers" = some (some (.ref aInv)))
    {nm_InvalidNumbers q_InvalidNumbers : Str} {N_InvalidNumbers : Addr} {bs_InvalidNumbers : List Value} {sn_InvalidNumbers : List Str} {sub_InvalidNumbers : List Value} {ab_InvalidNumbers : Bool} {col_InvalidNumbers : Option Bool} {dd_InvalidNumbers : Option Addr} {m0_InvalidNumbers m1_InvalidNumbers m2_InvalidNumbers m3_InvalidNumbers m5_InvalidNumbers : Option Value}
    (x_InvalidNumbers : K.lookup aInv = some (excClassObj nm_InvalidNumbers q_InvalidNumbers aInv N_InvalidNumbers bs_InvalidNumbers [.ref aGround, .type "ValueError", .type "Exception", .type "BaseException", .type "object"] true sn_InvalidNumbers sub_InvalidNumbers ab_InvalidNumbers col_InvalidNumbers dd_InvalidNumbers m0_InvalidNumbers m1_InvalidNumbers m2_InvalidNumbers m3_InvalidNumbers m5_InvalidNumbers "ValueError.__new__"))
    (sa_InvalidNumbers : PySem.W.findIn K (.ref aInv) "__setattr__" = some (some (.builtin "object.__setattr__")))
    (ex_InvalidNumbers : PySem.W.subIn K (.ref aInv) (.type "BaseException") = some true)
    (ty_InvalidNumbers : PySem.W.typeIn K (.ref aInv) = some (.type "type"))
    (kc_InvalidNumbers : PySem.W.keepIn K (.ref aInv) = true)
    {f_InvalidNumbers : Addr} {od_InvalidNumbers an_InvalidNumbers : Option Addr} {sl_InvalidNumbers : Array (Option Value)} {oc_InvalidNumbers kV_InvalidNumbers dc_InvalidNumbers pm_InvalidNumbers cd_InvalidNumbers ct_InvalidNumbers : Value}
    (i_InvalidNumbers : PySem.W.findIn K (.ref aInv) "__init__" = some (some (.ref f_InvalidNumbers)))
    (ti_InvalidNumbers : PySem.W.typeIn K (.ref f_InvalidNumbers) = some (.type "function"))
    (l_InvalidNumbers : K.lookup f_InvalidNumbers = some ⟨oc_InvalidNumbers, od_InvalidNumbers, .func (PySem.W.fnOf "__init__" "InvalidNumbers.__init__" (defArgs s_InvalidNumbers__init) (defBody s_InvalidNumbers__init) (defScope s_InvalidNumbers__init) .none kV_InvalidNumbers dc_InvalidNumbers pm_InvalidNumbers an_InvalidNumbers cd_InvalidNumbers ct_InvalidNumbers), sl_InvalidNumbers⟩)
    (c_InvalidNumbers : PySem.W.codeIn K cd_InvalidNumbers "InvalidNumbers.__init__" = true)
    (k_InvalidNumbers : PySem.W.keepIn K (.ref f_InvalidNumbers) = true)
    (a_Numbers : PySem.W.nsIn K mainGlobals "Numbers" = some (some (.ref aNum)))
    (pg_Numbers : PySem.W.plainGet K aNum Str.empty = true)
    (hd_Numbers : PySem.W.hasDictIn K aNum = true)
    (po_Numbers : PySem.W.plainOver K aNum = true)
    (sa_Numbers : PySem.W.findIn K (.ref aNum) "__setattr__" = some (some (.builtin "object.__setattr__")))
    (mk_Numbers : PySem.W.makesIn K aNum = true)
    (kc_Numbers : PySem.W.keepIn K (.ref aNum) = true)
    {f_Numbers : Addr} {od_Numbers an_Numbers : Option Addr} {sl_Numbers : Array (Option Value)} {oc_Numbers kV_Numbers dc_Numbers pm_Numbers cd_Numbers ct_Numbers : Value}
    (i_Numbers : PySem.W.findIn K (.ref aNum) "__init__" = some (some (.ref f_Numbers)))
    (if_Numbers : PySem.W.isFn K (.ref f_Numbers) = true)
    {T_Numbers : Addr} {oT_Numbers : Value} {dT_Numbers : Option Addr} {iT_Numbers : List Value} {mT_Numbers : Nat} {sT_Numbers : Array (Option Value)}
    (l_Numbers : K.lookup f_Numbers = some ⟨oc_Numbers, od_Numbers, .func (PySem.W.fnOf "__init__" "Numbers.__init__" (defArgs s_Numbers__init) (defBody s_Numbers__init) (defScope s_Numbers__init) (.ref T_Numbers) kV_Numbers dc_Numbers pm_Numbers an_Numbers cd_Numbers ct_Numbers), sl_Numbers⟩)
    (c_Numbers : PySem.W.codeIn K cd_Numbers "Numbers.__init__" = true)
    (k_Numbers : PySem.W.keepIn K (.ref f_Numbers) = true)
    (t_Numbers : K.lookup T_Numbers = some ⟨oT_Numbers, dT_Numbers, .seq iT_Numbers.toArray mT_Numbers, sT_Numbers⟩)
    (v_Numbers : Vals [.ref e1, .int 1, .int 1, .ref e2] iT_Numbers)
    (le1 : K.lookup e1 = some ⟨.type "tuple", d_e1, .seq #[] n_e1, s_e1⟩)
    (le2 : K.lookup e2 = some ⟨.type "tuple", d_e2, .seq #[] n_e2, s_e2⟩)
    {f_Numbers__contains : Addr} {od_Numbers__contains an_Numbers__contains : Option Addr} {sl_Numbers__contains : Array (Option Value)} {oc_Numbers__contains kV_Numbers__contains dc_Numbers__contains pm_Numbers__contains cd_Numbers__contains ct_Numbers__contains : Value}
    (i_Numbers__contains : PySem.W.findIn K (.ref aNum) "__contains__" = some (some (.ref f_Numbers__contains)))
    (if_Numbers__contains : PySem.W.isFn K (.ref f_Numbers__contains) = true)
    (l_Numbers__contains : K.lookup f_Numbers__contains = some ⟨oc_Numbers__contains, od_Numbers__contains, .func (PySem.W.fnOf "__contains__" "Numbers.__contains__" (defArgs s_Numbers__contains) (defBody s_Numbers__contains) (defScope s_Numbers__contains) .none kV_Numbers__contains dc_Numbers__contains pm_Numbers__contains an_Numbers__contains cd_Numbers__contains ct_Numbers__contains), sl_Numbers__contains⟩)
    (c_Numbers__contains : PySem.W.codeIn K cd_Numbers__contains "Numbers.__contains__" = true)
    (k_Numbers__contains : PySem.W.keepIn K (.ref f_Numbers__contains) = true)
    {f_Numbers__bool : Addr} {od_Numbers__bool an_Numbers__bool : Option Addr} {sl_Numbers__bool : Array (Option Value)} {oc_Numbers__bool kV_Numbers__bool dc_Numbers__bool pm_Numbers__bool cd_Numbers__bool ct_Numbers__bool : Value}
    (i_Numbers__bool : PySem.W.findIn K (.ref aNum) "__bool__" = some (some (.ref f_Numbers__bool)))
    (if_Numbers__bool : PySem.W.isFn K (.ref f_Numbers__bool) = true)
    (l_Numbers__bool : K.lookup f_Numbers__bool = some ⟨oc_Numbers__bool, od_Numbers__bool, .func (PySem.W.fnOf "__bool__" "Numbers.__bool__" (defArgs s_Numbers__bool) (defBody s_Numbers__bool) (defScope s_Numbers__bool) .none kV_Numbers__bool dc_Numbers__bool pm_Numbers__bool an_Numbers__bool cd_Numbers__bool ct_Numbers__bool), sl_Numbers__bool⟩)
    (c_Numbers__bool : PySem.W.codeIn K cd_Numbers__bool "Numbers.__bool__" = true)
    (k_Numbers__bool : PySem.W.keepIn K (.ref f_Numbers__bool) = true)
    {f_Numbers__eq : Addr} {od_Numbers__eq an_Numbers__eq : Option Addr} {sl_Numbers__eq : Array (Option Value)} {oc_Numbers__eq kV_Numbers__eq dc_Numbers__eq pm_Numbers__eq cd_Numbers__eq ct_Numbers__eq : Value}
    (i_Numbers__eq : PySem.W.findIn K (.ref aNum) "__eq__" = some (some (.ref f_Numbers__eq)))
    (if_Numbers__eq : PySem.W.isFn K (.ref f_Numbers__eq) = true)
    (l_Numbers__eq : K.lookup f_Numbers__eq = some ⟨oc_Numbers__eq, od_Numbers__eq, .func (PySem.W.fnOf "__eq__" "Numbers.__eq__" (defArgs s_Numbers__eq) (defBody s_Numbers__eq) (defScope s_Numbers__eq) .none kV_Numbers__eq dc_Numbers__eq pm_Numbers__eq an_Numbers__eq cd_Numbers__eq ct_Numbers__eq), sl_Numbers__eq⟩)
    (c_Numbers__eq : PySem.W.codeIn K cd_Numbers__eq "Numbers.__eq__" = true)
    (k_Numbers__eq : PySem.W.keepIn K (.ref f_Numbers__eq) = true)
    {f_Numbers__sub : Addr} {od_Numbers__sub an_Numbers__sub : Option Addr} {sl_Numbers__sub : Array (Option Value)} {oc_Numbers__sub kV_Numbers__sub dc_Numbers__sub pm_Numbers__sub cd_Numbers__sub ct_Numbers__sub : Value}
    (i_Numbers__sub : PySem.W.findIn K (.ref aNum) "__sub__" = some (some (.ref f_Numbers__sub)))
    (if_Numbers__sub : PySem.W.isFn K (.ref f_Numbers__sub) = true)
    (l_Numbers__sub : K.lookup f_Numbers__sub = some ⟨oc_Numbers__sub, od_Numbers__sub, .func (PySem.W.fnOf "__sub__" "Numbers.__sub__" (defArgs s_Numbers__sub) (defBody s_Numbers__sub) (defScope s_Numbers__sub) .none kV_Numbers__sub dc_Numbers__sub pm_Numbers__sub an_Numbers__sub cd_Numbers__sub ct_Numbers__sub), sl_Numbers__sub⟩)
    (c_Numbers__sub : PySem.W.codeIn K cd_Numbers__sub "Numbers.__sub__" = true)
    (k_Numbers__sub : PySem.W.keepIn K (.ref f_Numbers__sub) = true)
    {f_Numbers__le : Addr} {od_Numbers__le an_Numbers__le : Option Addr} {sl_Numbers__le : Array (Option Value)} {oc_Numbers__le kV_Numbers__le dc_Numbers__le pm_Numbers__le cd_Numbers__le ct_Numbers__le : Value}
    (i_Numbers__le : PySem.W.findIn K (.ref aNum) "__le__" = some (some (.ref f_Numbers__le)))
    (if_Numbers__le : PySem.W.isFn K (.ref f_Numbers__le) = true)
    (l_Numbers__le : K.lookup f_Numbers__le = some ⟨oc_Numbers__le, od_Numbers__le, .func (PySem.W.fnOf "__le__" "Numbers.__le__" (defArgs s_Numbers__le) (defBody s_Numbers__le) (defScope s_Numbers__le) .none kV_Numbers__le dc_Numbers__le pm_Numbers__le an_Numbers__le cd_Numbers__le ct_Numbers__le), sl_Numbers__le⟩)
    (c_Numbers__le : PySem.W.codeIn K cd_Numbers__le "Numbers.__le__" = true)
    (k_Numbers__le : PySem.W.keepIn K (.ref f_Numbers__le) = true)
    {f_Numbers_form : Addr} {od_Numbers_form an_Numbers_form : Option Addr} {sl_Numbers_form : Array (Option Value)} {oc_Numbers_form kV_Numbers_form dc_Numbers_form pm_Numbers_form cd_Numbers_form ct_Numbers_form : Value}
    (i_Numbers_form : PySem.W.findIn K (.ref aNum) "form" = some (some (.ref f_Numbers_form)))
    (if_Numbers_form : PySem.W.isFn K (.ref f_Numbers_form) = true)
    (l_Numbers_form : K.lookup f_Numbers_form = some ⟨oc_Numbers_form, od_Numbers_form, .func (PySem.W.fnOf "form" "Numbers.form" (defArgs s_Numbers_form) (defBody s_Numbers_form) (defScope s_Numbers_form) .none kV_Numbers_form dc_Numbers_form pm_Numbers_form an_Numbers_form cd_Numbers_form ct_Numbers_form), sl_Numbers_form⟩)
    (c_Numbers_form : PySem.W.codeIn K cd_Numbers_form "Numbers.form" = true)
    (k_Numbers_form : PySem.W.keepIn K (.ref f_Numbers_form) = true)
    {f_Numbers_dividing : Addr} {od_Numbers_dividing an_Numbers_dividing : Option Addr} {sl_Numbers_dividing : Array (Option Value)} {oc_Numbers_dividing kV_Numbers_dividing dc_Numbers_dividing pm_Numbers_dividing cd_Numbers_dividing ct_Numbers_dividing : Value}
    (i_Numbers_dividing : PySem.W.findIn K (.ref aNum) "dividing" = some (some (.ref f_Numbers_dividing)))
    (if_Numbers_dividing : PySem.W.isFn K (.ref f_Numbers_dividing) = true)
    (l_Numbers_dividing : K.lookup f_Numbers_dividing = some ⟨oc_Numbers_dividing, od_Numbers_dividing, .func (PySem.W.fnOf "dividing" "Numbers.dividing" (defArgs s_Numbers_dividing) (defBody s_Numbers_dividing) (defScope s_Numbers_dividing) .none kV_Numbers_dividing dc_Numbers_dividing pm_Numbers_dividing an_Numbers_dividing cd_Numbers_dividing ct_Numbers_dividing), sl_Numbers_dividing⟩)
    (c_Numbers_dividing : PySem.W.codeIn K cd_Numbers_dividing "Numbers.dividing" = true)
    (k_Numbers_dividing : PySem.W.keepIn K (.ref f_Numbers_dividing) = true)
    (cg_Numbers : PySem.W.specialIn K (.ref aNum) "__getattribute__" = some (some (.builtin "type.__getattribute__")))
    (cr_Numbers : PySem.W.readsIn K aNum (.type "type") = true)
    {f_Numbers_every : Addr} {od_Numbers_every an_Numbers_every : Option Addr} {sl_Numbers_every : Array (Option Value)} {oc_Numbers_every kV_Numbers_every dc_Numbers_every pm_Numbers_every cd_Numbers_every ct_Numbers_every : Value}
    {p_Numbers_every : Addr} {rest_Numbers_every : List Value}
    (i_Numbers_every : PySem.W.findCls K (.ref aNum) (.type "type") "every" = some (.get (.builtin "classmethod.__get__") (.ref p_Numbers_every) .none (.ref aNum)))
    (pr_Numbers_every : PySem.W.recIn K p_Numbers_every "classmethod" = some (.ref f_Numbers_every :: rest_Numbers_every))
    (l_Numbers_every : K.lookup f_Numbers_every = some ⟨oc_Numbers_every, od_Numbers_every, .func (PySem.W.fnOf "every" "Numbers.every" (defArgs s_Numbers_every) (defBody s_Numbers_every) (defScope s_Numbers_every) .none kV_Numbers_every dc_Numbers_every pm_Numbers_every an_Numbers_every cd_Numbers_every ct_Numbers_every), sl_Numbers_every⟩)
    (c_Numbers_every : PySem.W.codeIn K cd_Numbers_every "Numbers.every" = true)
    (k_Numbers_every : PySem.W.keepIn K (.ref f_Numbers_every) = true)
    {f_Numbers_multiples : Addr} {od_Numbers_multiples an_Numbers_multiples : Option Addr} {sl_Numbers_multiples : Array (Option Value)} {oc_Numbers_multiples kV_Numbers_multiples dc_Numbers_multiples pm_Numbers_multiples cd_Numbers_multiples ct_Numbers_multiples : Value}
    {p_Numbers_multiples : Addr} {rest_Numbers_multiples : List Value}
    (i_Numbers_multiples : PySem.W.findCls K (.ref aNum) (.type "type") "multiples" = some (.get (.builtin "classmethod.__get__") (.ref p_Numbers_multiples) .none (.ref aNum)))
    (pr_Numbers_multiples : PySem.W.recIn K p_Numbers_multiples "classmethod" = some (.ref f_Numbers_multiples :: rest_Numbers_multiples))
    (l_Numbers_multiples : K.lookup f_Numbers_multiples = some ⟨oc_Numbers_multiples, od_Numbers_multiples, .func (PySem.W.fnOf "multiples" "Numbers.multiples" (defArgs s_Numbers_multiples) (defBody s_Numbers_multiples) (defScope s_Numbers_multiples) .none kV_Numbers_multiples dc_Numbers_multiples pm_Numbers_multiples an_Numbers_multiples cd_Numbers_multiples ct_Numbers_multiples), sl_Numbers_multiples⟩)
    (c_Numbers_multiples : PySem.W.codeIn K cd_Numbers_multiples "Numbers.multiples" = true)
    (k_Numbers_multiples : PySem.W.keepIn K (.ref f_Numbers_multiples) = true)
    (na_aNum_listed : PySem.W.findIn K (.ref aNum) "listed" = some none)
    (na_aNum_since : PySem.W.findIn K (.ref aNum) "since" = some none)
    (na_aNum_period : PySem.W.findIn K (.ref aNum) "period" = some none)
    (na_aNum_rests : PySem.W.findIn K (.ref aNum) "rests" = some none)
    (na_aInv_word : PySem.W.findIn K (.ref aInv) "word" = some none)
    (sfN : PySem.W.selfFirst K aNum = true)
    (niS : noIp K aNum "sub" = true)
    (neN : PySem.W.findIn K (.ref aNum) "__ne__" = some (some (.builtin "object.__ne__")))
    (obN : PySem.W.mroIn K aNum (.type "object") = some true)
    (caN : PySem.W.findIn K (.ref aNum) "__class__" = some (some (.builtin "object.__class__")))
    (cgN : PySem.W.specialIn K (.builtin "object.__class__") "__get__" = some (some (.builtin "getset_descriptor.__get__")))
    (ctN : PySem.W.takesIn K (.builtin "object.__class__") = some true)
    (z_int : PySem.W.nsIn K mainGlobals "int" = some none)
    (z_len : PySem.W.nsIn K mainGlobals "len" = some none)
    (z_abs : PySem.W.nsIn K mainGlobals "abs" = some none)
    (z_range : PySem.W.nsIn K mainGlobals "range" = some none)
    (z_min : PySem.W.nsIn K mainGlobals "min" = some none)
    (z_max : PySem.W.nsIn K mainGlobals "max" = some none)
    (z_bool : PySem.W.nsIn K mainGlobals "bool" = some none)
    (z_isinstance : PySem.W.nsIn K mainGlobals "isinstance" = some none)
    (z_tuple : PySem.W.nsIn K mainGlobals "tuple" = some none)
    (z_list : PySem.W.nsIn K mainGlobals "list" = some none)
    (z_all : PySem.W.nsIn K mainGlobals "all" = some none)
    (z_sorted : PySem.W.nsIn K mainGlobals "sorted" = some none)
    (z_zip : PySem.W.nsIn K mainGlobals "zip" = some none)
    (z_any : PySem.W.nsIn K mainGlobals "any" = some none)
    {f_law_box : Addr} {od_law_box an_law_box : Option Addr} {sl_law_box : Array (Option Value)} {oc_law_box kV_law_box dc_law_box pm_law_box cd_law_box ct_law_box : Value}
    (a_law_box : PySem.W.nsIn K mainGlobals "_law_box" = some (some (.ref f_law_box)))
    (l_law_box : K.lookup f_law_box = some ⟨oc_law_box, od_law_box, .func (PySem.W.fnOf "_law_box" "_law_box" (defArgs s_law_box) (defBody s_law_box) (defScope s_law_box) .none kV_law_box dc_law_box pm_law_box an_law_box cd_law_box ct_law_box), sl_law_box⟩)
    (c_law_box : PySem.W.codeIn K cd_law_box "_law_box" = true)
    (k_law_box : PySem.W.keepIn K (.ref f_law_box) = true)
    {f_law_take : Addr} {od_law_take an_law_take : Option Addr} {sl_law_take : Array (Option Value)} {oc_law_take kV_law_take dc_law_take pm_law_take cd_law_take ct_law_take : Value}
    (a_law_take : PySem.W.nsIn K mainGlobals "_law_take" = some (some (.ref f_law_take)))
    (l_law_take : K.lookup f_law_take = some ⟨oc_law_take, od_law_take, .func (PySem.W.fnOf "_law_take" "_law_take" (defArgs s_law_take) (defBody s_law_take) (defScope s_law_take) .none kV_law_take dc_law_take pm_law_take an_law_take cd_law_take ct_law_take), sl_law_take⟩)
    (c_law_take : PySem.W.codeIn K cd_law_take "_law_take" = true)
    (k_law_take : PySem.W.keepIn K (.ref f_law_take) = true)
    {f_law_pick : Addr} {od_law_pick an_law_pick : Option Addr} {sl_law_pick : Array (Option Value)} {oc_law_pick kV_law_pick dc_law_pick pm_law_pick cd_law_pick ct_law_pick : Value}
    (a_law_pick : PySem.W.nsIn K mainGlobals "_law_pick" = some (some (.ref f_law_pick)))
    (l_law_pick : K.lookup f_law_pick = some ⟨oc_law_pick, od_law_pick, .func (PySem.W.fnOf "_law_pick" "_law_pick" (defArgs s_law_pick) (defBody s_law_pick) (defScope s_law_pick) .none kV_law_pick dc_law_pick pm_law_pick an_law_pick cd_law_pick ct_law_pick), sl_law_pick⟩)
    (c_law_pick : PySem.W.codeIn K cd_law_pick "_law_pick" = true)
    (k_law_pick : PySem.W.keepIn K (.ref f_law_pick) = true)
    {f_law_some : Addr} {od_law_some an_law_some : Option Addr} {sl_law_some : Array (Option Value)} {oc_law_some kV_law_some dc_law_some pm_law_some cd_law_some ct_law_some : Value}
    (a_law_some : PySem.W.nsIn K mainGlobals "_law_some" = some (some (.ref f_law_some)))
    (l_law_some : K.lookup f_law_some = some ⟨oc_law_some, od_law_some, .func (PySem.W.fnOf "_law_some" "_law_some" (defArgs s_law_some) (defBody s_law_some) (defScope s_law_some) .none kV_law_some dc_law_some pm_law_some an_law_some cd_law_some ct_law_some), sl_law_some⟩)
    (c_law_some : PySem.W.codeIn K cd_law_some "_law_some" = true)
    (k_law_some : PySem.W.keepIn K (.ref f_law_some) = true)
    {f_law_divides : Addr} {od_law_divides an_law_divides : Option Addr} {sl_law_divides : Array (Option Value)} {oc_law_divides kV_law_divides dc_law_divides pm_law_divides cd_law_divides ct_law_divides : Value}
    (a_law_divides : PySem.W.nsIn K mainGlobals "_law_divides" = some (some (.ref f_law_divides)))
    (l_law_divides : K.lookup f_law_divides = some ⟨oc_law_divides, od_law_divides, .func (PySem.W.fnOf "_law_divides" "_law_divides" (defArgs s_law_divides) (defBody s_law_divides) (defScope s_law_divides) .none kV_law_divides dc_law_divides pm_law_divides an_law_divides cd_law_divides ct_law_divides), sl_law_divides⟩)
    (c_law_divides : PySem.W.codeIn K cd_law_divides "_law_divides" = true)
    (k_law_divides : PySem.W.keepIn K (.ref f_law_divides) = true)
    {f_law_common_divides : Addr} {od_law_common_divides an_law_common_divides : Option Addr} {sl_law_common_divides : Array (Option Value)} {oc_law_common_divides kV_law_common_divides dc_law_common_divides pm_law_common_divides cd_law_common_divides ct_law_common_divides : Value}
    (a_law_common_divides : PySem.W.nsIn K mainGlobals "_law_common_divides" = some (some (.ref f_law_common_divides)))
    (l_law_common_divides : K.lookup f_law_common_divides = some ⟨oc_law_common_divides, od_law_common_divides, .func (PySem.W.fnOf "_law_common_divides" "_law_common_divides" (defArgs s_law_common_divides) (defBody s_law_common_divides) (defScope s_law_common_divides) .none kV_law_common_divides dc_law_common_divides pm_law_common_divides an_law_common_divides cd_law_common_divides ct_law_common_divides), sl_law_common_divides⟩)
    (c_law_common_divides : PySem.W.codeIn K cd_law_common_divides "_law_common_divides" = true)
    (k_law_common_divides : PySem.W.keepIn K (.ref f_law_common_divides) = true)
    {f_law : Addr} {od_law an_law : Option Addr} {sl_law : Array (Option Value)} {oc_law kV_law dc_law pm_law cd_law ct_law : Value}
    (a_law : PySem.W.nsIn K mainGlobals "law" = some (some (.ref f_law)))
    (l_law : K.lookup f_law = some ⟨oc_law, od_law, .func (PySem.W.fnOf "law" "law" (defArgs s_law) (defBody s_law) (defScope s_law) .none kV_law dc_law pm_law an_law cd_law ct_law), sl_law⟩)
    (c_law : PySem.W.codeIn K cd_law "law" = true)
    (k_law : PySem.W.keepIn K (.ref f_law) = true)
    {f_is_integer : Addr} {od_is_integer an_is_integer : Option Addr} {sl_is_integer : Array (Option Value)} {oc_is_integer kV_is_integer dc_is_integer pm_is_integer cd_is_integer ct_is_integer : Value}
    (a_is_integer : PySem.W.nsIn K mainGlobals "is_integer" = some (some (.ref f_is_integer)))
    (l_is_integer : K.lookup f_is_integer = some ⟨oc_is_integer, od_is_integer, .func (PySem.W.fnOf "is_integer" "is_integer" (defArgs s_is_integer) (defBody s_is_integer) (defScope s_is_integer) .none kV_is_integer dc_is_integer pm_is_integer an_is_integer cd_is_integer ct_is_integer), sl_is_integer⟩)
    (c_is_integer : PySem.W.codeIn K cd_is_integer "is_integer" = true)
    (k_is_integer : PySem.W.keepIn K (.ref f_is_integer) = true)
    {f_all_from : Addr} {od_all_from an_all_from : Option Addr} {sl_all_from : Array (Option Value)} {oc_all_from kV_all_from dc_all_from pm_all_from cd_all_from ct_all_from : Value}
    (a_all_from : PySem.W.nsIn K mainGlobals "all_from" = some (some (.ref f_all_from)))
    (l_all_from : K.lookup f_all_from = some ⟨oc_all_from, od_all_from, .func (PySem.W.fnOf "all_from" "all_from" (defArgs s_all_from) (defBody s_all_from) (defScope s_all_from) .none kV_all_from dc_all_from pm_all_from an_all_from cd_all_from ct_all_from), sl_all_from⟩)
    (c_all_from : PySem.W.codeIn K cd_all_from "all_from" = true)
    (k_all_from : PySem.W.keepIn K (.ref f_all_from) = true)
    {f_is_told : Addr} {od_is_told an_is_told : Option Addr} {sl_is_told : Array (Option Value)} {oc_is_told kV_is_told dc_is_told pm_is_told cd_is_told ct_is_told : Value}
    (a_is_told : PySem.W.nsIn K mainGlobals "is_told" = some (some (.ref f_is_told)))
    (l_is_told : K.lookup f_is_told = some ⟨oc_is_told, od_is_told, .func (PySem.W.fnOf "is_told" "is_told" (defArgs s_is_told) (defBody s_is_told) (defScope s_is_told) .none kV_is_told dc_is_told pm_is_told an_is_told cd_is_told ct_is_told), sl_is_told⟩)
    (c_is_told : PySem.W.codeIn K cd_is_told "is_told" = true)
    (k_is_told : PySem.W.keepIn K (.ref f_is_told) = true)
    {f_least_period : Addr} {od_least_period an_least_period : Option Addr} {sl_least_period : Array (Option Value)} {oc_least_period kV_least_period dc_least_period pm_least_period cd_least_period ct_least_period : Value}
    (a_least_period : PySem.W.nsIn K mainGlobals "least_period" = some (some (.ref f_least_period)))
    (l_least_period : K.lookup f_least_period = some ⟨oc_least_period, od_least_period, .func (PySem.W.fnOf "least_period" "least_period" (defArgs s_least_period) (defBody s_least_period) (defScope s_least_period) .none kV_least_period dc_least_period pm_least_period an_least_period cd_least_period ct_least_period), sl_least_period⟩)
    (c_least_period : PySem.W.codeIn K cd_least_period "least_period" = true)
    (k_least_period : PySem.W.keepIn K (.ref f_least_period) = true)
    {f_least_form : Addr} {od_least_form an_least_form : Option Addr} {sl_least_form : Array (Option Value)} {oc_least_form kV_least_form dc_least_form pm_least_form cd_least_form ct_least_form : Value}
    (a_least_form : PySem.W.nsIn K mainGlobals "least_form" = some (some (.ref f_least_form)))
    (l_least_form : K.lookup f_least_form = some ⟨oc_least_form, od_least_form, .func (PySem.W.fnOf "least_form" "least_form" (defArgs s_least_form) (defBody s_least_form) (defScope s_least_form) .none kV_least_form dc_least_form pm_least_form an_least_form cd_least_form ct_least_form), sl_least_form⟩)
    (c_least_form : PySem.W.codeIn K cd_least_form "least_form" = true)
    (k_least_form : PySem.W.keepIn K (.ref f_least_form) = true)
    {f_greatest_common : Addr} {od_greatest_common an_greatest_common : Option Addr} {sl_greatest_common : Array (Option Value)} {oc_greatest_common kV_greatest_common dc_greatest_common pm_greatest_common cd_greatest_common ct_greatest_common : Value}
    (a_greatest_common : PySem.W.nsIn K mainGlobals "greatest_common" = some (some (.ref f_greatest_common)))
    (l_greatest_common : K.lookup f_greatest_common = some ⟨oc_greatest_common, od_greatest_common, .func (PySem.W.fnOf "greatest_common" "greatest_common" (defArgs s_greatest_common) (defBody s_greatest_common) (defScope s_greatest_common) .none kV_greatest_common dc_greatest_common pm_greatest_common an_greatest_common cd_greatest_common ct_greatest_common), sl_greatest_common⟩)
    (c_greatest_common : PySem.W.codeIn K cd_greatest_common "greatest_common" = true)
    (k_greatest_common : PySem.W.keepIn K (.ref f_greatest_common) = true)
    {f_merged : Addr} {od_merged an_merged : Option Addr} {sl_merged : Array (Option Value)} {oc_merged kV_merged dc_merged pm_merged cd_merged ct_merged : Value}
    (a_merged : PySem.W.nsIn K mainGlobals "merged" = some (some (.ref f_merged)))
    (l_merged : K.lookup f_merged = some ⟨oc_merged, od_merged, .func (PySem.W.fnOf "merged" "merged" (defArgs s_merged) (defBody s_merged) (defScope s_merged) .none kV_merged dc_merged pm_merged an_merged cd_merged ct_merged), sl_merged⟩)
    (c_merged : PySem.W.codeIn K cd_merged "merged" = true)
    (k_merged : PySem.W.keepIn K (.ref f_merged) = true)
    {f_divisors_of : Addr} {od_divisors_of an_divisors_of : Option Addr} {sl_divisors_of : Array (Option Value)} {oc_divisors_of kV_divisors_of dc_divisors_of pm_divisors_of cd_divisors_of ct_divisors_of : Value}
    (a_divisors_of : PySem.W.nsIn K mainGlobals "divisors_of" = some (some (.ref f_divisors_of)))
    (l_divisors_of : K.lookup f_divisors_of = some ⟨oc_divisors_of, od_divisors_of, .func (PySem.W.fnOf "divisors_of" "divisors_of" (defArgs s_divisors_of) (defBody s_divisors_of) (defScope s_divisors_of) .none kV_divisors_of dc_divisors_of pm_divisors_of an_divisors_of cd_divisors_of ct_divisors_of), sl_divisors_of⟩)
    (c_divisors_of : PySem.W.codeIn K cd_divisors_of "divisors_of" = true)
    (k_divisors_of : PySem.W.keepIn K (.ref f_divisors_of) = true) :
    ∀ base : Heap, K.In base → base.Ns mainGlobals mg → DefG P w K mg base CX0 9 "law" ["_law_script"] (spLaw K) := by
  have m_GroundError : mg "GroundError" = some (.ref aGround) := PySem.W.mg_of X G a_GroundError
  have b_GroundError : BaseInit K aGround := ⟨bs_GroundError, br_GroundError, bf_GroundError⟩
  have m_InvalidNumbers : mg "InvalidNumbers" = some (.ref aInv) := PySem.W.mg_of X G a_InvalidNumbers
  have at_InvalidNumbers : ErrAt K mg "InvalidNumbers" "InvalidNumbers.__init__" s_InvalidNumbers__init aInv := ⟨m_InvalidNumbers, ⟨⟨nm_InvalidNumbers, q_InvalidNumbers, N_InvalidNumbers, bs_InvalidNumbers, _, sn_InvalidNumbers, sub_InvalidNumbers, ab_InvalidNumbers, col_InvalidNumbers, dd_InvalidNumbers, m0_InvalidNumbers, m1_InvalidNumbers, m2_InvalidNumbers, m3_InvalidNumbers, m5_InvalidNumbers, x_InvalidNumbers, rfl⟩, sa_InvalidNumbers, ex_InvalidNumbers, ty_InvalidNumbers, kc_InvalidNumbers⟩, _, _, i_InvalidNumbers, ti_InvalidNumbers, fun_mk (st := s_InvalidNumbers__init) l_InvalidNumbers c_InvalidNumbers k_InvalidNumbers⟩
  have m_Numbers : mg "Numbers" = some (.ref aNum) := PySem.W.mg_of X G a_Numbers
  have cl_Numbers : Cls K aNum := ⟨pg_Numbers, hd_Numbers, po_Numbers, sa_Numbers⟩
  have mk_Numbers : Mk K aNum f_Numbers := ⟨mk_Numbers, i_Numbers, if_Numbers, kc_Numbers⟩
  have fd_Numbers : FunD K "__init__" "Numbers.__init__" (defArgs s_Numbers__init) (defBody s_Numbers__init) (defScope s_Numbers__init) [.ref e1, .int 1, .int 1, .ref e2] [] f_Numbers _ := ⟨⟨_, _, _, _, _, _, _, _, _, _, rfl, l_Numbers, c_Numbers, .inr ⟨List.cons_ne_nil _ _, _, _, _, _, rfl, t_Numbers, rfl, v_Numbers⟩, .inl rfl⟩, k_Numbers⟩
  have at_Numbers__contains : MetAt K aNum "__contains__" "Numbers.__contains__" s_Numbers__contains := ⟨cl_Numbers, _, _, ⟨i_Numbers__contains, if_Numbers__contains, k_Numbers__contains⟩, fun_mk (st := s_Numbers__contains) l_Numbers__contains c_Numbers__contains k_Numbers__contains⟩
  have at_Numbers__bool : MetAt K aNum "__bool__" "Numbers.__bool__" s_Numbers__bool := ⟨cl_Numbers, _, _, ⟨i_Numbers__bool, if_Numbers__bool, k_Numbers__bool⟩, fun_mk (st := s_Numbers__bool) l_Numbers__bool c_Numbers__bool k_Numbers__bool⟩
  have at_Numbers__eq : MetAt K aNum "__eq__" "Numbers.__eq__" s_Numbers__eq := ⟨cl_Numbers, _, _, ⟨i_Numbers__eq, if_Numbers__eq, k_Numbers__eq⟩, fun_mk (st := s_Numbers__eq) l_Numbers__eq c_Numbers__eq k_Numbers__eq⟩
  have at_Numbers__sub : MetAt K aNum "__sub__" "Numbers.__sub__" s_Numbers__sub := ⟨cl_Numbers, _, _, ⟨i_Numbers__sub, if_Numbers__sub, k_Numbers__sub⟩, fun_mk (st := s_Numbers__sub) l_Numbers__sub c_Numbers__sub k_Numbers__sub⟩
  have at_Numbers__le : MetAt K aNum "__le__" "Numbers.__le__" s_Numbers__le := ⟨cl_Numbers, _, _, ⟨i_Numbers__le, if_Numbers__le, k_Numbers__le⟩, fun_mk (st := s_Numbers__le) l_Numbers__le c_Numbers__le k_Numbers__le⟩
  have at_Numbers_form : MetAt K aNum "form" "Numbers.form" s_Numbers_form := ⟨cl_Numbers, _, _, ⟨i_Numbers_form, if_Numbers_form, k_Numbers_form⟩, fun_mk (st := s_Numbers_form) l_Numbers_form c_Numbers_form k_Numbers_form⟩
  have at_Numbers_dividing : MetAt K aNum "dividing" "Numbers.dividing" s_Numbers_dividing := ⟨cl_Numbers, _, _, ⟨i_Numbers_dividing, if_Numbers_dividing, k_Numbers_dividing⟩, fun_mk (st := s_Numbers_dividing) l_Numbers_dividing c_Numbers_dividing k_Numbers_dividing⟩
  have at_Numbers_every : CmAt K aNum "every" "Numbers.every" s_Numbers_every := ⟨.type "type", _, _, _, ⟨cr_Numbers, cg_Numbers⟩, ⟨i_Numbers_every, ⟨_, pr_Numbers_every⟩, fn_in l_Numbers_every⟩, fun_mk (st := s_Numbers_every) l_Numbers_every c_Numbers_every k_Numbers_every⟩
  have at_Numbers_multiples : CmAt K aNum "multiples" "Numbers.multiples" s_Numbers_multiples := ⟨.type "type", _, _, _, ⟨cr_Numbers, cg_Numbers⟩, ⟨i_Numbers_multiples, ⟨_, pr_Numbers_multiples⟩, fn_in l_Numbers_multiples⟩, fun_mk (st := s_Numbers_multiples) l_Numbers_multiples c_Numbers_multiples k_Numbers_multiples⟩
  have n_int : mg "int" = none := PySem.W.mg_none_of X G z_int
  have n_len : mg "len" = none := PySem.W.mg_none_of X G z_len
  have n_abs : mg "abs" = none := PySem.W.mg_none_of X G z_abs
  have n_range : mg "range" = none := PySem.W.mg_none_of X G z_range
  have n_min : mg "min" = none := PySem.W.mg_none_of X G z_min
  have n_max : mg "max" = none := PySem.W.mg_none_of X G z_max
  have n_bool : mg "bool" = none := PySem.W.mg_none_of X G z_bool
  have n_isinstance : mg "isinstance" = none := PySem.W.mg_none_of X G z_isinstance
  have n_tuple : mg "tuple" = none := PySem.W.mg_none_of X G z_tuple
  have n_list : mg "list" = none := PySem.W.mg_none_of X G z_list
  have n_all : mg "all" = none := PySem.W.mg_none_of X G z_all
  have n_sorted : mg "sorted" = none := PySem.W.mg_none_of X G z_sorted
  have n_zip : mg "zip" = none := PySem.W.mg_none_of X G z_zip
  have n_any : mg "any" = none := PySem.W.mg_none_of X G z_any
  have at_law_box : DefAt K mg "_law_box" s_law_box := ⟨_, _, PySem.W.mg_of X G a_law_box, fun_mk (st := s_law_box) l_law_box c_law_box k_law_box⟩
  have at_law_take : DefAt K mg "_law_take" s_law_take := ⟨_, _, PySem.W.mg_of X G a_law_take, fun_mk (st := s_law_take) l_law_take c_law_take k_law_take⟩
  have at_law_pick : DefAt K mg "_law_pick" s_law_pick := ⟨_, _, PySem.W.mg_of X G a_law_pick, fun_mk (st := s_law_pick) l_law_pick c_law_pick k_law_pick⟩
  have at_law_some : DefAt K mg "_law_some" s_law_some := ⟨_, _, PySem.W.mg_of X G a_law_some, fun_mk (st := s_law_some) l_law_some c_law_some k_law_some⟩
  have at_law_divides : DefAt K mg "_law_divides" s_law_divides := ⟨_, _, PySem.W.mg_of X G a_law_divides, fun_mk (st := s_law_divides) l_law_divides c_law_divides k_law_divides⟩
  have at_law_common_divides : DefAt K mg "_law_common_divides" s_law_common_divides := ⟨_, _, PySem.W.mg_of X G a_law_common_divides, fun_mk (st := s_law_common_divides) l_law_common_divides c_law_common_divides k_law_common_divides⟩
  have at_law : DefAt K mg "law" s_law := ⟨_, _, PySem.W.mg_of X G a_law, fun_mk (st := s_law) l_law c_law k_law⟩
  have at_is_integer : DefAt K mg "is_integer" s_is_integer := ⟨_, _, PySem.W.mg_of X G a_is_integer, fun_mk (st := s_is_integer) l_is_integer c_is_integer k_is_integer⟩
  have at_all_from : DefAt K mg "all_from" s_all_from := ⟨_, _, PySem.W.mg_of X G a_all_from, fun_mk (st := s_all_from) l_all_from c_all_from k_all_from⟩
  have at_is_told : DefAt K mg "is_told" s_is_told := ⟨_, _, PySem.W.mg_of X G a_is_told, fun_mk (st := s_is_told) l_is_told c_is_told k_is_told⟩
  have at_least_period : DefAt K mg "least_period" s_least_period := ⟨_, _, PySem.W.mg_of X G a_least_period, fun_mk (st := s_least_period) l_least_period c_least_period k_least_period⟩
  have at_least_form : DefAt K mg "least_form" s_least_form := ⟨_, _, PySem.W.mg_of X G a_least_form, fun_mk (st := s_least_form) l_least_form c_least_form k_least_form⟩
  have at_greatest_common : DefAt K mg "greatest_common" s_greatest_common := ⟨_, _, PySem.W.mg_of X G a_greatest_common, fun_mk (st := s_greatest_common) l_greatest_common c_greatest_common k_greatest_common⟩
  have at_merged : DefAt K mg "merged" s_merged := ⟨_, _, PySem.W.mg_of X G a_merged, fun_mk (st := s_merged) l_merged c_merged k_merged⟩
  have at_divisors_of : DefAt K mg "divisors_of" s_divisors_of := ⟨_, _, PySem.W.mg_of X G a_divisors_of, fun_mk (st := s_divisors_of) l_divisors_of c_divisors_of k_divisors_of⟩
  have T : Txt K mg aGround aNum aInv := ⟨m_GroundError, b_GroundError, PySem.W.mg_of X G a_InvalidNumbers, cl_Numbers, na_aNum_listed, na_aNum_since, na_aNum_period, na_aNum_rests, na_aInv_word,
    fun H e dx fs q => .base (.ins q cl_Numbers caN cgN ctN obN), m_Numbers, sfN, niS, neN, obN,
    n_int, n_len, n_abs, n_range, n_min, n_max, n_bool, n_isinstance, n_tuple, n_list, n_all, n_sorted, n_zip, n_any⟩
  have te1 : ∀ H, SqT K H e1 [] := fun H => .inr ⟨_, #[], _, le1, rfl, rfl, Nat.zero_le _, .nil⟩
  have te2 : ∀ H, SqT K H e2 [] := fun H => .inr ⟨_, #[], _, le2, rfl, rfl, Nat.zero_le _, .nil⟩
  obtain ⟨ds, vd, bN⟩ := fd_Numbers.binds1 (ps := ["self", "listed", "since", "period", "rests"]) 5 4 (by simp) rfl (fun T kV doc pm an cdv ct us its hu hi => match us, its, hu, hi with | [_, _, _, _, _], [_, _, _, _], _, _ => ⟨_, rfl, rfl⟩)
  obtain ⟨ds0, vd0, bN0⟩ := fd_Numbers.binds1 (ps := ["self", "listed", "since", "period", "rests"]) 1 0 (by simp) rfl (fun T kV doc pm an cdv ct us its hu hi => match us, its, hu, hi with | [_], [_, _, _, _], _, _ => ⟨_, rfl, rfl⟩)
  intro base hb1 hb2
  have D_take := ok_take (P := P) (w := w) (base := base) at_law_take T
  have D_pick := ok_pick (P := P) (w := w) (base := base) at_law_pick T D_take
  have D_box := ok_box (P := P) (w := w) (base := base) at_law_box T
  have D_int := ok_is_integer (P := P) (w := w) (base := base) at_is_integer T
  have D_all := ok_all_from (P := P) (w := w) (base := base) at_all_from T D_int
  have D_lp := ok_least_period (P := P) (w := w) (base := base) at_least_period T
  have D_lf := ok_least_form (P := P) (w := w) (base := base) at_least_form T D_lp
  have R_inv := ok_InvalidNumbers (P := P) (w := w) (base := base) at_InvalidNumbers T
  have F_num := ok_NumI (P := P) (w := w) (base := base) fd_Numbers T D_int D_all D_lf R_inv
  have M_num : MakeOk P w K mg base (L2.CX P w) 4 "Numbers" aNum ["self", "listed", "since", "period", "rests"] [] (spNumI K aNum aInv) := ⟨m_Numbers, _, _, _, mk_Numbers, F_num, bN, vd⟩
  have M_num0 : MakeOk P w K mg base (L2.CX P w) 4 "Numbers" aNum ["self", "listed", "since", "period", "rests"] [.ref e1, .int 1, .int 1, .ref e2] (spNumI K aNum aInv) := ⟨m_Numbers, _, _, _, mk_Numbers, F_num, bN0, vd0⟩
  have D_gcd := ok_gcd (P := P) (w := w) (base := base) at_greatest_common T
  have D_told := ok_is_told (P := P) (w := w) (base := base) at_is_told T
  have D_mg := ok_merged (P := P) (w := w) (base := base) at_merged T D_gcd D_told
  have M_form := ok_form (P := P) (w := w) (base := base) at_Numbers_form T
  have M_has := ok_contains (P := P) (w := w) (base := base) at_Numbers__contains T D_int D_told M_form
  have M_bool := ok_boolN (P := P) (w := w) (base := base) at_Numbers__bool T
  have M_eq := ok_eqN (P := P) (w := w) (base := base) at_Numbers__eq T
  have M_sub := ok_sub (P := P) (w := w) (base := base) at_Numbers__sub T D_mg M_num
  have M_le := ok_le (P := P) (w := w) (base := base) at_Numbers__le T M_sub M_bool
  have M_every := ok_every (P := P) (w := w) (base := base) at_Numbers_every T M_num
  have M_mult := ok_mult (P := P) (w := w) (base := base) at_Numbers_multiples T M_num
  have D_divs := ok_divs (P := P) (w := w) (base := base) at_divisors_of T
  have M_dvd := ok_dividing (P := P) (w := w) (base := base) at_Numbers_dividing T D_divs D_gcd M_num
  have D_some := ok_law_some (P := P) (w := w) (base := base) at_law_some T D_take D_pick
  have D_com := ok_com (P := P) (w := w) (base := base) at_law_common_divides T
  have D_div := ok_divides (P := P) (w := w) (base := base) at_law_divides T D_com
  exact ok_law at_law T D_box D_take D_some D_div M_num M_num0 te1 te2 M_every M_mult M_has M_eq M_bool M_le M_dvd
end
end Hg
end L2

open PySem PySem.W PyProof.Rows in
set_option maxRecDepth 100000 in
set_option maxHeartbeats 0 in
theorem PySem.Challenge.cw_heldground_k08_divisors_of_sets_holds : PySem.Challenge.rw_heldground_k08_divisors_of_sets.Holds := by
  w_on; o_law; k_head; (case hw => w_witness2)
  k_fill
  refine L2.Hg.walk_ofG (l := PySem.Challenge.rw_heldground_k08_divisors_of_sets) (n := 63) (k := 9) (x := "_law_script") (sp := L2.Hg.spLaw) rfl (by decide) rfl ⟨rfl, by decide, by decide⟩ (fun w h Y => PySem.W.kIn_of Y) ?F (fun K H a ns hl hS => ⟨a, ns, rfl, hS, hl, fun _ => rfl⟩)
  case F =>
    intro w mg h KX G
    refine' L2.Hg.all_mk KX G ?a_GroundError ?bs_GroundError ?br_GroundError ?bf_GroundError ?a_InvalidNumbers ?x_InvalidNumbers ?sa_InvalidNumbers ?ex_InvalidNumbers ?ty_InvalidNumbers ?kc_InvalidNumbers ?i_InvalidNumbers ?ti_InvalidNumbers ?l_InvalidNumbers ?c_InvalidNumbers ?k_InvalidNumbers ?a_Numbers ?pg_Numbers ?hd_Numbers ?po_Numbers ?sa_Numbers ?mk_Numbers ?kc_Numbers ?i_Numbers ?if_Numbers ?l_Numbers ?c_Numbers ?k_Numbers ?t_Numbers ?v_Numbers ?le1 ?le2 ?i_Numbers__contains ?if_Numbers__contains ?l_Numbers__contains ?c_Numbers__contains ?k_Numbers__contains ?i_Numbers__bool ?if_Numbers__bool ?l_Numbers__bool ?c_Numbers__bool ?k_Numbers__bool ?i_Numbers__eq ?if_Numbers__eq ?l_Numbers__eq ?c_Numbers__eq ?k_Numbers__eq ?i_Numbers__sub ?if_Numbers__sub ?l_Numbers__sub ?c_Numbers__sub ?k_Numbers__sub ?i_Numbers__le ?if_Numbers__le ?l_Numbers__le ?c_Numbers__le ?k_Numbers__le ?i_Numbers_form ?if_Numbers_form ?l_Numbers_form ?c_Numbers_form ?k_Numbers_form ?i_Numbers_dividing ?if_Numbers_dividing ?l_Numbers_dividing ?c_Numbers_dividing ?k_Numbers_dividing ?cg_Numbers ?cr_Numbers ?i_Numbers_every ?pr_Numbers_every ?l_Numbers_every ?c_Numbers_every ?k_Numbers_every ?i_Numbers_multiples ?pr_Numbers_multiples ?l_Numbers_multiples ?c_Numbers_multiples ?k_Numbers_multiples ?na_aNum_listed ?na_aNum_since ?na_aNum_period ?na_aNum_rests ?na_aInv_word ?sfN ?niS ?neN ?obN ?caN ?cgN ?ctN ?z_int ?z_len ?z_abs ?z_range ?z_min ?z_max ?z_bool ?z_isinstance ?z_tuple ?z_list ?z_all ?z_sorted ?z_zip ?z_any ?a_law_box ?l_law_box ?c_law_box ?k_law_box ?a_law_take ?l_law_take ?c_law_take ?k_law_take ?a_law_pick ?l_law_pick ?c_law_pick ?k_law_pick ?a_law_some ?l_law_some ?c_law_some ?k_law_some ?a_law_divides ?l_law_divides ?c_law_divides ?k_law_divides ?a_law_common_divides ?l_law_common_divides ?c_law_common_divides ?k_law_common_divides ?a_law ?l_law ?c_law ?k_law ?a_is_integer ?l_is_integer ?c_is_integer ?k_is_integer ?a_all_from ?l_all_from ?c_all_from ?k_all_from ?a_is_told ?l_is_told ?c_is_told ?k_is_told ?a_least_period ?l_least_period ?c_least_period ?k_least_period ?a_least_form ?l_least_form ?c_least_form ?k_least_form ?a_greatest_common ?l_greatest_common ?c_greatest_common ?k_greatest_common ?a_merged ?l_merged ?c_merged ?k_merged ?a_divisors_of ?l_divisors_of ?c_divisors_of ?k_divisors_of
    (case a_GroundError => k_is)
    (case bs_GroundError => k_is)
    (case br_GroundError => k_is)
    (case bf_GroundError => k_is)
    (case a_InvalidNumbers => k_is)
    (case x_InvalidNumbers => k_is)
    (case sa_InvalidNumbers => k_is)
    (case ex_InvalidNumbers => k_is)
    (case ty_InvalidNumbers => k_is)
    (case kc_InvalidNumbers => k_is)
    (case i_InvalidNumbers => k_is)
    (case ti_InvalidNumbers => k_is)
    (case l_InvalidNumbers => k_is)
    (case c_InvalidNumbers => k_is)
    (case k_InvalidNumbers => k_is)
    (case a_Numbers => k_is)
    (case pg_Numbers => k_is)
    (case hd_Numbers => k_is)
    (case po_Numbers => k_is)
    (case sa_Numbers => k_is)
    (case mk_Numbers => k_is)
    (case kc_Numbers => k_is)
    (case i_Numbers => k_is)
    (case if_Numbers => k_is)
    (case l_Numbers => k_is)
    (case c_Numbers => k_is)
    (case k_Numbers => k_is)
    (case t_Numbers => k_is)
    (case v_Numbers => repeat (first | exact .nil | refine .cons (by first | rfl | exact ⟨_, rfl⟩) ?_))
    (case le1 => k_is)
    (case le2 => k_is)
    (case i_Numbers__contains => k_is)
    (case if_Numbers__contains => k_is)
    (case l_Numbers__contains => k_is)
    (case c_Numbers__contains => k_is)
    (case k_Numbers__contains => k_is)
    (case i_Numbers__bool => k_is)
    (case if_Numbers__bool => k_is)
    (case l_Numbers__bool => k_is)
    (case c_Numbers__bool => k_is)
    (case k_Numbers__bool => k_is)
    (case i_Numbers__eq => k_is)
    (case if_Numbers__eq => k_is)
    (case l_Numbers__eq => k_is)
    (case c_Numbers__eq => k_is)
    (case k_Numbers__eq => k_is)
    (case i_Numbers__sub => k_is)
    (case if_Numbers__sub => k_is)
    (case l_Numbers__sub => k_is)
    (case c_Numbers__sub => k_is)
    (case k_Numbers__sub => k_is)
    (case i_Numbers__le => k_is)
    (case if_Numbers__le => k_is)
    (case l_Numbers__le => k_is)
    (case c_Numbers__le => k_is)
    (case k_Numbers__le => k_is)
    (case i_Numbers_form => k_is)
    (case if_Numbers_form => k_is)
    (case l_Numbers_form => k_is)
    (case c_Numbers_form => k_is)
    (case k_Numbers_form => k_is)
    (case i_Numbers_dividing => k_is)
    (case if_Numbers_dividing => k_is)
    (case l_Numbers_dividing => k_is)
    (case c_Numbers_dividing => k_is)
    (case k_Numbers_dividing => k_is)
    (case cg_Numbers => k_is)
    (case cr_Numbers => k_is)
    (case i_Numbers_every => k_is)
    (case pr_Numbers_every => k_is)
    (case l_Numbers_every => k_is)
    (case c_Numbers_every => k_is)
    (case k_Numbers_every => k_is)
    (case i_Numbers_multiples => k_is)
    (case pr_Numbers_multiples => k_is)
    (case l_Numbers_multiples => k_is)
    (case c_Numbers_multiples => k_is)
    (case k_Numbers_multiples => k_is)
    (case na_aNum_listed => k_is)
    (case na_aNum_since => k_is)
    (case na_aNum_period => k_is)
    (case na_aNum_rests => k_is)
    (case na_aInv_word => k_is)
    (case sfN => k_is)
    (case niS => kernel_rfl)
    (case neN => k_is)
    (case obN => k_is)
    (case caN => k_is)
    (case cgN => k_is)
    (case ctN => k_is)
    (case z_int => k_is)
    (case z_len => k_is)
    (case z_abs => k_is)
    (case z_range => k_is)
    (case z_min => k_is)
    (case z_max => k_is)
    (case z_bool => k_is)
    (case z_isinstance => k_is)
    (case z_tuple => k_is)
    (case z_list => k_is)
    (case z_all => k_is)
    (case z_sorted => k_is)
    (case z_zip => k_is)
    (case z_any => k_is)
    (case a_law_box => k_is)
    (case l_law_box => k_is)
    (case c_law_box => k_is)
    (case k_law_box => k_is)
    (case a_law_take => k_is)
    (case l_law_take => k_is)
    (case c_law_take => k_is)
    (case k_law_take => k_is)
    (case a_law_pick => k_is)
    (case l_law_pick => k_is)
    (case c_law_pick => k_is)
    (case k_law_pick => k_is)
    (case a_law_some => k_is)
    (case l_law_some => k_is)
    (case c_law_some => k_is)
    (case k_law_some => k_is)
    (case a_law_divides => k_is)
    (case l_law_divides => k_is)
    (case c_law_divides => k_is)
    (case k_law_divides => k_is)
    (case a_law_common_divides => k_is)
    (case l_law_common_divides => k_is)
    (case c_law_common_divides => k_is)
    (case k_law_common_divides => k_is)
    (case a_law => k_is)
    (case l_law => k_is)
    (case c_law => k_is)
    (case k_law => k_is)
    (case a_is_integer => k_is)
    (case l_is_integer => k_is)
    (case c_is_integer => k_is)
    (case k_is_integer => k_is)
    (case a_all_from => k_is)
    (case l_all_from => k_is)
    (case c_all_from => k_is)
    (case k_all_from => k_is)
    (case a_is_told => k_is)
    (case l_is_told => k_is)
    (case c_is_told => k_is)
    (case k_is_told => k_is)
    (case a_least_period => k_is)
    (case l_least_period => k_is)
    (case c_least_period => k_is)
    (case k_least_period => k_is)
    (case a_least_form => k_is)
    (case l_least_form => k_is)
    (case c_least_form => k_is)
    (case k_least_form => k_is)
    (case a_greatest_common => k_is)
    (case l_greatest_common => k_is)
    (case c_greatest_common => k_is)
    (case k_greatest_common => k_is)
    (case a_merged => k_is)
    (case l_merged => k_is)
    (case c_merged => k_is)
    (case k_merged => k_is)
    (case a_divisors_of => k_is)
    (case l_divisors_of => k_is)
    (case c_divisors_of => k_is)
    (case k_divisors_of => k_is)
