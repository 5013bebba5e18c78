import PyProof.Rows.All
import Wide.All
import OpenK.AllK
import Wide.FinOn
import HandS.ForMost
import HandS.ForExc
import HandS.ExcInit
import HandS.IsInst
import HandS.ExcIs
import PyProof.Rows.NestShow
import HandS.Wide
import HandS.Steps
import HandS.Defaults
import PyProof.ReprLen
import PyProof.FitsInt
import HandS.Property
import HandS.TupMul
import HandS.Star
import HandS.CallSlots
import HandS.Style
import HandS.Walk
import HandS.ExcField
import HandS.DictComp
import HandS.SortInts
import HandS.Records
import PyProof.FactsAll.object_2
import HandS.Text
import HandS.FStr
import HandS.RaiseMore
import KE.KMinKey
import HandS.SortKw
import HandS.Conv
import HandS.ClsMeth
import HandS.CallLocal
import HandS.More
import HandS.OwnEq
import HandS.MakeKw
import KE.IntTextLaws
import PySem.Challenge.RW_heldground_k61_shares_made
section
set_option Elab.async false
set_option linter.all false
set_option maxRecDepth 100000
set_option maxHeartbeats 4000000
/-! Own errors of the package: the base's `__init__` called by the class's name, an error without arguments, an error with one field. -/
namespace L2
namespace Hg
open PySem PySem.Spec PyProof.Rows

/-- the base class at G has ValueError's own `__init__` -/
structure BaseInit (K : PySem.W.Frag) (G : Addr) : Prop where
  sp : PySem.W.specialIn K (.ref G) "__getattribute__" = some (some (.builtin "type.__getattribute__"))
  rd : PySem.W.readsIn K G (.type "type") = true
  fc : PySem.W.findCls K (.ref G) (.type "type") "__init__" = some (.val (.builtin "ValueError.__init__"))

section
variable {X : Cx} {e : Expr} {es : List Expr} {ta : TA} {p p1 p2 pos : Pos} {G C fI : Addr} {g x : Str}
theorem pe_ginit {pl : Sem Bool} (hg : Gl X g) (hm : X.mg g = some (.ref G)) (B : BaseInit X.K G) (ha : PA X (e :: es) ta)
    (hdb : (g == ("__debug__" : Str)) = false := by decide)
    (hc : eval (.Call (.Attribute (.Name g p1) "__init__" p2) (e :: es) [] pos) X.env = (do
      let ov ← eval (.Name g p1) X.env
      standAt p2.atName
      let (f, first) ← holding [ov] (getMethod ov "__init__" pl)
      callWith pos f first (backTo pos (starEach (e :: es) X.env)) (backToKw pos (keywordEach [] X.env))) := by rfl)
    (he : starEach (e :: es) X.env = (false, eval e X.env) :: starEach es X.env := by rfl)
    (hpl : (backTo pos (starEach es X.env)).any (·.1) = false := by rfl) :
    PE X (.Call (.Attribute (.Name g p1) "__init__" p2) (e :: es) [] pos) (tVeI X.K ta) := by
  refine ⟨fun pins s σ H Q I h => ?_⟩
  refine PySem.W.methodCall_KW (ld_glob I hg hm ?_ hdb) hc
  refine PySem.W.method_cls I.kIn B.sp (PySem.W.cls_value I.kIn B.rd B.fc (by decide +kernel) ?_)
  show wpAny _ _ (callWith pos (Value.builtin "ValueError.__init__") [] (backTo pos (starEach (e :: es) X.env)) []) _ _ _
  refine PyProof.Rows.callWith_method1 (thn (ha.run pos pins _ σ H _ (I.tok _) h) fun us s1 hq => ?_) he hpl
  obtain ⟨vs, H1, I1, r1, a, C, ws, ev, hl, T, ea, q⟩ := hq
  subst ev
  cases r1 with
  | @cons _ u0 _ ur ra rr =>
    obtain rfl : u0 = Value.ref a := ra
    have hz : ur.length ≤ sizeLine := by
      rw [← Paired.length rr, sizeLine_eq]; omega
    exact oinit_ok T I1 ea hz fun s' J => ⟨.non, H1, J, rfl, q⟩

/-- C(), the class's own `__init__` stores nothing -/
def tMkN (C : Addr) (sp : Sp) : St → Hp → XK → Prop := fun σ H Q => ∀ a, H a = none →
  sp [.ref a] (upd H a (exo a C none)) (fun v H2 => v = .non ∧ H2 a = some (exo a C none) ∧ Q (.ref C) none (del H2 a)) (fun _ _ _ => False)

theorem upd_del {H : Hp} {a : Addr} {o : HO} (h : H a = none) : del (upd H a o) a = H := by
  funext b
  unfold del
  by_cases hb : b = a
  · subst hb; rw [if_pos rfl, h]
  · rw [if_neg hb, upd_ne hb]

theorem mk_endN {pins : List (Addr × Obj)} {σ : St} {H1 H2 : Hp} {Q : XK} {hp hp2 h2 : Heap} {g1 g2 : Array GenState} {d1 d2 : Drawn} {t1 t2 : Nat} {os1 os2 : OsState} {a : Addr}
    (T : Raises X (.ref C)) (I1 : Inv X pins σ H1 ⟨hp, g1, d1, t1, os1⟩) (ha : hp.objs.size ≤ a)
    (k : ∀ b o, hp.get? b = some o → hp2.get? b = some o)
    (un : Un (frs X.stack) [] (upd H1 a (exo a C none)) H2 hp2 h2) (hok : HOk X.prog X.w H2 h2) (ho : os2 = os1) (hb : AllBare g2)
    (ea : H2 a = some (exo a C none)) (q : Q (.ref C) none (del H2 a)) : MkP X pins σ Q (.ref a) ⟨h2, g2, d2, t2, os2⟩ := by
  obtain ⟨t0, hoe⟩ := exo_at hok ea
  have hn : H1 a = none := I1.hok.fresh ha
  obtain ⟨Gh, gA, gB⟩ := restrict h2 fun b => decide (b ≠ a)
  have gk : ∀ b, b ≠ a → Gh.get? b = h2.get? b := fun b hb => gA b (decide_eq_true hb)
  have ge : Gh.get? a = none := gB a (by simp)
  have nha : ∀ {b : Addr} {o : Obj}, hp.get? b = some o → b ≠ a := fun {b o} z =>
    Nat.ne_of_lt (Nat.lt_of_lt_of_le (Heap.lt_size z) ha)
  have up : ∀ {b : Addr}, b ≠ a → H1 b = none → upd H1 a (exo a C none) b = none := fun {b} hb n => by
    rw [upd_ne hb]; exact n
  have U : Un (frs X.stack) [] H1 (del H2 a) hp Gh :=
    { keep := fun b o z n hf hx => by
        rw [gk b (nha z)]
        exact un.keep b o (k b o z) (up (nha z) n) hf hx
      slot := fun b o z n hf hx => by
        rw [gk b (nha z)]
        exact un.slot b o (k b o z) (up (nha z) n) hf hx
      free := fun b o z n hx => by
        rw [del_ne (nha z)]
        exact un.free b o (k b o z) (up (nha z) n) hx
      there := fun b o z hx => by
        rw [gk b (nha z)]
        exact un.there b o (k b o z) hx
      tups := fun b xs z => by
        rw [del_ne (ne_of_none z hn)]
        exact un.tups b xs ((upd_ne (ne_of_none z hn)).trans z)
      frzs := fun b o v z => by
        rw [del_ne (ne_of_none z hn)]
        exact un.frzs b o v ((upd_ne (ne_of_none z hn)).trans z)
      tbls := fun b ps z => by
        rw [del_ne (ne_of_none z hn)]
        exact un.tbls b ps ((upd_ne (ne_of_none z hn)).trans z) }
  have hok3 : HOk X.prog X.w (del H2 a) Gh := fun b o z => by
    have hba : b ≠ a := fun w => by rw [w, del_same] at z; cases z
    rw [del_ne hba] at z
    have noa : ∀ {c : Addr}, H2 c = some (.own b) → c ≠ a := fun {c} hc => at_ne ea hc exo_own
    refine (hok b o z).stay (fun c v hc y => ?_) (fun c hc => ?_) (fun c xs hc => ?_)
    · have hca : c ≠ a := by
        rcases hc with hc | hc
        · rw [hc]; exact hba
        · exact noa hc
      rw [gk c hca]; exact y
    · rw [del_ne (noa hc)]; exact hc
    · rw [del_ne (at_ne ea hc exo_tup)]; exact hc
  have J : Inv X pins σ (del H2 a) ⟨Gh, g2, d2, t2, os2⟩ := I1.call' (ch := []) ho U hok3 hb fun b z => absurd z (by simp)
  refine ⟨a, _, _, ⟨Gh, g2, d2, t2, os2⟩, _, .ref C, none, rfl, J, fun b o z => ?_, ge, hoe, ⟨rfl, rfl⟩, rfl, rfl, del_same, rfl, hb, T, q⟩
  by_cases hba : b = a
  · rw [hba] at z
    have z' : Gh.get? a = some o := z
    rw [ge] at z'; cases z'
  · exact (gk b hba).symm.trans z

theorem pmk_oexN {CX : CXT} {k : Nat} {fd : FuncData} {ps : List Str} {sp : Sp} (T : OexC X.K C)
    (iC : PySem.W.findIn X.K (.ref C) "__init__" = some (some (.ref fI))) (tI : PySem.W.typeIn X.K (.ref fI) = some (.type "function"))
    (F1 : FnOk X.prog X.w X.K X.mg X.base CX k fI fd ps sp) (hr : Room (k + 1) X.A) (hb : Binds X.K fd ps [])
    (hx : Passes CX X (fun _ _ _ => False)) (hg : Gl X x) (hm : X.mg x = some (.ref C))
    (hdb : (x == ("__debug__" : Str)) = false := by decide) : PMk X (.Call (.Name x p) [] [] pos) (tMkN C sp) := by
  intro pins s σ H Q I h
  obtain ⟨nm, q, N, bs, bm, sn, sub, ab, col, dd, k0, k1, k2, k3, k5, hC, hbm⟩ := T.cls
  refine wpAny_Call_Name_kw (ld_glob I hg hm ?_ hdb)
  refine PySem.W.callWith_K0 I.kIn T.kC ?_
  show wpAny _ _ (call (.ref C) []) _ _ _
  obtain ⟨hp, gs, dr, tk, os⟩ := s
  have hsz : hp.objs.size ≤ hp.objs.size + 1 := Nat.le_succ _
  have hn : H (hp.objs.size + 1) = none := I.hok.fresh hsz
  have hq := h (hp.objs.size + 1) hn
  have kk : ∀ b o, hp.get? b = some o → ((hp.push (PySem.W.kdv_tup [])).push (PySem.HandSPX.excO C hp.objs.size)).get? b = some o :=
    fun b o z => Heap.get?_push_of_some _ (Heap.get?_push_of_some _ z)
  have hget : ((hp.push (PySem.W.kdv_tup [])).push (PySem.HandSPX.excO C hp.objs.size)).get? (hp.objs.size + 1) = some (PySem.HandSPX.excO C hp.objs.size) := by heap_get
  have I2 : Inv X pins σ (upd H (hp.objs.size + 1) (exo (hp.objs.size + 1) C none)) ⟨(hp.push (PySem.W.kdv_tup [])).push (PySem.HandSPX.excO C hp.objs.size), gs, dr, tk, os⟩ :=
    I.laid (t' := tk) (a := hp.objs.size + 1) (o := exo (hp.objs.size + 1) C none) (h' := (hp.push (PySem.W.kdv_tup [])).push (PySem.HandSPX.excO C hp.objs.size)) kk hsz (exo_ok hget)
  have r2 : Vals [V.ref (hp.objs.size + 1)] [Value.ref (hp.objs.size + 1)] := .cons rfl .nil
  have hl : ([Value.ref (hp.objs.size + 1)] ++ []).length = ps.length := by
    have z := r2.length
    rw [F1.len _ _ _ _ hq] at z
    exact z.symm
  refine wpAny_call (PySem.HandSPX.call_own F.excBase_ValueError (fun Y => PySem.HandSPX.refsVE_contains Y bm hbm) (I.kIn _ _ hC) (PySem.W.looks_findIn I.kIn iC) (fun self => PySem.W.bind_fn I.kIn self tI) (Nat.zero_le _)
    (codeAny_mono (F1.run _ X.stack _ _ ⟨[Value.ref (hp.objs.size + 1)], []⟩ [Value.ref (hp.objs.size + 1)] _ _ (fun _ _ _ => False) (hr.make C [] []) (I2.env0.make C [] []) (hb _ [Value.ref (hp.objs.size + 1)] I2.kIn hl) r2 hq) fun r s' hq' => ?_))
  cases r with
  | error er => exact hx pins σ _ _ er s' I2 hq'
  | ok fl =>
    cases fl with
    | ret u =>
      obtain ⟨v, H2, os2, bare2, un2, hok2, rv, ev, ea, q2⟩ := hq'
      subst ev
      obtain ⟨h2, g2, d2, t2, os'⟩ := s'
      exact ⟨rv, mk_endN (raises_own T.exC T.tyC) I hsz kk un2 hok2 os2 bare2 ea q2⟩
    | next => exact False.elim hq'
    | brk => exact False.elim hq'
    | cont => exact False.elim hq'
end

/-! ### promises of the errors' `__init__` -/
/-- no field -/
def spInitN (K : PySem.W.Frag) (C : Addr) : Sp := fun vs H Q _ => ∃ a, vs = [.ref a] ∧ OexC K C ∧ H a = some (exo a C none) ∧ Q .non H
/-- one field f -/
def spInitF (K : PySem.W.Frag) (C : Addr) (f : Str) : Sp := fun vs H Q _ => ∃ a x, vs = [.ref a, x] ∧ OexC K C ∧ PySem.W.findIn K (.ref C) f = some none ∧ H a = some (exo a C none) ∧
  ∀ dx, H dx = none → dx ≠ a → Q .non (upd (upd H dx (exd dx [(f, x)])) a (exo a C (some dx)))
theorem upd_three {H : Hp} {a d : Addr} {o1 o2 o3 o4 : HO} (h : H a = none) (hd : d ≠ a) : upd (del (upd (upd (upd H a o1) d o2) a o3) a) d o4 = upd H d o4 := by
  funext b
  by_cases hb : b = d
  · subst hb; rw [upd_same, upd_same]
  · rw [upd_ne hb, upd_ne hb]
    by_cases hba : b = a
    · subst hba; rw [del_same, h]
    · rw [del_ne hba, upd_ne hba, upd_ne hb, upd_ne hba]
section
variable {K : PySem.W.Frag} {C : Addr} {f : Str} {σ : St} {H : Hp} {Q : XK}
/-- C() read -/
theorem r_mkN (T : OexC K C) (k : Q (.ref C) none H) : tMkN C (spInitN K C) σ H Q := by
  intro a ha
  refine ⟨a, rfl, T, upd_same, rfl, upd_same, ?_⟩
  rw [upd_del ha]
  exact k
/-- C(x) read -/
theorem r_mkF {x : V} {ta : TA} (T : OexC K C) (hf : PySem.W.findIn K (.ref C) f = some none)
    (h : ta σ H fun vs H1 => ∃ x, vs = [x] ∧ ∀ d, H1 d = none → Q (.ref C) (some d) (upd H1 d (.xd [(f, x)])))
    (mono : ∀ {P P' : List V → Hp → Prop}, (∀ vs H, P vs H → P' vs H) → ta σ H P → ta σ H P') : tMkO C (spInitF K C f) [] ta σ H Q := by
  refine mono (fun vs H1 hq => ?_) h
  obtain ⟨x, rfl, q⟩ := hq
  refine ⟨(by show 1 ≤ 1000; decide), fun a ha => ?_⟩
  refine ⟨a, x, rfl, T, hf, upd_same, fun dx hdx ne => ⟨rfl, dx, [(f, x)], upd_same, ?_, ?_, ?_⟩⟩
  · rw [upd_ne ne, upd_same]
  · rw [upd_ne ne] at hdx; exact hdx
  · rw [upd_three ha ne]
    rw [upd_ne ne] at hdx
    exact q dx hdx
end
end Hg
end L2
end

section
set_option Elab.async false
set_option linter.all false
set_option maxRecDepth 100000
set_option maxHeartbeats 4000000
/-! Promises that hold where no repr is under way (guards empty), and repr of data. -/
namespace L2
namespace Hg
open PySem PySem.Spec PyProof.Rows

/-- a def's promise, asked where no guard is set -/
structure FnG (P : Program) (w : World) (K : PySem.W.Frag) (mg : Str → Option Value) (base : Heap) (CX : CXT) (k : Nat) (f : Addr) (fd : FuncData) (ps : List Str) (sp : Sp) : Prop where
  len : ∀ vs H Q E, sp vs H Q E → vs.length = ps.length
  run : ∀ (A : Around) (outer : List Env) (s : Shared) (H : Hp) (args : Args) (us : List Value) (vs : List V) (Q : VK) (E : XK),
    A.guards = some [] → Room k A → Env0 P w K mg base A outer s H → BindsTo s fd args (ps.zip us) → Vals vs us → sp vs H Q E →
    codeAny (model P w) A (.call (.ref f) args) (CR CX outer P w H s Q E) s

section
variable {P : Program} {w : World} {K : PySem.W.Frag} {mg : Str → Option Value} {base : Heap} {CX : CXT} {j k : Nat} {f : Addr} {fd : FuncData} {ps : List Str} {sp : Sp}
theorem _root_.L2.FnOk.g (F : FnOk P w K mg base CX k f fd ps sp) : FnG P w K mg base CX k f fd ps sp :=
  ⟨F.len, fun A outer s H args us vs Q E _ => F.run A outer s H args us vs Q E⟩

theorem fn_ofG {name qual : Str} {params : Arguments} {body : List Stmt} {scope : Scope} {dV kV doc pm cdv ct oc : Value} {an od : Option Addr}
    {osl : Array (Option Value)} {N : List Str} (lk : K.lookup f = some ⟨oc, od, .func (PySem.W.fnOf name qual params body scope dV kV doc pm an cdv ct), osl⟩)
    (hcd : PySem.W.codeIn K cdv qual = true) (S : FnScope N ps scope)
    (len : ∀ vs H Q E, sp vs H Q E → vs.length = ps.length)
    (hbody : ∀ (A : Around) (outer : List Env) (s : Shared) (H : Hp) (vs : List V) (Q : VK) (E : XK), A.guards = some [] →
      Room k (A.deeper (envOfC qual scope s.heap.objs.size f cdv)) → sp vs H Q E →
      ∃ t, PSs (cxOf CX P w K mg base N qual scope f cdv A outer s H E) body t ∧ t { nx := fun _ H' => Q .non H', rt := Q } (start N vs) H) :
    FnG P w K mg base CX (k + 1) f (PySem.W.fnOf name qual params body scope dV kV doc pm an cdv ct) ps sp := by
  constructor
  · exact len
  intro A outer s H args us vs Q E hgd hr e0 hb r hsp
  have hl := len _ _ _ _ hsp
  have old : ∀ b o, base.get? b = some o → s.heap.get? b = some o := fun b o z => (e0.bs b o z).1
  have KX : K.In s.heap := e0.mod.kin.keeps old
  have lim : s.heap.NoLimit := e0.mod.nolimit.keeps old
  have hkind : ∀ y ∈ ps.zip us, scope.names.lookup y.1 = some .local ∨
      (scope.names.lookup y.1 = some .cell ∧ ((cellsFrom (s.heap.objs.size + 1) scope.names []).lookup y.1).isSome = true) := by
    rintro ⟨n, v⟩ hy
    rcases S.par n (List.of_mem_zip hy).1 with q | q
    · exact Or.inl q
    · exact Or.inr ⟨q, PySem.W.cellsFrom_some _ _ _ (.inl q)⟩
  refine codeAny_call_function hr.depth (KX _ _ lk) rfl S.co S.gen rfl (PySem.W.codeRec_of KX hcd) (hb _ _ _ _ ?_)
  refine wpAny_newFunctionEnv_cells S.kind hkind fun env he s1 x => ?_
  subst he
  refine ⟨lim.keeps x.toInCall.keep, codeAny_func ?_⟩
  obtain ⟨t, ht, hq⟩ := hbody A outer s H vs Q E hgd (hr.deeper _) hsp
  have I : Inv (cxOf CX P w K mg base N qual scope f cdv A outer s H E) [] (start N vs) H s1 := inv_start S hr.hd e0 hl r x
  have fin : ∀ {s' : Shared} {σ' : St} {H' : Hp} {v : V} {u : Value}, Inv (cxOf CX P w K mg base N qual scope f cdv A outer s H E) [] σ' H' s' →
      RelV v u → Q v H' → CE outer P w H s Q u s' := fun J rv q => ⟨_, _, J.os, J.bare, J.base, J.hok, rv, q⟩
  refine wpAny_mono (ht.run [] s1 (start N vs) H _ I hq) (fun fl s' hs => ?_) fun e s' hs => hs
  cases fl with
  | ret u =>
    obtain ⟨v, σ', H', J, rv, q⟩ := hs
    exact fin J rv q
  | next =>
    obtain ⟨σ', H', J, q⟩ := hs
    exact fin (v := V.non) (u := Value.none) J rfl q
  | brk =>
    obtain ⟨_, _, _, q⟩ := hs
    cases q
  | cont =>
    obtain ⟨_, _, _, q⟩ := hs
    cases q

/-- a def of the text, by its body; no error leaves it -/
theorem okG {x qual : Str} {st : Stmt} {N : List Str} (F : Fun K x qual st f fd) (S : FnScope N ps (defScope st)) (len : ∀ vs H Q E, sp vs H Q E → vs.length = ps.length)
    (hbody : ∀ (cdv : Value) (A : Around) (outer : List Env) (s : Shared) (H : Hp) (vs : List V) (Q : VK) (E : XK), A.guards = some [] →
      Room k (A.deeper (envOfC qual (defScope st) s.heap.objs.size f cdv)) → sp vs H Q E →
      ∃ t, PSs (cxOf CX0 P w K mg base N qual (defScope st) f cdv A outer s H E).nox (defBody st) t ∧ t { nx := fun _ H' => Q .non H', rt := Q } (start N vs) H) :
    FnG P w K mg base CX0 (k + 1) f fd ps sp := by
  obtain ⟨oc, od, kV, doc, pm, an, cdv, ct, osl, rfl, lk, hcd⟩ := F.ex
  refine fn_ofG lk hcd S len fun A outer s H vs Q E hg hr hsp => ?_
  obtain ⟨t, h, q⟩ := hbody cdv A outer s H vs Q E hg hr hsp
  exact ⟨t, h.nox, q⟩
end

section
variable {X : Cx} {CX : CXT} {k : Nat} {f C : Addr} {fd : FuncData} {ps : List Str} {sp : Sp} {dvs : List V} {ds : List Value} {E : XK} {x m : Str} {p pos apos : Pos} {e o : Expr} {es : List Expr} {ta : TE} {t : TA}
theorem run_fnG {pins : List (Addr × Obj)} {σ : St} {H : Hp} {s : Shared} {Q : VK} {us : List Value} {vs : List V} (F : FnG X.prog X.w X.K X.mg X.base CX k f fd ps sp)
    (hg : X.A.guards = some []) (hr : Room k X.A) (hb : Binds X.K fd ps ds) (hd : Vals dvs ds) (hx : Passes CX X E)
    (I : Inv X pins σ H s) (r : Vals vs us) (h : sp (vs ++ dvs) H Q E) : wpAny (model X.prog X.w) X.A (call (.ref f) us) (EP X pins σ Q) X.xe s := by
  have r2 : Vals (vs ++ dvs) (us ++ ds) := r.append hd
  have hl : (us ++ ds).length = ps.length := by
    rw [← r2.length]
    exact F.len _ _ _ _ h
  have main := F.run X.A X.stack s H ⟨us, []⟩ (us ++ ds) (vs ++ dvs) Q E hg hr I.env0 (hb s us I.kIn hl) r2 h
  refine wpAny_call (codeAny_mono main fun r s' hq => ?_)
  cases r with
  | error er => exact hx pins σ H s er s' I hq
  | ok fl =>
    cases fl with
    | ret u => exact I.after hq
    | next => exact False.elim hq
    | brk => exact False.elim hq
    | cont => exact False.elim hq
theorem pe_callG (F : FnG X.prog X.w X.K X.mg X.base CX k f fd ps sp) (hgd : X.A.guards = some []) (hr : Room k X.A) (hg : Gl X x) (hm : X.mg x = some (.ref f)) (hk : PySem.W.keepIn X.K (.ref f) = true)
    (hb : Binds X.K fd ps ds) (hd : Vals dvs ds) (hx : Passes CX X E) (ha : PA X (e :: es) t) (hdb : (x == ("__debug__" : Str)) = false := by decide)
    (he : starEach (e :: es) X.env = (false, eval e X.env) :: starEach es X.env := by rfl) (hpl : (backTo pos (starEach es X.env)).any (·.1) = false := by rfl) :
    PE X (.Call (.Name x p) (e :: es) [] pos) (tCall sp dvs E t) := by
  refine ⟨fun pins s σ H Q I h => wpAny_Call_Name_kw (ld_glob I hg hm ?_ hdb)⟩
  exact PySem.W.callWith_K (h₀ := X.base) I.ok.mod.kin hk (thn (ha.run pos pins s σ H _ I h) fun us s1 ⟨vs, H1, I1, r, q⟩ => ⟨I1.kIn, run_fnG F hgd hr hb hd hx I1 r q⟩) he hpl
theorem pe_callG0 (F : FnG X.prog X.w X.K X.mg X.base CX k f fd ps sp) (hgd : X.A.guards = some []) (hr : Room k X.A) (hg : Gl X x) (hm : X.mg x = some (.ref f)) (hk : PySem.W.keepIn X.K (.ref f) = true)
    (hb : Binds X.K fd ps ds) (hd : Vals dvs ds) (hx : Passes CX X E) (hdb : (x == ("__debug__" : Str)) = false := by decide) : PE X (.Call (.Name x p) [] [] pos) (tCall sp dvs E tNil) := by
  refine ⟨fun pins s σ H Q I h => wpAny_Call_Name_kw (ld_glob I hg hm ?_ hdb)⟩
  exact PySem.W.callWith_K0 I.kIn hk (run_fnG (us := []) F hgd hr hb hd hx I .nil h)

/-- repr of data -/
def rRepr (K : PySem.W.Frag) : List V → Hp → VK → Prop := fun vs H Q => ∃ x d, vs = [x] ∧ Dp K H x d ∧ d.showable = true ∧ d.hasDict = false ∧ d.depth ≤ 60 ∧ d.shown.length ≤ sizeLine ∧ Q (.str d.shown) H
theorem call_repr (hgd : X.A.guards = some []) (hr : X.A.units + 64 < cLine) : CallR X (.builtin "repr") (rRepr X.K) := by
  intro pins s σ H vs us Q I r h
  obtain ⟨x, d, rfl, hd, hs, hn, hz, hl, q⟩ := h
  obtain ⟨u, rfl, rx⟩ := vals1 r
  obtain ⟨as, rd⟩ := Dp.reads I d x u hd rx
  cases d with
  | none => cases rd; exact PySem.P.repr_of_none ⟨.str _, H, I.tok _, ⟨_, rfl⟩, q⟩
  | bool b => cases rd; exact PySem.P.repr_of_bool ⟨.str _, H, I.tok _, ⟨_, rfl⟩, q⟩
  | int i => cases rd; exact PySem.P.repr_of_int (by simpa [PyData.showable] using hs) ⟨.str _, H, I.tok _, ⟨_, rfl⟩, q⟩
  | str y => cases rd; exact PySem.P.repr_of_str ⟨.str _, H, I.tok _, ⟨_, rfl⟩, q⟩ hl
  | list xs =>
    have hh := hd
    cases hh
    cases (show u = Value.ref _ from rx)
    exact repr_of_reads' rd hs (PyData.noDict_hsm hn) hgd (by omega) (fun _ _ z => z) (fun h' u tk hk => ⟨.str _, H, I.kept (t' := tk) hk, ⟨u, rfl⟩, q⟩) hl
  | tuple xs =>
    have hh := hd
    cases hh
    cases (show u = Value.ref _ from rx)
    exact repr_of_reads' rd hs (PyData.noDict_hsm hn) hgd (by omega) (fun _ _ z => z) (fun h' u tk hk => ⟨.str _, H, I.kept (t' := tk) hk, ⟨u, rfl⟩, q⟩) hl
  | dict _ => cases hn
end
end Hg
end L2
end

section
set_option Elab.async false
set_option linter.all false
set_option maxRecDepth 100000
set_option maxHeartbeats 4000000
/-! One rule an operator, for all the kinds that the package uses; readings in steps. -/
namespace L2
namespace Hg
open PySem PySem.Spec PyProof.Rows

/-! ### operators by values -/
def uAddI : R2 := rI0 fun i j => .int (i + j)
def uAddS : R2 := fun x y H Q => ∃ i j, x = .str i ∧ y = .str j ∧ i.length + j.length ≤ sizeLine ∧ Q (.str (i ++ j)) H
def uAdd (K : PySem.W.Frag) : R2 := fun x y H Q => uAddI x y H Q ∨ uAddS x y H Q ∨ rCat x y H Q ∨ rCatT K x y H Q
def uSub : R2 := rI0 fun i j => .int (i - j)
def uMul : R2 := fun x y H Q => rI CMul (fun i j => .int (i * j)) x y H Q ∨ rI CMulW (fun i j => .int (i * j)) x y H Q ∨ rRep x y H Q
def uDiv : R2 := fun x y H Q => rI CDiv (fun i j => .int (i / j)) x y H Q ∨ rI CDivW (fun i j => .int (i / j)) x y H Q
def uMod : R2 := rI (fun _ j => 0 < j) fun i j => .int (i % j)
def uPow : R2 := rI CPow fun i j => .int (i ^ j.toNat)
def uLt : R2 := rI0 fun i j => .bl (decide (i < j))
def uLe : R2 := rI0 fun i j => .bl (decide (i ≤ j))
def uGt : R2 := rI0 fun i j => .bl (decide (j < i))
def uGe : R2 := rI0 fun i j => .bl (decide (j ≤ i))
def uEq (K : PySem.W.Frag) : R2 := fun x y H Q => rEq x y H Q ∨ rEqD K x y H Q
def uNe (K : PySem.W.Frag) : R2 := fun x y H Q => rNe x y H Q ∨ rNeD K x y H Q
def uIn (K : PySem.W.Frag) : R2 := fun x y H Q => rIn K false x y H Q ∨ rInS x y H Q
def uNotIn (K : PySem.W.Frag) : R2 := fun x y H Q => rIn K true x y H Q ∨ rNotInS x y H Q
section
variable {X : Cx}
theorem o_add (K : PySem.W.Frag) (hK : X.K = K := by rfl) : OpR X (binaryOp .Add) (uAdd K) := hK ▸ OpR.or op_add (OpR.or op_add_str (OpR.or op_cat op_catT))
theorem o_sub : OpR X (binaryOp .Sub) uSub := op_sub
theorem o_mul : OpR X (binaryOp .Mult) uMul := OpR.or op_mul (OpR.or op_mulW op_rep)
theorem o_div : OpR X (binaryOp .FloorDiv) uDiv := OpR.or op_fdiv op_fdivW
theorem o_mod : OpR X (binaryOp .Mod) uMod := op_mod
theorem o_pow : OpR X (binaryOp .Pow) uPow := op_pow
theorem o_lt : OpR X (compareOp .Lt) uLt := op_lt
theorem o_le : OpR X (compareOp .LtE) uLe := op_le
theorem o_gt : OpR X (compareOp .Gt) uGt := op_gt
theorem o_ge : OpR X (compareOp .GtE) uGe := op_ge
theorem o_eq (K : PySem.W.Frag) (hu : X.A.units + 64 < cLine) (hK : X.K = K := by rfl) : OpR X (compareOp .Eq) (uEq K) := hK ▸ OpR.or op_eq (op_eqD hu)
theorem o_ne (K : PySem.W.Frag) (hu : X.A.units + 64 < cLine) (hK : X.K = K := by rfl) : OpR X (compareOp .NotEq) (uNe K) := hK ▸ OpR.or op_ne (op_neD hu)
theorem o_in (K : PySem.W.Frag) (hK : X.K = K := by rfl) : OpR X (compareOp .In) (uIn K) := hK ▸ OpR.or op_in_seq op_inS
theorem o_notIn (K : PySem.W.Frag) (hK : X.K = K := by rfl) : OpR X (compareOp .NotIn) (uNotIn K) := hK ▸ OpR.or op_notIn_seq op_notInS
theorem o_is : OpR X (compareOp .Is) rIsN := op_isN1
theorem o_isNot : OpR X (compareOp .IsNot) rNotN := op_notN1
theorem ix_u (K : PySem.W.Frag) (hK : X.K = K := by rfl) : IxR X (rIx K) := hK ▸ ix_seq
end

/-! ### calls of built-ins by values -/
def uLen (K : PySem.W.Frag) : List V → Hp → VK → Prop := fun xs H Q => (∃ x n, xs = [x] ∧ LenV K x H n ∧ Q (.int n) H) ∨ ∃ a kvs, xs = [V.ref a] ∧ H a = some (.dK kvs) ∧ Q (.int kvs.length) H
def uAbs : List V → Hp → VK → Prop := fun xs H Q => ∃ i, xs = [.int i] ∧ Q (.int (if i < 0 then -i else i)) H
def uMin2 : List V → Hp → VK → Prop := fun xs H Q => ∃ i j, xs = [.int i, .int j] ∧ Q (.int (if j < i then j else i)) H
def uMax2 : List V → Hp → VK → Prop := fun xs H Q => ∃ i j, xs = [.int i, .int j] ∧ Q (.int (if j > i then j else i)) H
def uInt : List V → Hp → VK → Prop := fun xs H Q => ((∃ i, xs = [.int i] ∧ Q (.int i) H) ∨ ∃ k, xs = [.bl k] ∧ Q (.int (if k then 1 else 0)) H) ∨ ∃ a n, xs = [.str a] ∧ PySem.intText? a = some n ∧ a.length ≤ 640 ∧ Q (.int n) H
def uList (K : PySem.W.Frag) : List V → Hp → VK → Prop := fun xs H Q => ∃ p ys, xs = [.ref p] ∧ (SqL K H p ys ∨ SqT K H p ys) ∧ ∀ l, H l = none → Q (.ref l) (upd H l (.lst ys))
def uTuple (K : PySem.W.Frag) : List V → Hp → VK → Prop := fun xs H Q => ∃ p ys, xs = [.ref p] ∧ ((SqL K H p ys ∧ ∀ l, H l = none → Q (.ref l) (upd H l (.tup ys))) ∨ (SqT K H p ys ∧ Q (.ref p) H))
section
variable {X : Cx}
theorem c_len (K : PySem.W.Frag) (hK : X.K = K := by rfl) : CallR X (.builtin "len") (uLen K) := hK ▸ CallR.or call_len call_lenD
theorem c_abs : CallR X (.builtin "abs") uAbs := call_abs
theorem c_min2 (hc : X.calm = true) : CallR X (.builtin "min") uMin2 := call_min2 hc
theorem c_max2 (hc : X.calm = true) : CallR X (.builtin "max") uMax2 := call_max2 hc
theorem c_int : CallR X (.type "int") uInt := CallR.or call_int1 call_int_str
theorem c_list (K : PySem.W.Frag) (hK : X.K = K := by rfl) : CallR X (.type "list") (uList K) := hK ▸ call_list_of
theorem c_tuple (K : PySem.W.Frag) (hK : X.K = K := by rfl) : CallR X (.type "tuple") (uTuple K) := hK ▸ call_tuple_of
theorem c_isi (K : PySem.W.Frag) (hK : X.K = K := by rfl) : CallR X (.builtin "isinstance") (rIsi K) := hK ▸ call_isi
theorem c_isiT (K : PySem.W.Frag) (hK : X.K = K := by rfl) : CallR X (.builtin "isinstance") (rIsiT K) := hK ▸ call_isiT
theorem c_repr (K : PySem.W.Frag) (hgd : X.A.guards = some []) (hr : X.A.units + 64 < cLine) (hK : X.K = K := by rfl) : CallR X (.builtin "repr") (rRepr K) := hK ▸ call_repr hgd hr
theorem c_sum (K : PySem.W.Frag) (hc : X.calm = true) (hK : X.K = K := by rfl) : CallR X (.builtin "sum") (rSum K) := hK ▸ cr_sum hc
theorem c_all (K : PySem.W.Frag) (hc : X.calm = true) (hK : X.K = K := by rfl) : CallR X (.builtin "all") (rAll K) := hK ▸ cr_all hc
theorem c_any (K : PySem.W.Frag) (hc : X.calm = true) (hK : X.K = K := by rfl) : CallR X (.builtin "any") (rAny K) := hK ▸ cr_any hc
end

/-! ### names of the module -/
section
variable {X : Cx} {x : Str} {pos : Pos}
theorem pe_gI {i : Int} (hg : Gl X x) (hm : ∃ t, X.mg x = some (.int i t)) (hd : (x == ("__debug__" : Str)) = false := by decide) : PE X (.Name x pos) (tC (.int i)) :=
  let ⟨_, h⟩ := hm
  pe_glob hg h ⟨_, rfl⟩ hd
theorem pe_gS {z : Str} (hg : Gl X x) (hm : ∃ t, X.mg x = some (.str z t)) (hd : (x == ("__debug__" : Str)) = false := by decide) : PE X (.Name x pos) (tC (.str z)) :=
  let ⟨_, h⟩ := hm
  pe_glob hg h ⟨_, rfl⟩ hd
theorem pe_gR {a : Addr} (hg : Gl X x) (hm : X.mg x = some (.ref a)) (hd : (x == ("__debug__" : Str)) = false := by decide) : PE X (.Name x pos) (tC (.ref a)) :=
  pe_glob hg hm rfl hd
theorem pe_bT {T : String} (hg : Gl X x) (hm : X.mg x = none) (hv : bootBuiltins x = some (.type T)) (hn : x ≠ "__name__" := by decide) (hd : (x == ("__debug__" : Str)) = false := by decide) : PE X (.Name x pos) (tC (.ty T)) :=
  pe_bltn hg hm hv rfl hn hd
end

/-! ### the written part by its name -/
section
variable {X : Cx} {a : Expr} {ta : TE} {K : PySem.W.Frag}
def tTr (K : PySem.W.Frag) (ta : TE) : TT := fun σ H Q => ta σ H fun x H' => ∃ k, TruV K x H' k ∧ Q k H'
theorem pt_tr (K : PySem.W.Frag) (ha : PE X a ta) (he : ∀ whole, isTrue a X.env whole = (do let v ← whole; standAt a.pos; holding [v] (truthy v)) := by intro _; rfl) (hK : X.K = K := by rfl) :
    PT X a (tTr K ta) := hK ▸ pt_truth ha he
theorem pe_fl {e : Expr} {f : Str} {pos : Pos} (K : PySem.W.Frag) (ha : PE X e ta) (hb : attributeBase e f X.env (eval e X.env) = eval e X.env := by rfl) (hK : X.K = K := by rfl) : PE X (.Attribute e f pos) (tFld K ta f) := hK ▸ pe_fld ha hb
theorem ps_fl {o value : Expr} {f : Str} {pos' pos : Pos} {tv : TE} (K : PySem.W.Frag) (ho : PE X o ta) (hv : PE X value tv) (hs : swapsWith value (some (.Attribute o f pos')) pos.line X.env = pure false := by rfl) (hK : X.K = K := by rfl) :
    PS X (.Assign [.Attribute o f pos'] value pos) (sFld K ta tv f) := hK ▸ ps_fld ho hv hs
end

section
variable {X : Cx} {tg e : Expr} {t : TE}
theorem pi_l (K : PySem.W.Frag) (ha : PE X e t) (hK : X.K = K := by rfl) : PI X tg e (iList K t) := hK ▸ pi_list ha
theorem pg_l {es : List Expr} {k n : Nat} {t : TGs} {pos : Pos} (K : PySem.W.Frag) (hc : X.calm = true) (h : PGs X es t) (hn : (assignEach es X.env).length = n := by rfl) (hst : (assignEach es X.env).findIdx? (·.1) = none := by rfl) (hK : X.K = K := by rfl) :
    PG X (.Tuple es k pos) (gLst K n t) := hK ▸ pg_lst hc h hn hst
theorem pg_t {es : List Expr} {k n : Nat} {t : TGs} {pos : Pos} (K : PySem.W.Frag) (hc : X.calm = true) (h : PGs X es t) (hn : (assignEach es X.env).length = n := by rfl) (hst : (assignEach es X.env).findIdx? (·.1) = none := by rfl) (hK : X.K = K := by rfl) :
    PG X (.Tuple es k pos) (gTup K n t) := hK ▸ pg_tup hc h hn hst
theorem pi_t (K : PySem.W.Frag) (ha : PE X e t) (hK : X.K = K := by rfl) : PI X tg e (iTup K t) := hK ▸ pi_tup ha
end
/-! ### errors that pass -/
section
variable {X : Cx}
theorem passF {P : Program} {w : World} : Passes (L2.CX P w) X E0 := by
  intro pins σ H s e s' I c
  obtain ⟨a, B, H', cls, d, _, _, _, _, _, _, _, h⟩ := c
  exact h.elim
theorem passT {E : XK} (tk : Takes X (fun cls d _ H => E cls d H)) : Passes (L2.CX X.prog X.w) X E := passes_call tk fun _ _ _ _ z => z
variable {CX : CXT} {k : Nat} {f C : Addr} {fd : FuncData} {ps : List Str} {sp : Sp} {dvs : List V} {ds : List Value} {E : St → XK} {x m : Str} {p pos apos : Pos} {e o : Expr} {es : List Expr} {ta : TE} {t : TA}
/-- C(..) where what is raised is wished at the slots -/
def tMakeS (C : Addr) (sp : Sp) (dvs : List V) (E : St → XK) (t : TA) : TE := fun σ H Q => t σ H fun vs H1 => ∀ x dx, H1 x = none → H1 dx = none → dx ≠ x →
  sp (.ref x :: (vs ++ dvs)) (upd (upd H1 dx (.own x)) x (.ins C dx [])) (fun v H2 => v = .non ∧ Q (.ref x) H2) (E σ)
theorem run_makeS {pins : List (Addr × Obj)} {σ : St} {H : Hp} {s : Shared} {Q : VK} {us : List Value} {vs : List V} (M : Mk X.K C f) (F : FnOk X.prog X.w X.K X.mg X.base CX k f fd ps sp) (hr : Room (k + 1) X.A)
    (hb : Binds X.K fd ps ds) (hd : Vals dvs ds) (hx : PassesAt CX X σ (E σ)) (I : Inv X pins σ H s) (r : Vals vs us)
    (h : ∀ x dx, H x = none → H dx = none → dx ≠ x → sp (.ref x :: (vs ++ dvs)) (upd (upd H dx (.own x)) x (.ins C dx [])) (fun v H2 => v = .non ∧ Q (.ref x) H2) (E σ)) :
    wpAny (model X.prog X.w) X.A (call (.ref C) us) (EP X pins σ Q) X.xe s := by
  have hq := h (s.heap.objs.size + 1) s.heap.objs.size (I.hok.fresh (Nat.le_succ _)) (I.hok.fresh (Nat.le_refl _)) (Nat.ne_of_lt (Nat.lt_succ_self _))
  have I2 := Inv.made (C := C) I
  have r2 : Vals (V.ref (s.heap.objs.size + 1) :: (vs ++ dvs)) (Value.ref (s.heap.objs.size + 1) :: (us ++ ds)) := .cons rfl (r.append hd)
  have hl : (Value.ref (s.heap.objs.size + 1) :: us ++ ds).length = ps.length := by
    have z := r2.length
    rw [F.len _ _ _ _ hq] at z
    exact z.symm
  have main := F.run _ X.stack _ _ ⟨Value.ref (s.heap.objs.size + 1) :: us, []⟩ (Value.ref (s.heap.objs.size + 1) :: (us ++ ds)) _ _ (E σ) (hr.make C us [])
    (I2.env0.make C us []) (hb _ (Value.ref (s.heap.objs.size + 1) :: us) I2.kIn hl) r2 hq
  refine wpAny_call (make_map (f := f) I.kIn M.makes M.init (beq_iff_eq.mp M.fn) (codeAny_mono main fun r s' hq' => ?_))
  cases r with
  | error er => exact hx pins _ _ er s' I2 hq'
  | ok fl =>
    cases fl with
    | ret u =>
      obtain ⟨v, H', I3, rv, ev, q3⟩ := I2.after hq'
      subst ev
      exact ⟨rv, ⟨V.ref (s.heap.objs.size + 1), H', I3, rfl, q3⟩⟩
    | next => exact False.elim hq'
    | brk => exact False.elim hq'
    | cont => exact False.elim hq'
theorem pe_makeS (M : Mk X.K C f) (F : FnOk X.prog X.w X.K X.mg X.base CX k f fd ps sp) (hr : Room (k + 1) X.A) (hg : Gl X x) (hm : X.mg x = some (.ref C)) (hb : Binds X.K fd ps ds) (hd : Vals dvs ds) (hx : ∀ σ, PassesAt CX X σ (E σ))
    (ha : PA X (e :: es) t) (hdb : (x == ("__debug__" : Str)) = false := by decide) (he : starEach (e :: es) X.env = (false, eval e X.env) :: starEach es X.env := by rfl) (hpl : (backTo pos (starEach es X.env)).any (·.1) = false := by rfl) :
    PE X (.Call (.Name x p) (e :: es) [] pos) (tMakeS C sp dvs E t) := by
  refine ⟨fun pins s σ H Q I h => wpAny_Call_Name_kw (ld_glob I hg hm ?_ hdb)⟩
  exact PySem.W.callWith_K (h₀ := X.base) I.ok.mod.kin M.kp (thn (ha.run pos pins s σ H _ I h) fun us s1 ⟨vs, H1, I1, r, q⟩ => ⟨I1.kIn, run_makeS M F hr hb hd (hx σ) I1 r q⟩) he hpl
end
end Hg
end L2
end

section
set_option Elab.async false
set_option linter.all false
set_option maxRecDepth 100000
set_option maxHeartbeats 4000000
/-! Readings, one step each (each is a reading's own definition, turned into a rule to be applied backwards). -/
namespace L2
namespace Hg
open PySem PySem.Spec PyProof.Rows
section
variable {K : PySem.W.Frag} {σ : St} {H : Hp} {Q : VK} {QB : Bool → Hp → Prop} {QL : List V → Hp → Prop} {QS : St → Hp → Prop} {D : Ends} {v x y : V} {i j : Nat} {ta tb tc te : TE} {t u : TT} {tl tr : TA} {ts t1 t2 : TS}
theorem sz {n : Nat} (h : n ≤ 100000) : n ≤ sizeLine := Nat.le_trans h (by decide)
theorem szl {n : Nat} (h : Nat.ble n 100000 = true) : n ≤ sizeLine := sz (Nat.le_of_ble_eq_true h)
theorem szlt {n : Nat} (h : Nat.ble n 100000 = true) : n < sizeLine := Nat.lt_of_le_of_lt (Nat.le_of_ble_eq_true h) (by decide : 100000 < sizeLine)
theorem at_upd {p q : Addr} {o u : HO} (n : q ≠ p) (h : H q = some o) : upd H p u q = some o := (upd_ne n).trans h
theorem free_upd {p q : Addr} {o : HO} (h : upd H p o q = none) : H q = none ∧ q ≠ p := by
  by_cases e : q = p
  · subst e; rw [upd_same] at h; cases h
  · exact ⟨(upd_ne e).symm.trans h, e⟩
/-! ### expressions -/
theorem r_var (h : σ[i]? = some (some v)) (k : Q v H) : tVar i σ H Q := ⟨v, h, k⟩
theorem r_c (k : Q v H) : tC v σ H Q := k
theorem r_op {r : R2} (k : ta σ H fun x H1 => tb σ H1 fun y H2 => r x y H2 Q) : tOp r ta tb σ H Q := k
theorem r_un {r : V → Hp → VK → Prop} (k : ta σ H fun x H1 => r x H1 Q) : tUn r ta σ H Q := k
theorem r_neg {a : Int} (k : Q (.int (-a)) H) : (rU fun i => .int (-i)) (.int a) H Q := ⟨a, rfl, k⟩
theorem r_cb {r : List V → Hp → VK → Prop} (k : tl σ H fun vs H1 => r vs H1 Q) : tCB r tl σ H Q := k
theorem r_nil (k : QL [] H) : tNil σ H QL := k
theorem r_cons (k : ta σ H fun x H1 => tr σ H1 fun xs H2 => QL (x :: xs) H2) : tCons ta tr σ H QL := k
theorem r_call {sp : Sp} {dvs : List V} {E : XK} (k : tl σ H fun vs H1 => sp (vs ++ dvs) H1 Q E) : tCall sp dvs E tl σ H Q := k
theorem r_callS {sp : Sp} {E : St → XK} (k : tl σ H fun vs H1 => sp vs H1 Q (E σ)) : tCallS sp E tl σ H Q := k
theorem r_tup (k : tl σ H fun xs H1 => xs.length ≤ sizeLine ∧ ∀ p, H1 p = none → Q (.ref p) (upd H1 p (.tup xs))) : tTup tl σ H Q := k
theorem r_lst (k : tl σ H fun xs H1 => xs.length ≤ sizeLine ∧ ∀ p, H1 p = none → Q (.ref p) (upd H1 p (.lst xs))) : tLst tl σ H Q := k
theorem r_if (k : t σ H fun c H1 => if c = true then ta σ H1 Q else tb σ H1 Q) : tIf t ta tb σ H Q := k
theorem r_test (k : te σ H fun x H' => ∃ c, x = .bl c ∧ QB c H') : tTest te σ H QB := k
theorem r_B (k : te σ H fun x H' => ∃ c, x = .bl c ∧ QB c H') : tB te σ H QB := k
theorem r_bl {b : Bool} {R : Bool → Prop} (k : R b) : ∃ c, V.bl b = .bl c ∧ R c := ⟨b, rfl, k⟩
theorem r_tru {b : Bool} {R : Bool → Prop} (k : R b) : ∃ c, TruV K (.bl b) H c ∧ R c := ⟨b, rfl, k⟩
theorem r_trK (k : te σ H fun x H' => ∃ c, TruV K x H' c ∧ QB c H') : tTr K te σ H QB := k
theorem r_and (k : t σ H fun c H1 => if c = true then u σ H1 QB else QB false H1) : tAnd t u σ H QB := k
theorem r_or (k : t σ H fun c H1 => if c = true then QB true H1 else u σ H1 QB) : tOr t u σ H QB := k
theorem r_not (k : t σ H fun c H1 => QB (!c) H1) : tNot t σ H QB := k
theorem r_andV (k : ta σ H fun x H1 => ∃ c, x = .bl c ∧ if c = true then tb σ H1 Q else Q (.bl false) H1) : tAndV ta tb σ H Q := k
theorem r_orV (k : ta σ H fun x H1 => ∃ c, x = .bl c ∧ if c = true then Q (.bl true) H1 else tb σ H1 Q) : tOrV ta tb σ H Q := k
theorem r_notV (k : ta σ H fun x H1 => ∃ c, x = .bl c ∧ Q (.bl (!c)) H1) : tNotV ta σ H Q := k
theorem r_chain {r r' : R2} (k : ta σ H fun x H1 => tb σ H1 fun y H2 => r x y H2 fun z H3 => ∃ c, z = .bl c ∧ (if c = true then tc σ H3 fun w H4 => r' y w H4 Q else Q (.bl false) H3)) : tChain r r' ta tb tc σ H Q := k
theorem r_ite {c : Bool} {A B : Prop} (h1 : c = true → A) (h2 : c = false → B) : if c = true then A else B := by
  cases c with
  | true => exact h1 rfl
  | false => exact h2 rfl
theorem r_T {A B : Prop} (h : A) : if true = true then A else B := h
theorem r_F {A B : Prop} (h : B) : if false = true then A else B := h
theorem r_nT {A B : Prop} (h : A) : if (!false) = true then A else B := h
theorem r_nF {A B : Prop} (h : B) : if (!true) = true then A else B := h
theorem r_Td {c : Prop} [Decidable c] {A B : Prop} (hc : c) (h : A) : if decide c = true then A else B := by rw [decide_eq_true hc]; exact h
theorem r_Fd {c : Prop} [Decidable c] {A B : Prop} (hc : ¬ c) (h : B) : if decide c = true then A else B := by rw [decide_eq_false hc]; exact h
theorem r_id {c : Prop} [Decidable c] {A B : Prop} (h1 : c → A) (h2 : ¬ c → B) : if decide c = true then A else B := by
  by_cases h : c
  · exact r_Td h (h1 h)
  · exact r_Fd h (h2 h)
/-! ### operators by values -/
theorem r_I0 {g : Int → Int → V} {a b : Int} (k : Q (g a b) H) : rI0 g (.int a) (.int b) H Q := ⟨a, b, rfl, rfl, k⟩
theorem r_I {C : Int → Int → Prop} {g : Int → Int → V} {a b : Int} (c : C a b) (k : Q (g a b) H) : rI C g (.int a) (.int b) H Q := ⟨a, b, rfl, rfl, c, k⟩
theorem r_addI {a b : Int} (k : Q (.int (a + b)) H) : uAdd K (.int a) (.int b) H Q := .inl ⟨a, b, rfl, rfl, k⟩
theorem r_addS {a b : Str} (z : a.length + b.length ≤ sizeLine) (k : Q (.str (a ++ b)) H) : uAdd K (.str a) (.str b) H Q := .inr (.inl ⟨a, b, rfl, rfl, z, k⟩)
theorem r_addL {a b : Addr} {xs ys : List V} (ha : H a = some (.lst xs)) (hb : H b = some (.lst ys)) (z : xs.length + ys.length ≤ sizeLine) (k : ∀ p, H p = none → Q (.ref p) (upd H p (.lst (xs ++ ys)))) : uAdd K (.ref a) (.ref b) H Q :=
  .inr (.inr (.inl ⟨a, b, xs, ys, rfl, rfl, ha, hb, z, k⟩))
theorem r_addT {a b : Addr} {xs ys : List V} (ha : SqT K H a xs) (hb : SqT K H b ys) (ne : xs ≠ []) (z : xs.length + ys.length ≤ sizeLine) (k0 : ys = [] → Q (.ref a) H) (k : ys ≠ [] → ∀ p, H p = none → Q (.ref p) (upd H p (.tup (xs ++ ys)))) : uAdd K (.ref a) (.ref b) H Q :=
  .inr (.inr (.inr ⟨a, b, xs, ys, rfl, rfl, ha, hb, ne, z, k0, k⟩))
theorem r_sub {a b : Int} (k : Q (.int (a - b)) H) : uSub (.int a) (.int b) H Q := ⟨a, b, rfl, rfl, k⟩
theorem r_mul {a b : Int} (c : CMul a b) (k : Q (.int (a * b)) H) : uMul (.int a) (.int b) H Q := .inl ⟨a, b, rfl, rfl, c, k⟩
theorem r_mulW {a b : Int} (c : CMulW a b) (k : Q (.int (a * b)) H) : uMul (.int a) (.int b) H Q := .inr (.inl ⟨a, b, rfl, rfl, c, k⟩)
theorem r_rep {a : Addr} {n : Int} {xs : List V} (ha : H a = some (.lst xs)) (h0 : -(2 ^ 63) ≤ n) (h1 : n < 2 ^ 63) (z : xs.length * n.toNat ≤ sizeLine) (k : ∀ p, H p = none → Q (.ref p) (upd H p (.lst (List.replicate n.toNat xs).flatten))) : uMul (.ref a) (.int n) H Q :=
  .inr (.inr ⟨a, n, xs, rfl, rfl, ha, h0, h1, z, k⟩)
theorem cmulL {a b : Int} (h : -(2 ^ 64) < a ∧ a < 2 ^ 64) : CMul a b := .inl h
theorem cmulR {a b : Int} (h : -(2 ^ 64) < b ∧ b < 2 ^ 64) : CMul a b := .inr h
theorem r_div {a b : Int} (h0 : 0 < b) (h1 : b < 1073741824) (k : Q (.int (a / b)) H) : uDiv (.int a) (.int b) H Q := .inl ⟨a, b, rfl, rfl, ⟨h0, h1⟩, k⟩
theorem r_divW {a b : Int} (c : CDivW a b) (k : Q (.int (a / b)) H) : uDiv (.int a) (.int b) H Q := .inr ⟨a, b, rfl, rfl, c, k⟩
theorem r_mod {a b : Int} (h0 : 0 < b) (k : Q (.int (a % b)) H) : uMod (.int a) (.int b) H Q := ⟨a, b, rfl, rfl, h0, k⟩
theorem r_pow {a b : Int} (c : CPow a b) (k : Q (.int (a ^ b.toNat)) H) : uPow (.int a) (.int b) H Q := ⟨a, b, rfl, rfl, c, k⟩
theorem r_lt {a b : Int} (k : Q (.bl (decide (a < b))) H) : uLt (.int a) (.int b) H Q := ⟨a, b, rfl, rfl, k⟩
theorem r_le {a b : Int} (k : Q (.bl (decide (a ≤ b))) H) : uLe (.int a) (.int b) H Q := ⟨a, b, rfl, rfl, k⟩
theorem r_gt {a b : Int} (k : Q (.bl (decide (b < a))) H) : uGt (.int a) (.int b) H Q := ⟨a, b, rfl, rfl, k⟩
theorem r_ge {a b : Int} (k : Q (.bl (decide (b ≤ a))) H) : uGe (.int a) (.int b) H Q := ⟨a, b, rfl, rfl, k⟩
theorem r_eq (s : scal x y = true) (k : Q (.bl (decide (x = y))) H) : uEq K x y H Q := .inl ⟨s, k⟩
theorem r_eqD {d e : PyData} (hd : Dp K H x d) (he : Dp K H y e) (sd : SeqAt.shaped d = true) (se : SeqAt.shaped e = true) (k : Q (.bl (PyData.eqv d e)) H) : uEq K x y H Q := .inr ⟨d, e, hd, he, sd, se, k⟩
theorem r_ne (s : scal x y = true) (k : Q (.bl (!decide (x = y))) H) : uNe K x y H Q := .inl ⟨s, k⟩
theorem r_neD {d e : PyData} (hd : Dp K H x d) (he : Dp K H y e) (sd : SeqAt.shaped d = true) (se : SeqAt.shaped e = true) (k : Q (.bl (!PyData.eqv d e)) H) : uNe K x y H Q := .inr ⟨d, e, hd, he, sd, se, k⟩
theorem r_isN (k : Q (.bl (decide (x = .non))) H) : rIsN x .non H Q := ⟨rfl, k⟩
theorem r_notN (k : Q (.bl (!decide (x = .non))) H) : rNotN x .non H Q := ⟨rfl, k⟩
theorem r_inQ {p : Addr} {xs : List V} (h : SqL K H p xs ∨ SqT K H p xs) (fx : flatV x = true) (fs : xs.all flatV = true) (k : Q (.bl (inV x xs)) H) : uIn K x (.ref p) H Q := .inl ⟨p, xs, rfl, h, fx, fs, k⟩
theorem r_inS {c : Nat} {z : Str} (k : Q (.bl (decide (c ∈ z.cps.toList))) H) : uIn K (.str ⟨#[c]⟩) (.str z) H Q := .inr ⟨c, z, rfl, rfl, k⟩
theorem r_ninQ {p : Addr} {xs : List V} (h : SqL K H p xs ∨ SqT K H p xs) (fx : flatV x = true) (fs : xs.all flatV = true) (k : Q (.bl (!inV x xs)) H) : uNotIn K x (.ref p) H Q := .inl ⟨p, xs, rfl, h, fx, fs, k⟩
/-- xs[i] of a list that stands in H (ixL), of any list or tuple that may be read -/
theorem r_ixL {p : Addr} {n : Int} {xs : List V} (h : SqL K H p xs) (ha : atI xs n = some v) (k : Q v H) : rIx K (.ref p) (.int n) H Q := .inl ⟨p, xs, n, v, rfl, rfl, h, ha, k⟩
theorem r_ixT {p : Addr} {n : Int} {xs : List V} (h : SqT K H p xs) (ha : atI xs n = some v) (k : Q v H) : rIx K (.ref p) (.int n) H Q := .inr (.inl ⟨p, xs, n, v, rfl, rfl, h, ha, k⟩)
theorem r_ixS {z : Str} {n : Int} {c : Nat} (h : z.length ≤ sizeLine) (ha : atI z.cps.toList n = some c) (k : Q (.str ⟨#[c]⟩) H) : rIx K (.str z) (.int n) H Q := .inr (.inr ⟨z, n, c, rfl, rfl, h, ha, k⟩)
/-! ### built-ins by values -/
theorem r_lenL {p : Addr} {xs : List V} (h : SqL K H p xs) (k : Q (.int (xs.length : Nat)) H) : uLen K [.ref p] H Q := .inl ⟨_, _, rfl, .inl ⟨xs, h, rfl⟩, k⟩
theorem r_lenT {p : Addr} {xs : List V} (h : SqT K H p xs) (k : Q (.int (xs.length : Nat)) H) : uLen K [.ref p] H Q := .inl ⟨_, _, rfl, .inr ⟨xs, h, rfl⟩, k⟩
theorem r_lenS {z : Str} (h : z.length ≤ sizeLine) (k : Q (.int (z.length : Nat)) H) : uLen K [.str z] H Q := .inl ⟨_, _, rfl, ⟨h, rfl⟩, k⟩
theorem r_lenD {p : Addr} {kvs : List (Key × V)} (h : H p = some (.dK kvs)) (k : Q (.int (kvs.length : Nat)) H) : uLen K [.ref p] H Q := .inr ⟨p, kvs, rfl, h, k⟩
theorem r_abs {a : Int} (k : Q (.int (if a < 0 then -a else a)) H) : uAbs [.int a] H Q := ⟨a, rfl, k⟩
theorem r_min2 {a b : Int} (k : Q (.int (if b < a then b else a)) H) : uMin2 [.int a, .int b] H Q := ⟨a, b, rfl, k⟩
theorem r_max2 {a b : Int} (k : Q (.int (if b > a then b else a)) H) : uMax2 [.int a, .int b] H Q := ⟨a, b, rfl, k⟩
theorem r_intI {a : Int} (k : Q (.int a) H) : uInt [.int a] H Q := .inl (.inl ⟨a, rfl, k⟩)
theorem r_intB {b : Bool} (k : Q (.int (if b then 1 else 0)) H) : uInt [.bl b] H Q := .inl (.inr ⟨b, rfl, k⟩)
theorem r_list {p : Addr} {xs : List V} (h : SqL K H p xs ∨ SqT K H p xs) (k : ∀ l, H l = none → Q (.ref l) (upd H l (.lst xs))) : uList K [.ref p] H Q := ⟨p, xs, rfl, h, k⟩
theorem r_tupL {p : Addr} {xs : List V} (h : SqL K H p xs) (k : ∀ l, H l = none → Q (.ref l) (upd H l (.tup xs))) : uTuple K [.ref p] H Q := ⟨p, xs, rfl, .inl ⟨h, k⟩⟩
theorem r_tupT {p : Addr} {xs : List V} (h : SqT K H p xs) (k : Q (.ref p) H) : uTuple K [.ref p] H Q := ⟨p, xs, rfl, .inr ⟨h, k⟩⟩
theorem r_isi {c : V} {t u : Value} {b : Bool} (hc : ClsV c u) (ht : TyX K H x t) (hk : PySem.W.kitOne K t u = some b) (k : Q (.bl b) H) : rIsi K [x, c] H Q := ⟨x, c, t, u, b, rfl, hc, ht, hk, k⟩
theorem r_repr {d : PyData} (hd : Dp K H x d) (hs : d.showable = true) (hn : d.hasDict = false) (hz : d.depth ≤ 60) (hl : d.shown.length ≤ sizeLine) (k : Q (.str d.shown) H) : rRepr K [x] H Q := ⟨x, d, rfl, hd, hs, hn, hz, hl, k⟩
/-! ### statements -/
theorem r_seq (k : t1 { D with nx := t2 D } σ H) : tSeq t1 t2 D σ H := k
theorem r_next (k : D.nx σ H) : tNext D σ H := k
theorem r_asg {g : TG} (k : te σ H fun x H1 => g x σ H1 D.nx) : tAsg te g D σ H := k
theorem r_gName (k : QS (σ.set i (some v)) H) : gName i v σ H QS := k
theorem r_gSub {to ti : TE} {s : TSet} (k : to σ H fun o H1 => ti σ H1 fun i H2 => s o i v H2 fun H3 => QS σ H3) : gSub to ti s v σ H QS := k
theorem r_setL {p : Addr} {n : Int} {xs : List V} {m : Nat} {QH : Hp → Prop} (h : H p = some (.lst xs)) (hi : ixN xs.length n = some m) (k : QH (upd H p (.lst (xs.set m v)))) : rSetL (.ref p) (.int n) v H QH := ⟨p, xs, n, m, rfl, rfl, h, hi, k⟩
theorem r_ret (k : te σ H D.rt) : tRet te D σ H := k
theorem r_ifS (k : t σ H fun b H1 => if b = true then t1 D σ H1 else t2 D σ H1) : tIfS t t1 t2 D σ H := k
theorem r_drop (k : te σ H fun _ H1 => D.nx σ H1) : tDrop te D σ H := k
theorem r_for {wi : TI} {g : TG} (k : wi σ H fun J H1 => ∃ W : Nat → Nat → St → Hp → Prop, (∃ m, W 0 m σ H1) ∧ ∀ i m σ H, W i m σ H →
  (J.stop i H ∧ D.nx σ H) ∨ (J.go i H ∧ ∃ N : St → Hp → Prop, (∀ σ' H', N σ' H' → ∃ m', m' < m ∧ W (i + 1) m' σ' H') ∧ ∀ x H', J.yld i H x H' → g x σ H' fun σ2 H2 => ts { D with nx := N, ct := N, bk := D.nx } σ2 H2)) : tFor wi g ts D σ H := k
/-- for k in range(n) -/
theorem r_forR {tl : TA} {n : Int} {g : TG} (Pv : Nat → St → Hp → Prop) (h : tl σ H fun vs H1 => vs = [.int n] ∧ -(2 ^ 62) ≤ n ∧ n < 2 ^ 62 ∧ Pv 0 σ H1)
    (mono : ∀ {P P' : List V → Hp → Prop}, (∀ vs H, P vs H → P' vs H) → tl σ H P → tl σ H P')
    (hs : ∀ i σ H, i < n.toNat → Pv i σ H → g (.int (i : Nat)) σ H fun σ2 H2 => ts { D with nx := Pv (i + 1), ct := Pv (i + 1), bk := D.nx } σ2 H2)
    (hd : ∀ σ H, Pv n.toNat σ H → D.nx σ H) : tFor (iRng1 tl) g ts D σ H := by
  refine mono (fun vs H1 q => ?_) h
  obtain ⟨rfl, h1, h2, q⟩ := q
  refine ⟨n, rfl, h1, h2, for_range (lo := 0) (n := n.toNat) Pv q (fun i σ H hi p => ?_) hd⟩
  rw [Int.zero_add]
  exact hs i σ H hi p
end
end Hg
end L2
end

section
set_option Elab.async false
set_option linter.all false
set_option maxRecDepth 100000
set_option maxHeartbeats 4000000
/-! A def of the text as one hypothesis: where it stands (DefAt), what it keeps (DefOk, DefG); classes and errors likewise; boxes of draws. -/
namespace L2
namespace Hg
open PySem PySem.Spec PyProof.Rows

structure DefAt (K : PySem.W.Frag) (mg : Str → Option Value) (x : Str) (st : Stmt) : Prop where
  ex : ∃ f fd, mg x = some (.ref f) ∧ Fun K x x st f fd
def DefOk (P : Program) (w : World) (K : PySem.W.Frag) (mg : Str → Option Value) (base : Heap) (CX : CXT) (k : Nat) (x : Str) (ps : List Str) (sp : Sp) : Prop :=
  ∃ f fd, mg x = some (.ref f) ∧ PySem.W.keepIn K (.ref f) = true ∧ FnOk P w K mg base CX k f fd ps sp ∧ Binds K fd ps []
def DefG (P : Program) (w : World) (K : PySem.W.Frag) (mg : Str → Option Value) (base : Heap) (CX : CXT) (k : Nat) (x : Str) (ps : List Str) (sp : Sp) : Prop :=
  ∃ f fd, mg x = some (.ref f) ∧ PySem.W.keepIn K (.ref f) = true ∧ FnG P w K mg base CX k f fd ps sp ∧ Binds K fd ps []
abbrev BindsBy (st : Stmt) (x : Str) (ps : List Str) : Prop := ∀ (kV doc pm : Value) (an : Option Addr) (cdv ct : Value) (us : List Value), us.length = ps.length →
  bindArgs (PySem.W.fnOf x x (defArgs st) (defBody st) (defScope st) .none kV doc pm an cdv ct) ⟨us, []⟩ = pure (ps.zip us)
section
variable {P : Program} {w : World} {K : PySem.W.Frag} {mg : Str → Option Value} {base : Heap} {k : Nat} {x : Str} {st : Stmt} {N ps : List Str} {sp : Sp}
theorem DefAt.ok (F : DefAt K mg x st) (S : FnScope N ps (defScope st)) (hb : BindsBy st x ps) (len : ∀ vs H Q E, sp vs H Q E → vs.length = ps.length)
    (hbody : ∀ (f : Addr) (cdv : Value) (A : Around) (outer : List Env) (s : Shared) (H : Hp) (vs : List V) (Q : VK) (E : XK), Room k (A.deeper (envOfC x (defScope st) s.heap.objs.size f cdv)) → sp vs H Q E →
      ∃ t, PSs (cxOf CX0 P w K mg base N x (defScope st) f cdv A outer s H E).nox (defBody st) t ∧ t { nx := fun _ H' => Q .non H', rt := Q } (start N vs) H) : DefOk P w K mg base CX0 (k + 1) x ps sp := by
  obtain ⟨f, fd, hm, F⟩ := F.ex
  exact ⟨f, fd, hm, F.kp, F.ok S len fun cdv A outer s H vs Q E hr h => hbody f cdv A outer s H vs Q E hr h, F.binds hb⟩
theorem DefAt.okX (F : DefAt K mg x st) (S : FnScope N ps (defScope st)) (hb : BindsBy st x ps) (len : ∀ vs H Q E, sp vs H Q E → vs.length = ps.length)
    (hbody : ∀ (f : Addr) (cdv : Value) (A : Around) (outer : List Env) (s : Shared) (H : Hp) (vs : List V) (Q : VK) (E : XK), Room k (A.deeper (envOfC x (defScope st) s.heap.objs.size f cdv)) → sp vs H Q E →
      ∃ t, PSs (cxOf (L2.CX P w) P w K mg base N x (defScope st) f cdv A outer s H E) (defBody st) t ∧ t { nx := fun _ H' => Q .non H', rt := Q } (start N vs) H) : DefOk P w K mg base (L2.CX P w) (k + 1) x ps sp := by
  obtain ⟨f, fd, hm, F⟩ := F.ex
  exact ⟨f, fd, hm, F.kp, F.okX S len fun cdv A outer s H vs Q E hr h => hbody f cdv A outer s H vs Q E hr h, F.binds hb⟩
theorem DefAt.okG (F : DefAt K mg x st) (S : FnScope N ps (defScope st)) (hb : BindsBy st x ps) (len : ∀ vs H Q E, sp vs H Q E → vs.length = ps.length)
    (hbody : ∀ (f : Addr) (cdv : Value) (A : Around) (outer : List Env) (s : Shared) (H : Hp) (vs : List V) (Q : VK) (E : XK), A.guards = some [] → Room k (A.deeper (envOfC x (defScope st) s.heap.objs.size f cdv)) → sp vs H Q E →
      ∃ t, PSs (cxOf CX0 P w K mg base N x (defScope st) f cdv A outer s H E).nox (defBody st) t ∧ t { nx := fun _ H' => Q .non H', rt := Q } (start N vs) H) : DefG P w K mg base CX0 (k + 1) x ps sp := by
  obtain ⟨f, fd, hm, F⟩ := F.ex
  exact ⟨f, fd, hm, F.kp, Hg.okG F S len fun cdv A outer s H vs Q E hg hr h => hbody f cdv A outer s H vs Q E hg hr h, F.binds hb⟩
end
section
variable {X : Cx} {CX : CXT} {k : Nat} {ps : List Str} {sp : Sp} {E : XK} {x : Str} {p pos : Pos} {e : Expr} {es : List Expr} {t : TA}
theorem pe_callD (F : DefOk X.prog X.w X.K X.mg X.base CX k x ps sp) (hr : Room k X.A) (hx : Passes CX X E) (hg : Gl X x) (ha : PA X (e :: es) t) (hdb : (x == ("__debug__" : Str)) = false := by decide)
    (he : starEach (e :: es) X.env = (false, eval e X.env) :: starEach es X.env := by rfl) (hpl : (backTo pos (starEach es X.env)).any (·.1) = false := by rfl) : PE X (.Call (.Name x p) (e :: es) [] pos) (tCall sp [] E t) :=
  let ⟨_, _, hm, hk, G, hb⟩ := F
  pe_call G hr hg hm hk hb .nil hx ha hdb he hpl
theorem pe_callD0 (F : DefOk X.prog X.w X.K X.mg X.base CX k x ps sp) (hr : Room k X.A) (hx : Passes CX X E) (hg : Gl X x) (hdb : (x == ("__debug__" : Str)) = false := by decide) : PE X (.Call (.Name x p) [] [] pos) (tCall sp [] E tNil) :=
  let ⟨_, _, hm, hk, G, hb⟩ := F
  pe_call0 G hr hg hm hk hb .nil hx hdb
theorem pe_callDG (F : DefG X.prog X.w X.K X.mg X.base CX k x ps sp) (hgd : X.A.guards = some []) (hr : Room k X.A) (hx : Passes CX X E) (hg : Gl X x) (ha : PA X (e :: es) t) (hdb : (x == ("__debug__" : Str)) = false := by decide)
    (he : starEach (e :: es) X.env = (false, eval e X.env) :: starEach es X.env := by rfl) (hpl : (backTo pos (starEach es X.env)).any (·.1) = false := by rfl) : PE X (.Call (.Name x p) (e :: es) [] pos) (tCall sp [] E t) :=
  let ⟨_, _, hm, hk, G, hb⟩ := F
  pe_callG G hgd hr hg hm hk hb .nil hx ha hdb he hpl
theorem pe_callDG0 (F : DefG X.prog X.w X.K X.mg X.base CX k x ps sp) (hgd : X.A.guards = some []) (hr : Room k X.A) (hx : Passes CX X E) (hg : Gl X x) (hdb : (x == ("__debug__" : Str)) = false := by decide) : PE X (.Call (.Name x p) [] [] pos) (tCall sp [] E tNil) :=
  let ⟨_, _, hm, hk, G, hb⟩ := F
  pe_callG0 G hgd hr hg hm hk hb .nil hx hdb
end

/-! ### errors -/
/-- the error class x at C: its own `__init__` st, over the base G named g -/
structure ErrAt (K : PySem.W.Frag) (mg : Str → Option Value) (x q : Str) (st : Stmt) (C : Addr) : Prop where
  hm : mg x = some (.ref C)
  cl : OexC K C
  it : ∃ f fd, PySem.W.findIn K (.ref C) "__init__" = some (some (.ref f)) ∧ PySem.W.typeIn K (.ref f) = some (.type "function") ∧ Fun K "__init__" q st f fd
structure BaseAt (K : PySem.W.Frag) (mg : Str → Option Value) (g : Str) (G : Addr) : Prop where
  hm : mg g = some (.ref G)
  bi : BaseInit K G
/-- what making such an error keeps -/
def ErrOk (P : Program) (w : World) (K : PySem.W.Frag) (mg : Str → Option Value) (base : Heap) (k : Nat) (x : Str) (C : Addr) (ps : List Str) (sp : Sp) : Prop :=
  mg x = some (.ref C) ∧ OexC K C ∧ ∃ f fd, PySem.W.findIn K (.ref C) "__init__" = some (some (.ref f)) ∧ PySem.W.typeIn K (.ref f) = some (.type "function") ∧ FnOk P w K mg base CX0 k f fd ps sp ∧ Binds K fd ps []
abbrev BindsAs (st : Stmt) (x q : Str) (ps : List Str) : Prop := ∀ (kV doc pm : Value) (an : Option Addr) (cdv ct : Value) (us : List Value), us.length = ps.length →
  bindArgs (PySem.W.fnOf x q (defArgs st) (defBody st) (defScope st) .none kV doc pm an cdv ct) ⟨us, []⟩ = pure (ps.zip us)
section
variable {P : Program} {w : World} {K : PySem.W.Frag} {mg : Str → Option Value} {base : Heap} {k : Nat} {x q : Str} {st : Stmt} {C : Addr} {N ps : List Str} {sp : Sp}
theorem ErrAt.ok (F : ErrAt K mg x q st C) (S : FnScope N ps (defScope st)) (hb : BindsAs st "__init__" q ps) (len : ∀ vs H Q E, sp vs H Q E → vs.length = ps.length)
    (hbody : ∀ (f : Addr) (cdv : Value) (A : Around) (outer : List Env) (s : Shared) (H : Hp) (vs : List V) (Q : VK) (E : XK), Room k (A.deeper (envOfC q (defScope st) s.heap.objs.size f cdv)) → sp vs H Q E →
      ∃ t, PSs (cxOf CX0 P w K mg base N q (defScope st) f cdv A outer s H E).nox (defBody st) t ∧ t { nx := fun _ H' => Q .non H', rt := Q } (start N vs) H) : ErrOk P w K mg base (k + 1) x C ps sp := by
  obtain ⟨f, fd, hi, ht, F1⟩ := F.it
  exact ⟨F.hm, F.cl, f, fd, hi, ht, F1.ok S len fun cdv A outer s H vs Q E hr h => hbody f cdv A outer s H vs Q E hr h, F1.binds hb⟩
end
section
variable {X : Cx} {k : Nat} {ps : List Str} {sp : Sp} {x : Str} {p pos : Pos} {C : Addr} {e : Expr} {es : List Expr} {ta : TA}
theorem pmkN (F : ErrOk X.prog X.w X.K X.mg X.base k x C ps sp) (hr : Room (k + 1) X.A) (hg : Gl X x) (hdb : (x == ("__debug__" : Str)) = false := by decide) : PMk X (.Call (.Name x p) [] [] pos) (tMkN C sp) :=
  let ⟨hm, T, _, _, iC, tI, F1, hb⟩ := F
  pmk_oexN T iC tI F1 hr hb (fun _ _ _ _ _ _ _ c => c.elim) hg hm hdb
theorem pmkF (F : ErrOk X.prog X.w X.K X.mg X.base k x C ps sp) (hr : Room (k + 1) X.A) (hg : Gl X x) (ha : PA X (e :: es) ta) (hdb : (x == ("__debug__" : Str)) = false := by decide)
    (he : starEach (e :: es) X.env = (false, eval e X.env) :: starEach es X.env := by rfl) (hpl : (backTo pos (starEach es X.env)).any (·.1) = false := by rfl) : PMk X (.Call (.Name x p) (e :: es) [] pos) (tMkO C sp [] ta) :=
  let ⟨hm, T, _, _, iC, tI, F1, hb⟩ := F
  pmk_oex T iC tI F1 hr hb .nil (fun _ _ _ _ _ _ _ c => c.elim) hg hm ha hdb he hpl
end

/-! ### classes -/
/-- the class x at C -/
structure ClsAt (K : PySem.W.Frag) (mg : Str → Option Value) (x : Str) (C : Addr) : Prop where
  hm : mg x = some (.ref C)
  cl : Cls K C
  mks : PySem.W.makesIn K C = true
  kp : PySem.W.keepIn K (.ref C) = true
/-- making an instance of x -/
def MakeOk (P : Program) (w : World) (K : PySem.W.Frag) (mg : Str → Option Value) (base : Heap) (CX : CXT) (k : Nat) (x : Str) (C : Addr) (ps : List Str) (dvs : List V) (sp : Sp) : Prop :=
  mg x = some (.ref C) ∧ ∃ f fd ds, Mk K C f ∧ FnOk P w K mg base CX k f fd ps sp ∧ Binds K fd ps ds ∧ Vals dvs ds
section
variable {X : Cx} {CX : CXT} {k : Nat} {ps : List Str} {dvs : List V} {sp : Sp} {E : XK} {ES : St → XK} {x : Str} {p pos : Pos} {C : Addr} {e : Expr} {es : List Expr} {t : TA}
theorem pe_makeD (F : MakeOk X.prog X.w X.K X.mg X.base CX k x C ps dvs sp) (hr : Room (k + 1) X.A) (hx : Passes CX X E) (hg : Gl X x) (ha : PA X (e :: es) t) (hdb : (x == ("__debug__" : Str)) = false := by decide)
    (he : starEach (e :: es) X.env = (false, eval e X.env) :: starEach es X.env := by rfl) (hpl : (backTo pos (starEach es X.env)).any (·.1) = false := by rfl) : PE X (.Call (.Name x p) (e :: es) [] pos) (tMake C sp dvs E t) :=
  let ⟨hm, _, _, _, M, G, hb, hd⟩ := F
  pe_make M G hr hg hm hb hd hx ha hdb he hpl
theorem pe_makeD0 (F : MakeOk X.prog X.w X.K X.mg X.base CX k x C ps dvs sp) (hr : Room (k + 1) X.A) (hx : Passes CX X E) (hg : Gl X x) (hdb : (x == ("__debug__" : Str)) = false := by decide) : PE X (.Call (.Name x p) [] [] pos) (tMake C sp dvs E tNil) :=
  let ⟨hm, _, _, _, M, G, hb, hd⟩ := F
  pe_make0 M G hr hg hm hb hd hx hdb
theorem pe_makeDS (F : MakeOk X.prog X.w X.K X.mg X.base CX k x C ps dvs sp) (hr : Room (k + 1) X.A) (hx : ∀ σ, PassesAt CX X σ (ES σ)) (hg : Gl X x) (ha : PA X (e :: es) t) (hdb : (x == ("__debug__" : Str)) = false := by decide)
    (he : starEach (e :: es) X.env = (false, eval e X.env) :: starEach es X.env := by rfl) (hpl : (backTo pos (starEach es X.env)).any (·.1) = false := by rfl) : PE X (.Call (.Name x p) (e :: es) [] pos) (tMakeS C sp dvs ES t) :=
  let ⟨hm, _, _, _, M, G, hb, hd⟩ := F
  pe_makeS M G hr hg hm hb hd hx ha hdb he hpl
end

/-! ### boxes of draws -/
/-- at b a list of three ints -/
def BoxAt (H : Hp) (b : Addr) : Prop := ∃ x y z : Int, H b = some (.lst [.int x, .int y, .int z])
/-- what was tracked stays, but for b, which is a box -/
structure Bx (b : Addr) (H H' : Hp) : Prop where
  keep : ∀ x o, x ≠ b → H x = some o → H' x = some o
  box : BoxAt H' b
theorem Bx.refl {b : Addr} {H : Hp} (h : BoxAt H b) : Bx b H H := ⟨fun _ _ _ z => z, h⟩
theorem Bx.trans {b : Addr} {H H1 H2 : Hp} (h : Bx b H H1) (g : Bx b H1 H2) : Bx b H H2 := ⟨fun x o n z => g.keep x o n (h.keep x o n z), g.box⟩
theorem Bx.upd {b p : Addr} {H H1 : Hp} {o : HO} (h : Bx b H H1) (hp : H1 p = none) : Bx b H (upd H1 p o) := by
  refine ⟨fun x u n z => ?_, ?_⟩
  · have q := h.keep x u n z
    rw [upd_ne (ne_of_none q hp)]; exact q
  · obtain ⟨x, y, z, q⟩ := h.box
    exact ⟨x, y, z, by rw [upd_ne (ne_of_none q hp)]; exact q⟩
theorem Bx.updD {b p : Addr} {H H1 : Hp} {o : HO} (h : Bx b H H1) (hp : H p = none) (n : p ≠ b) : Bx b H (L2.upd H1 p o) := by
  refine ⟨fun x u ne z => at_upd (ne_of_none z hp) (h.keep x u ne z), ?_⟩
  obtain ⟨x, y, z, q⟩ := h.box
  exact ⟨x, y, z, at_upd (Ne.symm n) q⟩
theorem Bx.set {b : Addr} {H H1 : Hp} (h : Bx b H H1) (x y z : Int) : Bx b H (L2.upd H1 b (.lst [.int x, .int y, .int z])) := ⟨fun a o n q => (upd_ne n).trans (h.keep a o n q), x, y, z, upd_same⟩
theorem BoxAt.upd {b p : Addr} {H : Hp} {o : HO} (h : BoxAt H b) (hp : H p = none) : BoxAt (upd H p o) b := ((Bx.refl h).upd hp).box
theorem BoxAt.ne {b p : Addr} {H : Hp} {o : HO} (h : BoxAt H b) (hp : H p = some o) (d : ∀ x y z : Int, o ≠ .lst [.int x, .int y, .int z]) : p ≠ b := by
  intro e
  subst e
  obtain ⟨x, y, z, q⟩ := h
  rw [hp] at q
  exact d x y z (Option.some.inj q)
theorem BoxAt.some {b : Addr} {H : Hp} (h : BoxAt H b) : ∃ o, H b = some o := let ⟨_, _, _, q⟩ := h; ⟨_, q⟩
theorem Bx.seqL {K : PySem.W.Frag} {b l : Addr} {H H' : Hp} {xs : List V} (h : Bx b H H') (n : l ≠ b) (q : SqL K H l xs) : SqL K H' l xs := by
  rcases q with (q | ⟨o, q⟩) | q
  · exact .inl (.inl (h.keep _ _ n q))
  · exact .inl (.inr ⟨o, h.keep _ _ n q⟩)
  · exact .inr q
theorem Bx.seqT {K : PySem.W.Frag} {b l : Addr} {H H' : Hp} {xs : List V} (h : Bx b H H') (n : l ≠ b) (q : SqT K H l xs) : SqT K H' l xs := by
  rcases q with (q | ⟨o, q⟩) | q
  · exact .inl (.inl (h.keep _ _ n q))
  · exact .inl (.inr ⟨o, h.keep _ _ n q⟩)
  · exact .inr q
theorem Bx.free {b p : Addr} {H H' : Hp} (h : Bx b H H') (hp : H' p = none) : H p = none := by
  cases e : H p with
  | none => rfl
  | some o =>
    by_cases n : p = b
    · subst n
      obtain ⟨x, y, z, q⟩ := h.box
      rw [hp] at q; cases q
    · rw [h.keep p o n e] at hp; cases hp
theorem Bx.seqF {K : PySem.W.Frag} {b l : Addr} {H H' : Hp} {xs : List V} (h : Bx b H H') (n : H b = none) (q : SqL K H l xs) : SqL K H' l xs := by
  rcases q with (q | ⟨o, q⟩) | q
  · exact .inl (.inl (h.keep _ _ (ne_of_none q n) q))
  · exact .inl (.inr ⟨o, h.keep _ _ (ne_of_none q n) q⟩)
  · exact .inr q
/-- a draw -/
def spTake : Sp := fun vs H Q _ => ∃ (b : Addr) (m : Int), vs = [.ref b, .int m] ∧ BoxAt H b ∧ 1 ≤ m ∧ m < 100000000000000000000 ∧
  ∀ (d : Int) (H' : Hp), 0 ≤ d → d < m → Bx b H H' → Q (.int d) H'
/-- a pick -/
def spPick (K : PySem.W.Frag) : Sp := fun vs H Q _ => ∃ (b l : Addr) (xs : List V), vs = [.ref b, .ref l] ∧ BoxAt H b ∧ (SqL K H l xs ∨ SqT K H l xs) ∧ l ≠ b ∧ 1 ≤ xs.length ∧ xs.length < 1000000 ∧
  ∀ (v : V) (H' : Hp), v ∈ xs → Bx b H H' → Q v H'
/-- a new box -/
def spBox (K : PySem.W.Frag) : Sp := fun vs H Q _ => ∃ (a : Addr) (ns : List Int) (k c : Int), vs = [.ref a, .int k, .int c] ∧ SqL K H a (ns.map V.int) ∧ 0 ≤ k ∧ k < 1000000 ∧ 0 ≤ c ∧ c < 1000000 ∧ ns.length ≤ 1000 ∧
  ∀ (b : Addr) (H' : Hp), H b = none → Bx b H H' → Q (.ref b) H'
end Hg
end L2
end

section
set_option Elab.async false
set_option linter.all false
set_option maxRecDepth 100000
set_option maxHeartbeats 400000
/-! Any values: None, bools, ints, texts, lists, tuples; their kinds, their data; what stays. -/
namespace L2
namespace Hg
open PySem PySem.Spec PyProof.Rows

/-- any value of a kind that isinstance can tell -/
inductive Kd (K : PySem.W.Frag) (H : Hp) : V → Prop
  | non : Kd K H .non
  | bl (b : Bool) : Kd K H (.bl b)
  | int (i : Int) : Kd K H (.int i)
  | str (x : Str) : Kd K H (.str x)
  | lst {a : Addr} {xs : List V} : SqL K H a xs → Kd K H (.ref a)
  | tup {a : Addr} {xs : List V} : SqT K H a xs → Kd K H (.ref a)
def isI : V → Bool | .int _ => true | _ => false
def isIB : V → Bool | .int _ => true | .bl _ => true | _ => false
def isB : V → Bool | .bl _ => true | _ => false
def isS : V → Bool | .str _ => true | _ => false
theorem tyx_list {K : PySem.W.Frag} {H : Hp} {a : Addr} {xs : List V} (h : SqL K H a xs) : TyX K H (.ref a) (.type "list") := by
  rcases h with (h | ⟨o, h⟩) | ⟨o, its, n, h, c, _⟩
  · exact .base (.lst h)
  · exact .base (.frz h)
  · exact .kList h c
theorem tyx_tup {K : PySem.W.Frag} {H : Hp} {a : Addr} {xs : List V} (h : SqT K H a xs) : TyX K H (.ref a) (.type "tuple") := by
  rcases h with (h | ⟨o, h⟩) | ⟨o, its, n, h, c, _⟩
  · exact .base (.tup h)
  · exact .fTuple h
  · exact .kTuple h c
section
variable {K : PySem.W.Frag} {H H' : Hp} {v : V}
theorem Kd.isi_int (h : Kd K H v) : ∃ t, TyX K H v t ∧ PySem.W.kitOne K t (.type "int") = some (isIB v) := by
  cases h with
  | non => exact ⟨_, .base .non, kit_ty (a := "NoneType") (by decide +kernel)⟩
  | bl b => exact ⟨_, .base (.bl b), kit_ty (a := "bool") (b := "int") (r := true) (by decide +kernel)⟩
  | int i => exact ⟨_, .base (.int i), kit_ty (a := "int") (b := "int") (r := true) (by decide +kernel)⟩
  | str x => exact ⟨_, .base (.str x), kit_ty (a := "str") (b := "int") (r := false) (by decide +kernel)⟩
  | lst h => exact ⟨_, tyx_list h, kit_ty (a := "list") (b := "int") (r := false) (by decide +kernel)⟩
  | tup h => exact ⟨_, tyx_tup h, kit_ty (a := "tuple") (b := "int") (r := false) (by decide +kernel)⟩
theorem Kd.isi_bool (h : Kd K H v) : ∃ t, TyX K H v t ∧ PySem.W.kitOne K t (.type "bool") = some (isB v) := by
  cases h with
  | non => exact ⟨_, .base .non, kit_ty (a := "NoneType") (by decide +kernel)⟩
  | bl b => exact ⟨_, .base (.bl b), kit_ty (a := "bool") (b := "bool") (r := true) (by decide +kernel)⟩
  | int i => exact ⟨_, .base (.int i), kit_ty (a := "int") (b := "bool") (r := false) (by decide +kernel)⟩
  | str x => exact ⟨_, .base (.str x), kit_ty (a := "str") (b := "bool") (r := false) (by decide +kernel)⟩
  | lst h => exact ⟨_, tyx_list h, kit_ty (a := "list") (b := "bool") (r := false) (by decide +kernel)⟩
  | tup h => exact ⟨_, tyx_tup h, kit_ty (a := "tuple") (b := "bool") (r := false) (by decide +kernel)⟩
theorem Kd.isi_str (h : Kd K H v) : ∃ t, TyX K H v t ∧ PySem.W.kitOne K t (.type "str") = some (isS v) := by
  cases h with
  | non => exact ⟨_, .base .non, kit_ty (a := "NoneType") (by decide +kernel)⟩
  | bl b => exact ⟨_, .base (.bl b), kit_ty (a := "bool") (b := "str") (r := false) (by decide +kernel)⟩
  | int i => exact ⟨_, .base (.int i), kit_ty (a := "int") (b := "str") (r := false) (by decide +kernel)⟩
  | str x => exact ⟨_, .base (.str x), kit_ty (a := "str") (b := "str") (r := true) (by decide +kernel)⟩
  | lst h => exact ⟨_, tyx_list h, kit_ty (a := "list") (b := "str") (r := false) (by decide +kernel)⟩
  | tup h => exact ⟨_, tyx_tup h, kit_ty (a := "tuple") (b := "str") (r := false) (by decide +kernel)⟩
theorem sameT {a : Addr} {xs : List V} (e : Same H H') (h : SqT K H a xs) : SqT K H' a xs := by
  rcases h with (h | ⟨o, h⟩) | h
  · exact .inl (.inl (e _ _ h))
  · exact .inl (.inr ⟨o, e _ _ h⟩)
  · exact .inr h
theorem Kd.mono (e : Same H H') (h : Kd K H v) : Kd K H' v := by
  cases h with
  | non => exact .non
  | bl b => exact .bl b
  | int i => exact .int i
  | str x => exact .str x
  | lst h => exact .lst (e.seq h)
  | tup h => exact .tup (sameT e h)
mutual
theorem Dp.mono (e : Same H H') : ∀ (d : PyData) (v : V), Dp K H v d → Dp K H' v d
  | .none, _, h => by cases h; exact .non
  | .bool b, _, h => by cases h; exact .bl b
  | .int i, _, h => by cases h; exact .int i
  | .str x, _, h => by cases h; exact .str x
  | .list ds, _, h => by
    cases h with
    | lst hs ha => exact .lst (e.seq hs) (DpAll.mono e ds _ ha)
  | .tuple ds, _, h => by
    cases h with
    | tup hs ha => exact .tup (sameT e hs) (DpAll.mono e ds _ ha)
  | .dict _, _, h => by cases h
theorem DpAll.mono (e : Same H H') : ∀ (ds : List PyData) (vs : List V), DpAll K H vs ds → DpAll K H' vs ds
  | [], _, h => by cases h; exact .nil
  | d :: ds, _, h => by
    cases h with
    | cons h1 h2 => exact .cons (Dp.mono e d _ h1) (DpAll.mono e ds _ h2)
end
theorem Dp.kd {d : PyData} (h : Dp K H v d) : Kd K H v := by
  cases h with
  | non => exact .non
  | bl b => exact .bl b
  | int i => exact .int i
  | str x => exact .str x
  | lst h _ => exact .lst h
  | tup h _ => exact .tup h
end
/-! ### the promises of `signs` -/
def fromV (v : V) (a b : Int) : Bool := match v with | .int i => decide (a ≤ i) && decide (i ≤ b) | _ => false
def numV (v : V) : Bool := match v with | .int i => decide (0 ≤ i) | _ => false
def spIsInt (K : PySem.W.Frag) : Sp := fun vs H Q _ => ∃ v, vs = [v] ∧ Kd K H v ∧ Q (.bl (isI v)) H
def spFrom (K : PySem.W.Frag) : Sp := fun vs H Q _ => ∃ v a b, vs = [v, .int a, .int b] ∧ Kd K H v ∧ Q (.bl (fromV v a b)) H
def spIsNum (K : PySem.W.Frag) : Sp := fun vs H Q _ => ∃ v, vs = [v] ∧ Kd K H v ∧ Q (.bl (numV v)) H
theorem isI_of (v : V) : (isIB v && !isB v) = isI v := by cases v <;> rfl
theorem isI_int {v : V} (h : isI v = true) : ∃ i, v = .int i := by
  cases v <;> first | exact ⟨_, rfl⟩ | cases h
/-! ### what stays of a heap but for a box -/
theorem same_del (H : Hp) (b : Addr) : Same (del H b) H := fun a o h => by
  unfold del at h
  split at h
  · cases h
  · exact h
theorem Bx.same {b : Addr} {H H' : Hp} (h : Bx b H H') : Same (del H b) (del H' b) := fun a o q => by
  unfold del at q ⊢
  split at q
  · cases q
  · rename_i n
    rw [if_neg n]
    exact h.keep a o n q
theorem same_new {H : Hp} {p : Addr} {o : HO} (h : H p = none) : Same H (upd H p o) := fun a u q => at_upd (ne_of_none q h) q
theorem bx_of_same {b : Addr} {H H' : Hp} (hb : BoxAt H b) (h : Same H H') : Bx b H H' :=
  ⟨fun a o _ q => h a o q, let ⟨x, y, z, q⟩ := hb; ⟨x, y, z, h _ _ q⟩⟩
theorem del_at {H : Hp} {a b : Addr} {o : HO} (n : a ≠ b) (h : H a = some o) : del H b a = some o := (del_ne n).trans h
/-! ### data that may be shown -/
/-- v is data of depth at most k, whose text has at most n signs -/
structure Sh (K : PySem.W.Frag) (H : Hp) (v : V) (d : PyData) (k n : Nat) : Prop where
  dp : Dp K H v d
  sw : d.showable = true
  nd : d.hasDict = false
  cl : d.canLay0 = true
  dpt : d.depth ≤ k
  len : d.shown.length ≤ n
section
variable {K : PySem.W.Frag} {H H' : Hp} {v : V} {d : PyData} {k k' n n' : Nat}
theorem Sh.mono (e : Same H H') (h : Sh K H v d k n) : Sh K H' v d k n := ⟨Dp.mono e _ _ h.dp, h.sw, h.nd, h.cl, h.dpt, h.len⟩
theorem Sh.up (h : Sh K H v d k n) (hk : k ≤ k') (hn : n ≤ n') : Sh K H v d k' n' := ⟨h.dp, h.sw, h.nd, h.cl, Nat.le_trans h.dpt hk, Nat.le_trans h.len hn⟩
theorem Sh.shaped (h : Sh K H v d k n) (hk : k ≤ 64) : SeqAt.shaped d = true := by
  unfold SeqAt.shaped
  rw [h.cl, decide_eq_true (Nat.le_trans h.dpt hk)] <;> rfl
theorem Sh.repr {Q : VK} (h : Sh K H v d k n) (hk : k ≤ 60) (hn : n ≤ 100000) (q : Q (.str d.shown) H) : rRepr K [v] H Q :=
  r_repr h.dp h.sw h.nd (Nat.le_trans h.dpt hk) (sz (Nat.le_trans h.len hn)) q
theorem sh_non : Sh K H .non .none 0 10 := ⟨.non, rfl, rfl, rfl, Nat.le_refl _, by decide +kernel⟩
theorem sh_bl (b : Bool) : Sh K H (.bl b) (.bool b) 0 10 := ⟨.bl b, rfl, rfl, rfl, Nat.le_refl _, by cases b <;> decide +kernel⟩
theorem sh_int {i : Int} (h : i.natAbs < 10 ^ 38) : Sh K H (.int i) (.int i) 0 40 := by
  refine ⟨.int i, ?_, rfl, rfl, Nat.le_refl _, ?_⟩
  · show decide (i.natAbs.log2 < 1920) = true
    refine decide_eq_true ?_
    by_cases h0 : i.natAbs = 0
    · rw [h0]; decide
    · refine (Nat.log2_lt h0).mpr (Nat.lt_trans h (by decide +kernel))
  · show (Str.ofString (toString i)).length ≤ 40
    have e := int_text_length_le10 (k := 38) (by decide) h
    refine Nat.le_trans ?_ (Nat.le_trans e (by decide))
    exact Nat.le_of_eq (PySem.ofString_length _)
theorem sh_str {x : Str} (ok : PyData.canLay0 (.str x) = true) (h : (reprText x).length ≤ n) : Sh K H (.str x) (.str x) 0 n := ⟨.str x, rfl, rfl, ok, Nat.le_refl _, h⟩
theorem sh_all {vs : List V} {ds : List PyData} (h : Paired (fun v d => Sh K H v d k n) vs ds) : DpAll K H vs ds ∧ PyData.showableAll ds = true ∧ PyData.hasDictAll ds = false ∧ PyData.canLayAll0 ds = true ∧ PyData.depthAll ds ≤ k ∧
    ((PyData.shownAll ds).map (·.length)).sum ≤ vs.length * n ∧ ds.length = vs.length ∧ (PyData.shownAll ds).length = vs.length := by
  induction h with
  | nil => exact ⟨.nil, rfl, rfl, rfl, Nat.zero_le _, Nat.zero_le _, rfl, rfl⟩
  | cons h _ ih =>
    obtain ⟨i1, i2, i3, i4, i5, i6, i7, i8⟩ := ih
    refine ⟨.cons h.dp i1, ?_, ?_, ?_, ?_, ?_, ?_, ?_⟩
    · simp only [PyData.showableAll, h.sw, i2, Bool.and_self]
    · simp only [PyData.hasDictAll, h.nd, i3, Bool.or_self]
    · simp only [PyData.canLayAll0, h.cl, i4, Bool.and_self]
    · simp only [PyData.depthAll]; exact Nat.max_le.mpr ⟨h.dpt, i5⟩
    · simp only [PyData.shownAll, List.map_cons, List.sum_cons, List.length_cons]
      have := h.len
      rw [Nat.succ_mul]
      omega
    · simp only [List.length_cons, i7]
    · simp only [PyData.shownAll, List.length_cons, i8]
theorem sh_tup {a : Addr} {vs : List V} {ds : List PyData} {m : Nat} (h : SqT K H a vs) (hp : Paired (fun v d => Sh K H v d k n) vs ds) (hl : vs.length * n + 2 * vs.length + 3 ≤ m) : Sh K H (.ref a) (.tuple ds) (k + 1) m := by
  obtain ⟨i1, i2, i3, i4, i5, i6, i7, i8⟩ := sh_all hp
  refine ⟨.tup h i1, ?_, ?_, ?_, ?_, ?_⟩
  · simp only [PyData.showable, i2]
  · simp only [PyData.hasDict, i3]
  · simp only [PyData.canLay0, i4]
  · simp only [PyData.depth]; omega
  · simp only [PyData.shown]
    have q := tupleText_len_le (PyData.shownAll ds)
    rw [i8] at q
    omega
theorem sh_lst {a : Addr} {vs : List V} {ds : List PyData} {m : Nat} (h : SqL K H a vs) (hp : Paired (fun v d => Sh K H v d k n) vs ds) (hl : vs.length * n + 2 * vs.length + 3 ≤ m) : Sh K H (.ref a) (.list ds) (k + 1) m := by
  obtain ⟨i1, i2, i3, i4, i5, i6, i7, i8⟩ := sh_all hp
  refine ⟨.lst h i1, ?_, ?_, ?_, ?_, ?_⟩
  · simp only [PyData.showable, i2]
  · simp only [PyData.hasDict, i3]
  · simp only [PyData.canLay0, i4]
  · simp only [PyData.depth]; omega
  · simp only [PyData.shown]
    have q := listText_len_le (PyData.shownAll ds)
    rw [i8] at q
    omega
end
/-! ### isinstance of a caught error -/
def rIsG (K : PySem.W.Frag) (a : Addr) (cls : Value) (d : Option Addr) : List V → Hp → VK → Prop := fun xs H Q => ∃ D : Addr, cls = .ref D ∧ d = none ∧ ExcC K D ∧ rIsE K D a xs H Q
theorem c_isG {X : Cx} {a : Addr} {cls : Value} {d : Option Addr} {oe : Obj} {pn : List (Addr × Obj)} (K : PySem.W.Frag) (hz : Zc cls d oe) (hf : ∃ vs, oe.data = .fields vs) (hK : X.K = K := by rfl) :
    CallR (X.suite a ((a, oe) :: pn)) (.builtin "isinstance") (rIsG K a cls d) := by
  subst hK
  intro pins s σ H xs us Q I r h
  obtain ⟨D, rfl, rfl, C, h⟩ := h
  exact call_isE C hz hf pins s σ H xs us Q I r h
theorem r_isG {K : PySem.W.Frag} {a D G : Addr} {b : Bool} {H : Hp} {Q : VK} (C : ExcC K D) (e : PySem.W.kitOne K (.ref D) (.ref G) = some b) (k : Q (.bl b) H) : rIsG K a (.ref D) none [.ref a, .ref G] H Q :=
  ⟨D, rfl, rfl, C, .ref G, .ref G, b, rfl, fun u h => h, e, k⟩
/-! ### fields -/
section
variable {K : PySem.W.Frag} {H : Hp} {Q : VK} {σ : St} {D : Ends} {ta tv : TE} {f : Str} {a C dx : Addr} {fs : List (Str × V)} {v : V}
theorem r_sFld (k : tv σ H fun y H1 => ta σ H1 fun x H2 => ∃ a C dx fs, x = .ref a ∧ H2 a = some (.ins C dx fs) ∧ Cls K C ∧ NoAttr K C f ∧ fs.length < 1000 ∧ D.nx σ (upd H2 a (.ins C dx (putF f y fs)))) : sFld K ta tv f D σ H := k
theorem r_put {R : Hp → Prop} (h : H a = some (.ins C dx fs)) (c : Cls K C) (n : NoAttr K C f) (z : fs.length < 1000) (k : R (upd H a (.ins C dx (putF f v fs)))) :
    ∃ a' C' dx' fs', V.ref a = .ref a' ∧ H a' = some (.ins C' dx' fs') ∧ Cls K C' ∧ NoAttr K C' f ∧ fs'.length < 1000 ∧ R (upd H a' (.ins C' dx' (putF f v fs'))) := ⟨a, C, dx, fs, rfl, h, c, n, z, k⟩
theorem r_fld (k : ta σ H fun x H1 => ∃ a C dx fs v, x = .ref a ∧ H1 a = some (.ins C dx fs) ∧ Cls K C ∧ NoAttr K C f ∧ fs.lookup f = some v ∧ Q v H1) : tFld K ta f σ H Q := k
theorem r_get {R : V → Prop} (h : H a = some (.ins C dx fs)) (c : Cls K C) (n : NoAttr K C f) (l : fs.lookup f = some v) (k : R v) :
    ∃ a' C' dx' fs' v', V.ref a = .ref a' ∧ H a' = some (.ins C' dx' fs') ∧ Cls K C' ∧ NoAttr K C' f ∧ fs'.lookup f = some v' ∧ R v' := ⟨a, C, dx, fs, v, rfl, h, c, n, l, k⟩
end
theorem putF_len {f : Str} {v : V} (l : List (Str × V)) : (putF f v l).length ≤ l.length + 1 := length_putF f v l
/-! ### dicts -/
section
variable {σ : St} {H : Hp} {Q : VK} {D : Ends} {td ty tv : TE}
theorem r_disp {trs : List (TE × TE)} (k : ∀ p, H p = none → tPairs trs σ (upd H p (.dK [])) fun ps H2 => H2 p = some (.dK []) ∧ ∃ kvs : List (Key × V), ps = kvs.map (fun kv => (kV kv.1, kv.2)) ∧ kvs.length ≤ 15 ∧ Q (.ref p) (upd H2 p (.dK (mergeK [] kvs)))) : tDisp trs σ H Q := k
theorem r_pairs {QP : List (V × V) → Hp → Prop} {r : List (TE × TE)} (k : td σ H fun x H1 => tv σ H1 fun y H2 => tPairs r σ H2 fun ps H3 => QP ((x, y) :: ps) H3) : tPairs ((td, tv) :: r) σ H QP := k
theorem r_pairs0 {QP : List (V × V) → Hp → Prop} (k : QP [] H) : tPairs [] σ H QP := k
theorem r_dput (k : tv σ H fun v H1 => td σ H1 fun x H2 => ty σ H2 fun y H3 => ∃ a H4, x = .ref a ∧ DPut H3 a y v H4 ∧ D.nx σ H4) : sDPut td ty tv D σ H := k
theorem r_dget (k : td σ H fun x H1 => ty σ H1 fun y H2 => ∃ a v, x = .ref a ∧ DGet H2 a y (some v) ∧ Q v H2) : tDGet td ty σ H Q := k
theorem r_dg {p : Addr} {kvs : List (Key × V)} {k : Key} {v : V} {R : V → Prop} (h : H p = some (.dK kvs)) (e : valV kvs k = some v) (q : R v) : ∃ a w, V.ref p = .ref a ∧ DGet H a (kV k) (some w) ∧ R w :=
  ⟨p, v, rfl, by rw [← e]; exact DGet.k h, q⟩
theorem r_dp {p : Addr} {kvs : List (Key × V)} {k : Key} {v : V} {R : Hp → Prop} (h : H p = some (.dK kvs)) (z : kvs.length < sizeLine) (q : R (upd H p (.dK (putK kvs k v)))) : ∃ a H4, V.ref p = .ref a ∧ DPut H a (kV k) v H4 ∧ R H4 :=
  ⟨p, _, rfl, DPut.k h z, q⟩
end
/-! ### loops and comprehensions -/
section
variable {σ : St} {H : Hp} {Q : VK} {D : Ends} {K : PySem.W.Frag}
theorem r_rng1 {ta : TA} {R : It → Hp → Prop} (k : ta σ H fun vs H1 => ∃ j : Int, vs = [.int j] ∧ -(2 ^ 62) ≤ j ∧ j < 2 ^ 62 ∧ R (Itr 0 j.toNat) H1) : iRng1 ta σ H R := k
theorem r_rng2 {ta : TA} {R : It → Hp → Prop} (k : ta σ H fun vs H1 => ∃ i j : Int, vs = [.int i, .int j] ∧ (-(2 ^ 62) ≤ i ∧ i < 2 ^ 62 ∧ -(2 ^ 62) ≤ j ∧ j < 2 ^ 62) ∧ R (Itr i (j - i).toNat) H1) : iRng2 ta σ H R := k
theorem r_iL {tl : TE} {R : It → Hp → Prop} (k : tl σ H fun x H1 => ∃ a, x = .ref a ∧ (∃ xs, SqL K H1 a xs) ∧ R (Itl K a) H1) : iList K tl σ H R := k
theorem r_iT {tl : TE} {R : It → Hp → Prop} (k : tl σ H fun x H1 => ∃ a, x = .ref a ∧ (∃ xs, SqT K H1 a xs) ∧ R (Itt K a) H1) : iTup K tl σ H R := k
theorem r_lc {wi : TI} {g : TG} {tt : TT} {te : TE} {vs : List Nat} (k : wi σ H fun J H1 => ∀ D, H1 D = none → ∃ W : Nat → Nat → Hp → Prop, (∃ m, W 0 m (upd H1 D (.lst []))) ∧ ∀ i m H, W i m H →
  (J.stop i H ∧ Q (.ref D) H) ∨ (J.go i H ∧ ∃ Nx : Hp → Prop, (∀ H', Nx H' → ∃ m', m' < m ∧ W (i + 1) m' H') ∧ ∀ x H', J.yld i H x H' → g x (wipe σ vs) H' fun σ2 H2 => wipe σ2 vs = wipe σ vs ∧ tt σ2 H2 fun b H3 =>
    if b = true then te σ2 H3 fun y H4 => ∃ acc, H4 D = some (.lst acc) ∧ acc.length < sizeLine ∧ Nx (upd H4 D (.lst (acc ++ [y]))) else Nx H3)) : tLc wi g tt te vs σ H Q := k
theorem r_gT {n : Nat} {t : TGs} {QS : St → Hp → Prop} {p : Addr} {xs : List V} (h : SqT K H p xs) (e : xs.length = n) (k : t xs σ H QS) : gTup K n t (.ref p) σ H QS := ⟨p, xs, rfl, h, e, k⟩
theorem r_gL {n : Nat} {t : TGs} {QS : St → Hp → Prop} {p : Addr} {xs : List V} (h : SqL K H p xs) (e : xs.length = n) (k : t xs σ H QS) : gLst K n t (.ref p) σ H QS := ⟨p, xs, rfl, h, e, k⟩
theorem r_gCons {t : TG} {u : TGs} {QS : St → Hp → Prop} {v : V} {r : List V} (k : t v σ H fun σ' H' => u r σ' H' QS) : gCons t u (v :: r) σ H QS := ⟨v, r, rfl, k⟩
theorem r_gNil {QS : St → Hp → Prop} (k : QS σ H) : gNil [] σ H QS := ⟨rfl, k⟩
theorem r_yes {QB : Bool → Hp → Prop} (k : QB true H) : tYes σ H QB := k
theorem take_succ {α : Type} : ∀ {l : List α} {i : Nat} {x : α}, l[i]? = some x → l.take (i + 1) = l.take i ++ [x]
  | [], i, x, h => by simp at h
  | a :: l, 0, x, h => by
    simp at h
    subst h
    rfl
  | a :: l, i + 1, x, h => by
    have ih := take_succ (l := l) (i := i) (x := x) (by simpa using h)
    simp only [List.take_succ_cons, ih, List.cons_append]
end
/-! ### what calls raise -/
theorem r_veI {K : PySem.W.Frag} {ta : TA} {σ : St} {H : Hp} {Q : VK} (k : ta σ H fun vs H1 => ∃ (a C : Addr) (ws : List V), vs = .ref a :: ws ∧ ws.length ≤ 1000 ∧ OexC K C ∧ H1 a = some (exo a C none) ∧ Q .non H1) : tVeI K ta σ H Q := k
theorem r_makeS {C : Addr} {sp : Sp} {dvs : List V} {E : St → XK} {t : TA} {σ : St} {H : Hp} {Q : VK} (k : t σ H fun vs H1 => ∀ x dx, H1 x = none → H1 dx = none → dx ≠ x →
  sp (.ref x :: (vs ++ dvs)) (upd (upd H1 dx (.own x)) x (.ins C dx [])) (fun v H2 => v = .non ∧ Q (.ref x) H2) (E σ)) : tMakeS C sp dvs E t σ H Q := k
theorem r_make {C : Addr} {sp : Sp} {dvs : List V} {E : XK} {t : TA} {σ : St} {H : Hp} {Q : VK} (k : t σ H fun vs H1 => ∀ x dx, H1 x = none → H1 dx = none → dx ≠ x →
  sp (.ref x :: (vs ++ dvs)) (upd (upd H1 dx (.own x)) x (.ins C dx [])) (fun v H2 => v = .non ∧ Q (.ref x) H2) E) : tMake C sp dvs E t σ H Q := k
end Hg
end L2
end

section
set_option Elab.async false
set_option linter.all false
set_option maxRecDepth 100000
set_option maxHeartbeats 4000000
/-! Methods and properties of own classes as one hypothesis; tuple * int; what stays of a heap. -/
namespace L2
namespace Hg
open PySem PySem.Spec PyProof.Rows

/-! ### methods -/
structure MetAt (K : PySem.W.Frag) (C : Addr) (m q : Str) (st : Stmt) : Prop where
  cl : Cls K C
  ex : ∃ f fd, Meth K C m f ∧ Fun K m q st f fd
def MetOk (P : Program) (w : World) (K : PySem.W.Frag) (mg : Str → Option Value) (base : Heap) (CX : CXT) (k : Nat) (C : Addr) (m : Str) (ps : List Str) (sp : Sp) : Prop :=
  Cls K C ∧ ∃ f fd, Meth K C m f ∧ FnOk P w K mg base CX k f fd ps sp ∧ Binds K fd ps []
structure PrpAt (K : PySem.W.Frag) (C : Addr) (m q : Str) (st : Stmt) : Prop where
  cl : Cls K C
  ex : ∃ p g fd, PropOf K C m p g ∧ Fun K m q st g fd
def PrpOk (P : Program) (w : World) (K : PySem.W.Frag) (mg : Str → Option Value) (base : Heap) (CX : CXT) (k : Nat) (C : Addr) (m : Str) (sp : Sp) : Prop :=
  Cls K C ∧ ∃ p g fd, PropOf K C m p g ∧ FnOk P w K mg base CX k g fd ["self"] sp ∧ Binds K fd ["self"] []
section
variable {P : Program} {w : World} {K : PySem.W.Frag} {mg : Str → Option Value} {base : Heap} {k : Nat} {m q : Str} {st : Stmt} {C : Addr} {N ps : List Str} {sp : Sp}
theorem MetAt.ok (F : MetAt K C m q st) (S : FnScope N ps (defScope st)) (hb : BindsAs st m q ps) (len : ∀ vs H Q E, sp vs H Q E → vs.length = ps.length)
    (hbody : ∀ (f : Addr) (cdv : Value) (A : Around) (outer : List Env) (s : Shared) (H : Hp) (vs : List V) (Q : VK) (E : XK), Room k (A.deeper (envOfC q (defScope st) s.heap.objs.size f cdv)) → sp vs H Q E →
      ∃ t, PSs (cxOf CX0 P w K mg base N q (defScope st) f cdv A outer s H E).nox (defBody st) t ∧ t { nx := fun _ H' => Q .non H', rt := Q } (start N vs) H) : MetOk P w K mg base CX0 (k + 1) C m ps sp := by
  obtain ⟨f, fd, hm, F1⟩ := F.ex
  exact ⟨F.cl, f, fd, hm, F1.ok S len fun cdv A outer s H vs Q E hr h => hbody f cdv A outer s H vs Q E hr h, F1.binds hb⟩
theorem MetAt.okX (F : MetAt K C m q st) (S : FnScope N ps (defScope st)) (hb : BindsAs st m q ps) (len : ∀ vs H Q E, sp vs H Q E → vs.length = ps.length)
    (hbody : ∀ (f : Addr) (cdv : Value) (A : Around) (outer : List Env) (s : Shared) (H : Hp) (vs : List V) (Q : VK) (E : XK), Room k (A.deeper (envOfC q (defScope st) s.heap.objs.size f cdv)) → sp vs H Q E →
      ∃ t, PSs (cxOf (L2.CX P w) P w K mg base N q (defScope st) f cdv A outer s H E) (defBody st) t ∧ t { nx := fun _ H' => Q .non H', rt := Q } (start N vs) H) : MetOk P w K mg base (L2.CX P w) (k + 1) C m ps sp := by
  obtain ⟨f, fd, hm, F1⟩ := F.ex
  exact ⟨F.cl, f, fd, hm, F1.okX S len fun cdv A outer s H vs Q E hr h => hbody f cdv A outer s H vs Q E hr h, F1.binds hb⟩
theorem PrpAt.ok (F : PrpAt K C m q st) (S : FnScope N ["self"] (defScope st)) (hb : BindsAs st m q ["self"]) (len : ∀ vs H Q E, sp vs H Q E → vs.length = 1)
    (hbody : ∀ (f : Addr) (cdv : Value) (A : Around) (outer : List Env) (s : Shared) (H : Hp) (vs : List V) (Q : VK) (E : XK), Room k (A.deeper (envOfC q (defScope st) s.heap.objs.size f cdv)) → sp vs H Q E →
      ∃ t, PSs (cxOf CX0 P w K mg base N q (defScope st) f cdv A outer s H E).nox (defBody st) t ∧ t { nx := fun _ H' => Q .non H', rt := Q } (start N vs) H) : PrpOk P w K mg base CX0 (k + 1) C m sp := by
  obtain ⟨p, f, fd, hm, F1⟩ := F.ex
  exact ⟨F.cl, p, f, fd, hm, F1.ok S len fun cdv A outer s H vs Q E hr h => hbody f cdv A outer s H vs Q E hr h, F1.binds hb⟩
end
section
variable {X : Cx} {CX : CXT} {k : Nat} {C : Addr} {m : Str} {ps : List Str} {sp : Sp} {E : XK} {ES : St → XK} {o e : Expr} {es : List Expr} {ta : TE} {t : TA} {apos pos : Pos}
theorem pe_metD {pl : Sem Bool} (F : MetOk X.prog X.w X.K X.mg X.base CX k C m ps sp) (hr : Room k X.A) (hx : Passes CX X E) (he : PE X o ta) (ha : PA X (e :: es) t)
    (hst : starEach (e :: es) X.env = (false, eval e X.env) :: starEach es X.env := by rfl) (hpl : (backTo pos (starEach es X.env)).any (·.1) = false := by rfl)
    (ht : eval (.Call (.Attribute o m apos) (e :: es) [] pos) X.env = (do
      let ov ← eval o X.env
      standAt apos.atName
      let (f, first) ← holding [ov] (getMethod ov m pl)
      callWith pos f first (backTo pos (starEach (e :: es) X.env)) (backToKw pos (keywordEach [] X.env))) := by rfl) :
    PE X (.Call (.Attribute o m apos) (e :: es) [] pos) (tMeth C m sp [] E ta t) :=
  let ⟨c, _, _, hm, G, hb⟩ := F
  pe_meth he c hm G hr hb .nil hx ha hst hpl ht
theorem pe_metD0 {pl : Sem Bool} (F : MetOk X.prog X.w X.K X.mg X.base CX k C m ps sp) (hr : Room k X.A) (hx : Passes CX X E) (he : PE X o ta)
    (ht : eval (.Call (.Attribute o m apos) [] [] pos) X.env = (do
      let ov ← eval o X.env
      standAt apos.atName
      let (f, first) ← holding [ov] (getMethod ov m pl)
      callWith pos f first (backTo pos (starEach [] X.env)) (backToKw pos (keywordEach [] X.env))) := by rfl) :
    PE X (.Call (.Attribute o m apos) [] [] pos) (tMeth C m sp [] E ta tNil) :=
  let ⟨c, _, _, hm, G, hb⟩ := F
  pe_meth0 he c hm G hr hb .nil hx ht
/-- o.m(e, ..) where what is raised is wished at the slots -/
def tMetS (C : Addr) (m : Str) (sp : Sp) (E : St → XK) (ta : TE) (t : TA) : TE := fun σ H Q => ta σ H fun x H1 => ∃ a dx fs, x = .ref a ∧ H1 a = some (.ins C dx fs) ∧ fs.lookup m = none ∧
  t σ H1 fun vs H2 => sp (x :: vs) H2 Q (E σ)
theorem pe_metDS {pl : Sem Bool} (F : MetOk X.prog X.w X.K X.mg X.base CX k C m ps sp) (hr : Room k X.A) (hx : ∀ σ, PassesAt CX X σ (ES σ)) (he : PE X o ta) (ha : PA X (e :: es) t)
    (hst : starEach (e :: es) X.env = (false, eval e X.env) :: starEach es X.env := by rfl) (hpl : (backTo pos (starEach es X.env)).any (·.1) = false := by rfl)
    (ht : eval (.Call (.Attribute o m apos) (e :: es) [] pos) X.env = (do
      let ov ← eval o X.env
      standAt apos.atName
      let (f, first) ← holding [ov] (getMethod ov m pl)
      callWith pos f first (backTo pos (starEach (e :: es) X.env)) (backToKw pos (keywordEach [] X.env))) := by rfl) :
    PE X (.Call (.Attribute o m apos) (e :: es) [] pos) (tMetS C m sp ES ta t) := by
  obtain ⟨c, f, fd, hm, G, hb⟩ := F
  refine ⟨fun pins s σ H Q I h => ?_⟩
  refine PySem.W.methodCall_KW (pl := pl) (thn (he.run pins s σ H _ I h) fun u s1 ⟨x, H1, I1, rx, a, dx, fs, ex, ea, l, q⟩ => ?_) ht
  subst ex
  obtain rfl : u = Value.ref a := rx
  refine getmeth_ok I1 ea c hm l ?_
  refine PySem.W.callWith_K (first := [.ref a]) (h₀ := X.base) I.ok.mod.kin hm.kp (thn (ha.run pos pins s1 σ H1 _ I1 q) fun us s2 ⟨vs, H2, I2, r, q2⟩ => ⟨I2.kIn, ?_⟩) hst hpl
  exact run_fnS (us := .ref a :: us) (vs := .ref a :: vs) G hr hb (hx σ) I2 (.cons rfl r) q2
theorem pe_prpD (F : PrpOk X.prog X.w X.K X.mg X.base CX k C m sp) (hr : Room (k + 1) X.A) (hx : Passes CX X.nox E) (he : PE X e ta)
    (hab : attributeBase e m X.env (eval e X.env) = eval e X.env := by rfl) : PE X (.Attribute e m pos) (tProp C sp [] E ta) :=
  let ⟨c, _, _, _, hm, G, hb⟩ := F
  pe_prop he c hm G hr hb .nil hx hab
variable {σ : St} {H : Hp} {Q : VK} {dvs : List V}
theorem r_meth (k : ta σ H fun x H1 => ∃ a dx fs, x = .ref a ∧ H1 a = some (.ins C dx fs) ∧ fs.lookup m = none ∧ t σ H1 fun vs H2 => sp (x :: (vs ++ dvs)) H2 Q E) : tMeth C m sp dvs E ta t σ H Q := k
theorem r_metS (k : ta σ H fun x H1 => ∃ a dx fs, x = .ref a ∧ H1 a = some (.ins C dx fs) ∧ fs.lookup m = none ∧ t σ H1 fun vs H2 => sp (x :: vs) H2 Q (ES σ)) : tMetS C m sp ES ta t σ H Q := k
theorem r_prop (k : ta σ H fun x H1 => ∃ a dx fs, x = .ref a ∧ H1 a = some (.ins C dx fs) ∧ sp (.ref a :: dvs) H1 Q E) : tProp C sp dvs E ta σ H Q := k
theorem r_obj {R : Prop} {a dx : Addr} {fs : List (Str × V)} (h : H a = some (.ins C dx fs)) (l : fs.lookup m = none) (k : R) :
    ∃ a' dx' fs', V.ref a = .ref a' ∧ H a' = some (.ins C dx' fs') ∧ fs'.lookup m = none ∧ R := ⟨a, dx, fs, rfl, h, l, k⟩
theorem r_pobj {R : Addr → Prop} {a dx : Addr} {fs : List (Str × V)} (h : H a = some (.ins C dx fs)) (k : R a) :
    ∃ a' dx' fs', V.ref a = .ref a' ∧ H a' = some (.ins C dx' fs') ∧ R a' := ⟨a, dx, fs, rfl, h, k⟩
/-! ### stars, parallel stores -/
variable {K : PySem.W.Frag} {te : TE} {QL : List V → Hp → Prop} {D : Ends} {i j l : Nat}
theorem r_star (k : te σ H fun x H1 => ∃ p xs, x = V.ref p ∧ (SqT K H1 p xs ∨ SqL K H1 p xs) ∧ t σ H1 fun ys H2 => QL (xs ++ ys) H2) : StX.tStar K te t σ H QL := k
theorem r_st {R : List V → Prop} {p : Addr} {xs : List V} (h : SqT K H p xs ∨ SqL K H p xs) (k : R xs) : ∃ p' xs', V.ref p = V.ref p' ∧ (SqT K H p' xs' ∨ SqL K H p' xs') ∧ R xs' := ⟨p, xs, rfl, h, k⟩
theorem r_par (k : t σ H fun vs H1 => ∃ v w, vs = [v, w] ∧ D.nx ((σ.set i (some v)).set j (some w)) H1) : tPar i j t D σ H := k
theorem r_par3 (k : t σ H fun vs H1 => ∃ u v w, vs = [u, v, w] ∧ D.nx (((σ.set i (some u)).set j (some v)).set l (some w)) H1) : tPar3 i j l t D σ H := k
theorem r_v2 {v w : V} {R : V → V → Prop} (k : R v w) : ∃ v' w', [v, w] = [v', w'] ∧ R v' w' := ⟨v, w, rfl, k⟩
theorem r_v3 {u v w : V} {R : V → V → V → Prop} (k : R u v w) : ∃ u' v' w', [u, v, w] = [u', v', w'] ∧ R u' v' w' := ⟨u, v, w, rfl, k⟩
/-! ### slices -/
variable {r : V → Option Int → Option Int → Hp → VK → Prop} {tl th : TO} {QO : Option Int → Hp → Prop}
theorem r_sl (k : te σ H fun x H1 => tl σ H1 fun l H2 => th σ H2 fun u H3 => r x l u H3 Q) : tSl r te tl th σ H Q := k
theorem r_part (k : te σ H fun x H1 => ∃ i, x = .int i ∧ QO (some i) H1) : tPart te σ H QO := k
theorem r_noPart (k : QO none H) : tNoPart σ H QO := k
theorem r_i {n : Int} {R : Int → Prop} (k : R n) : ∃ i, V.int n = .int i ∧ R i := ⟨n, rfl, k⟩
theorem pa_starK (K : PySem.W.Frag) {X : Cx} {e : Expr} {es : List Expr} {te : TE} {t : TA} {p : Pos} (he : PE X e te) (hr : PA X es t) (hs : starEach (.Starred e p :: es) X.env = (true, eval e X.env) :: starEach es X.env := by rfl) (hK : X.K = K := by rfl) : PA X (.Starred e p :: es) (StX.tStar K te t) := hK ▸ StX.pa_star he hr hs
theorem slT (K : PySem.W.Frag) {X : Cx} (hK : X.K = K := by rfl) : SlR X (rSlT K) := hK ▸ sl_tup
end
/-! ### cuts -/
def tSeqC (t u : TS) : TS := fun D σ H => ∃ P : St → Hp → Prop, t { D with nx := P } σ H ∧ ∀ σ' H', P σ' H' → u D σ' H'
theorem pss_cut {X : Cx} {st : Stmt} {rest : List Stmt} {t u : TS} (h1 : PS X st t) (h2 : PSs X rest u) : PSs X (st :: rest) (tSeqC t u) := by
  refine ⟨fun pins s σ H D I h => ?_⟩
  obtain ⟨P, h, q0⟩ := h
  refine wpAny_execs_cons (thn (h1.run pins s σ H { D with nx := P } I h) fun f s1 q => ?_)
  cases f with
  | next =>
    obtain ⟨σ', H', I', q⟩ := q
    exact h2.run pins s1 σ' H' D I' (q0 _ _ q)
  | ret v => exact q
  | brk => exact q
  | cont => exact q
theorem r_cut {t u : TS} {D : Ends} {σ : St} {H : Hp} (P : St → Hp → Prop) (h : t { D with nx := P } σ H) (k : ∀ σ' H', P σ' H' → u D σ' H') : tSeqC t u D σ H := ⟨P, h, k⟩
def tCut (t : TE) : TE := fun σ H Q => ∃ P : VK, t σ H P ∧ ∀ v H', P v H' → Q v H'
theorem pe_cut {X : Cx} {e : Expr} {t : TE} (h : PE X e t) : PE X e (tCut t) := by
  refine ⟨fun pins s σ H Q I hq => ?_⟩
  obtain ⟨P, hq, q0⟩ := hq
  refine thn (h.run pins s σ H P I hq) fun u s1 ⟨v, H1, I1, r, q⟩ => ⟨v, H1, I1, r, q0 _ _ q⟩
theorem r_cutE {t : TE} {σ : St} {H : Hp} {Q : VK} (P : VK) (h : t σ H P) (k : ∀ v H', P v H' → Q v H') : tCut t σ H Q := ⟨P, h, k⟩
def tCutT (t : TT) : TT := fun σ H Q => ∃ P : Bool → Hp → Prop, t σ H P ∧ ∀ v H', P v H' → Q v H'
theorem pt_cut {X : Cx} {e : Expr} {t : TT} (h : PT X e t) : PT X e (tCutT t) := by
  refine ⟨fun pins s σ H Q I hq => ?_⟩
  obtain ⟨P, hq, q0⟩ := hq
  exact thn (h.run pins s σ H P I hq) fun u s1 ⟨H1, I1, q⟩ => ⟨H1, I1, q0 _ _ q⟩
theorem r_cutT {t : TT} {σ : St} {H : Hp} {Q : Bool → Hp → Prop} (P : Bool → Hp → Prop) (h : t σ H P) (k : ∀ v H', P v H' → Q v H') : tCutT t σ H Q := ⟨P, h, k⟩
/-! ### tuple * int -/
theorem tuple_mul1 (l : Addr) (items : Array Value) (n : Nat) (dd : Option Addr) (sl : Array (Option Value)) (u : Tok) :
    Meets (Builtin.«tuple.__mul__» ⟨[.ref l, .int 1 u], []⟩) (fun _ R s => s.heap.get? l = some { cls := .type "tuple", dict := dd, data := .seq items n, slots := sl } ∧ R (.ok (.ret (Value.ref l))) s) :=
  .of_wp fun prog w A R s h => by
    obtain ⟨hp, g, d, tk, os⟩ := s
    obtain ⟨hl, h⟩ := h
    have f1 := AutoSeq1.idx_int
    have c1 : (items.isEmpty || (1 : Int) == 1) = true := by rw [Bool.or_eq_true]; exact .inr rfl
    have c0 : (decide ((1 : Int) < -(2 ^ 63)) || decide ((1 : Int) ≥ 2 ^ 63)) = false := by decide
    wp_walk using wpAny_loadPart' hl
    repeat (first
      | (refine wpAny_ite_false (decide_eq_false (by rw [c0]; exact Bool.false_ne_true)) ?_; wp_walk using wpAny_loadPart' hl)
      | (refine wpAny_ite_true (decide_eq_true c1) ?_; wp_walk using wpAny_loadPart' hl))
    exact ⟨_, rfl, h⟩
def rRep1 (K : PySem.W.Frag) : R2 := fun x y H Q => ∃ l xs, x = .ref l ∧ y = .int 1 ∧ SqT K H l xs ∧ Q (.ref l) H
theorem op_rep1 {X : Cx} : OpR X (binaryOp .Mult) (rRep1 X.K) := by
  intro pins s σ H x y v u Q I rx ry h
  obtain ⟨l, xs, rfl, rfl, hT, q⟩ := h
  cases rx
  obtain ⟨t, rfl⟩ := ry
  obtain ⟨its, r, ⟨⟨cls, dd, data, sl⟩, ho, hc, n, hd⟩, hs⟩ := I.tuple hT
  simp only at hc hd
  subst hc hd
  refine wpAny_binaryOp_repeat_ref (T := "tuple") (U := "int") (by decide) ⟨_, ho, rfl⟩ (fun s' => typeIs_int s' 1 t) noFill_tuple_mul F.fills_int_mul F.slot_int_rmul repeat_tuple F.slot_int_index.lookup
    (call_meets F.slot_int_rmul (typeIs_int s 1 t) F.entry_int_rmul (F.args_int_rmul_2 _ _) (int_rmul_tuple 1 t l its.toArray n dd sl)
      ⟨ho, rfl, ⟨_, ho, rfl⟩, call_meets F.slot_tuple_mul ⟨_, ho, rfl⟩ F.entry_tuple_mul (F.args_tuple_mul_2 _ _) (tuple_mul1 l its.toArray n dd sl t) ⟨ho, ?_⟩⟩)
  exact ⟨.ref l, H, I, rfl, q⟩
def uMulT (K : PySem.W.Frag) : R2 := fun x y H Q => rRep1 K x y H Q ∨ rRepT K x y H Q
theorem o_mulT (K : PySem.W.Frag) {X : Cx} (hK : X.K = K := by rfl) : OpR X (binaryOp .Mult) (uMulT K) := hK ▸ OpR.or op_rep1 op_repT
theorem flat_one {α : Type} (n : Nat) (x : α) : (List.replicate n [x]).flatten = List.replicate n x := by
  induction n with
  | zero => rfl
  | succ n ih => rw [List.replicate_succ, List.flatten_cons, ih]; rfl
theorem r_mulT1 {K : PySem.W.Frag} {H : Hp} {Q : VK} {l : Addr} {v : V} {k : Int} (h : H l = some (.tup [v])) (h1 : 1 ≤ k) (h2 : k ≤ 1000)
    (q : ∀ (p : Addr) (H' : Hp), Same H H' → H' p = some (.tup (List.replicate k.toNat v)) → Q (.ref p) H') : uMulT K (.ref l) (.int k) H Q := by
  by_cases e : k = 1
  · subst e
    exact .inl ⟨l, _, rfl, rfl, SqT.of h, q l H (fun _ _ z => z) h⟩
  · refine .inr ⟨l, k, _, rfl, rfl, SqT.of h, by simp, by omega, h2, by simp, fun p hp => q p _ (same_new hp) ?_⟩
    rw [upd_same, flat_one]
/-! ### what stays -/
/-- all tuples stay -/
def Tk (H H' : Hp) : Prop := ∀ q xs, H q = some (.tup xs) → H' q = some (.tup xs)
section
variable {H0 H H' H1 H2 : Hp} {p b a : Addr} {o : HO}
theorem Tk.refl : Tk H H := fun _ _ h => h
theorem Tk.trans (h : Tk H H1) (g : Tk H1 H2) : Tk H H2 := fun q xs e => g q xs (h q xs e)
theorem Same.refl : Same H H := fun _ _ h => h
theorem Same.at (s : Same H H1) (h : H p = some o) : H1 p = some o := s p o h
theorem Same.tk (h : Same H H') : Tk H H' := fun q xs e => h q _ e
theorem Bx.tk (h : Bx b H H') (hb : BoxAt H b) : Tk H H' := fun q xs e => h.keep q _ (hb.ne e fun _ _ _ z => nomatch z) e
theorem Tk.new (h : Tk H0 H) (hp : H p = none) : Tk H0 (upd H p o) := fun q xs e => at_upd (ne_of_none (h q xs e) hp) (h q xs e)
theorem Tk.newF (h : Tk H0 H) (hp : H0 p = none) : Tk H0 (upd H p o) := fun q xs e => at_upd (ne_of_none e hp) (h q xs e)
theorem Tk.setL {xs : List V} (h : Tk H0 H) (hp : H p = some (.lst xs)) : Tk H0 (upd H p o) := fun q ys e => by
  have g := h q ys e
  refine at_upd (fun z => ?_) g
  subst z
  rw [hp] at g
  exact nomatch Option.some.inj g
theorem Tk.setI {C dx : Addr} {fs : List (Str × V)} (h : Tk H0 H) (hp : H p = some (.ins C dx fs)) : Tk H0 (upd H p o) := fun q ys e => by
  have g := h q ys e
  refine at_upd (fun z => ?_) g
  subst z
  rw [hp] at g
  exact nomatch Option.some.inj g
theorem Same.updF (s : Same H0 H) (h : H0 p = none) : Same H0 (upd H p o) := fun q u e => at_upd (ne_of_none e h) (s q u e)
theorem Same.new (s : Same H0 H) (h : H p = none) : Same H0 (upd H p o) := fun q u e => at_upd (ne_of_none (s q u e) h) (s q u e)
theorem Same.bx (s : Same H0 H) (hx : Bx b H H') (h : H0 b = none) : Same H0 H' := fun q u e => hx.keep q u (ne_of_none e h) (s q u e)
theorem Same.free (s : Same H0 H) (h : H p = none) : H0 p = none := by
  cases e : H0 p with
  | none => rfl
  | some u => rw [s p u e] at h; cases h
theorem BoxAt.same (h : BoxAt H b) (s : Same H H') : BoxAt H' b := let ⟨x, y, z, q⟩ := h; ⟨x, y, z, s _ _ q⟩
theorem BoxAt.at (h : BoxAt H b) (n : b ≠ p) : BoxAt (L2.upd H p o) b := let ⟨x, y, z, q⟩ := h; ⟨x, y, z, at_upd n q⟩
/-- all stays but x -/
def Kx (x : Addr) (H H' : Hp) : Prop := ∀ q o, q ≠ x → H q = some o → H' q = some o
theorem Kx.at (k : Kx a H H') (n : p ≠ a) (h : H p = some o) : H' p = some o := k p o n h
theorem Kx.refl : Kx a H H := fun _ _ _ h => h
theorem Kx.trans (h : Kx a H H1) (g : Kx a H1 H2) : Kx a H H2 := fun q o n e => g q o n (h q o n e)
theorem Kx.set (h : Kx a H H1) : Kx a H (upd H1 a o) := fun q u n e => at_upd n (h q u n e)
theorem Kx.new (h : Kx a H H1) (hp : H p = none) : Kx a H (upd H1 p o) := fun q u n e => at_upd (ne_of_none e hp) (h q u n e)
theorem Kx.same (h : Kx a H H1) (s : Same H1 H2) : Kx a H H2 := fun q u n e => s q u (h q u n e)
theorem Same.kx (s : Same H0 H) (k : Kx a H H') (h : H0 a = none) : Same H0 H' := fun q u e => k q u (ne_of_none e h) (s q u e)
theorem Kx.tk {C dx : Addr} {fs : List (Str × V)} (k : Kx a H H') (hp : H a = some (.ins C dx fs)) : Tk H H' := fun q ys e => k q _ (fun z => by
  subst z
  rw [hp] at e
  exact nomatch Option.some.inj e) e
theorem BoxAt.fresh (h : BoxAt H b) (hp : H p = none) : b ≠ p := fun e => by
  obtain ⟨x, y, z, q⟩ := h
  rw [e, hp] at q
  exact nomatch q
/-- a pick of a list that was just written -/
theorem r_pickN {K : PySem.W.Frag} {Q : VK} {E : XK} {xs : List V} (h : BoxAt H b) (hp : H p = none) (h1 : 1 ≤ xs.length) (h2 : xs.length < 1000000) (k : ∀ (v : V) (H' : Hp), v ∈ xs → Bx b H H' → Q v H') :
    spPick K [.ref b, .ref p] (upd H p (.lst xs)) Q E :=
  ⟨b, p, xs, rfl, h.upd hp, .inl (SqL.of upd_same), Ne.symm (h.fresh hp), h1, h2, fun v H' hv hx => k v H' hv (((Bx.refl h).upd hp).trans hx)⟩
theorem r_pickT {K : PySem.W.Frag} {Q : VK} {E : XK} {xs : List V} (h : BoxAt H b) (hp : H p = none) (h1 : 1 ≤ xs.length) (h2 : xs.length < 1000000) (k : ∀ (v : V) (H' : Hp), v ∈ xs → Bx b H H' → Q v H') :
    spPick K [.ref b, .ref p] (upd H p (.tup xs)) Q E :=
  ⟨b, p, xs, rfl, h.upd hp, .inr (SqT.of upd_same), Ne.symm (h.fresh hp), h1, h2, fun v H' hv hx => k v H' hv (((Bx.refl h).upd hp).trans hx)⟩
theorem r_take {Q : VK} {E : XK} {m : Int} (h : BoxAt H b) (h1 : 1 ≤ m) (h2 : m < 100000000000000000000) (k : ∀ (d : Int) (H' : Hp), 0 ≤ d → d < m → Bx b H H' → Q (.int d) H') : spTake [.ref b, .int m] H Q E := ⟨b, m, rfl, h, h1, h2, k⟩
theorem ne_kind {u : HO} (h : H p = some o) (g : H a = some u) (n : o ≠ u) : p ≠ a := fun e => by
  subst e
  rw [h] at g
  exact n (Option.some.inj g)
theorem Same.seqL {K : PySem.W.Frag} {l : Addr} {xs : List V} (s : Same H H') (q : SqL K H l xs) : SqL K H' l xs := by
  rcases q with (q | ⟨u, q⟩) | q
  · exact .inl (.inl (s _ _ q))
  · exact .inl (.inr ⟨u, s _ _ q⟩)
  · exact .inr q
end
end Hg
end L2
end

section
set_option Elab.async false
set_option linter.all false
set_option maxRecDepth 100000
set_option maxHeartbeats 4000000
/-! The end of a law's row from a promise that is asked where no guard is set. -/
namespace L2
namespace Hg
open PySem PySem.Spec PyProof.Rows

theorem kit_sub {K : PySem.W.Frag} {C D : Addr} {b : Bool} (hd : PySem.W.hasDictIn K C = true) (ht : PySem.W.typeIn K (.ref C) = some (.type "type")) (h : PySem.W.subIn K (.ref D) (.ref C) = some b) (self : PySem.W.subIn K (.ref D) (.ref D) = some true) : PySem.W.kitOne K (.ref D) (.ref C) = some b := by
  obtain ⟨cd, hc, _⟩ := PySem.W.any_some hd
  have e2 : ((PySem.W.clsIn K C).isSome && PySem.W.typeIn K (.ref C) == some (.type "type")) = true := by rw [hc, ht] <;> rfl
  by_cases e : D = C
  · subst e
    rw [self] at h
    cases h
    show (if ((Value.ref D == Value.ref D) = true) then some true else _) = some true
    rw [if_pos (beq_self_eq_true _)]
  · show (if ((Value.ref D == Value.ref C) = true) then some true else (if ((PySem.W.clsIn K C).isSome && PySem.W.typeIn K (.ref C) == some (.type "type")) = true then PySem.W.subIn K (.ref D) (.ref C) else none)) = some b
    rw [if_neg (fun z => e (by have := beq_iff_eq.mp z; cases this; rfl)), if_pos e2]
    exact h

theorem law_callG {P : Program} {w : World} {K : PySem.W.Frag} {mg mb : Str → Option Value} {k : Nat} {fa a : Addr} {nm x : Str} {sp : Sp} {s₁ : Shared} {vs : List Value} {ns : List Int}
    (KX : K.In s₁.heap) (hns : s₁.heap.Ns mainGlobals mg) (hb : s₁.heap.Ns builtinsNs mb) (hbb : ∀ x : Str, x ≠ "__name__" → mb x = bootBuiltins x) (hlim : s₁.heap.NoLimit) (hg : s₁.gens = #[])
    (ha : s₁.heap.get? a = some { cls := .type "list", data := .seq vs.toArray }) (hi : IntsAre vs ns) (hl : ns.length ≤ sizeLine) (hr : Room k callerA)
    (hmg : mg nm = some (.ref fa)) (F : ∀ base : Heap, K.In base → base.Ns mainGlobals mg → DefG P w K mg base CX0 k nm [x] sp)
    (hsp : ∀ H : Hp, SqL K H a (ns.map V.int) → sp [.ref a] H (fun v _ => v = .bl true) fun _ _ _ => False) :
    codeAny (model P w) callerA (.call (.ref fa) ⟨[.ref a], []⟩) (fun r s' => r = .ok (.ret (.bool true)) ∧ OldK s₁.heap s'.heap ∧ s'.os = s₁.os ∧ AllBare s'.gens) s₁ := by
  have rv := vals_ints hi
  have lenV := hi.length
  have core : ∀ H : Hp, Only H → SqL K H a (ns.map V.int) → HOk P w H s₁.heap → (∀ b, H b ≠ none → b = a) → (H a ≠ none → K.lookup a = none) →
      codeAny (model P w) callerA (.call (.ref fa) ⟨[.ref a], []⟩) (fun r s' => r = .ok (.ret (.bool true)) ∧ OldK s₁.heap s'.heap ∧ s'.os = s₁.os ∧ AllBare s'.gens) s₁ := by
    intro H hO hS hok hA hK
    have only : ∀ {b : Addr}, H b ≠ none → b = a := fun {b} n => hA b n
    have hidK : ∀ {b : Addr} {o : Obj}, s₁.heap.get? b = some o → H b = none → (hidT s₁.heap H).get? b = some o := fun z n => hidT_get z n
    have noDict : ∀ {b : Addr} {o : Obj} {es : Array DictEntry} {ep : Nat}, s₁.heap.get? b = some o → o.data = .dict es ep → H b = none := by
      intro b o es ep z d
      cases q : H b with
      | none => rfl
      | some u =>
        obtain rfl : b = a := only (by rw [q]; simp)
        rw [ha] at z
        cases z
        cases (show Data.seq vs.toArray _ = Data.dict es ep from d)
    have nsK : ∀ {b : Addr} {m : Str → Option Value}, s₁.heap.Ns b m → (hidT s₁.heap H).Ns b m := by
      rintro b m ⟨o, es, ep, z, d, r⟩
      exact ⟨o, es, ep, hidK z (noDict z d), d, r⟩
    have hKb : K.In (hidT s₁.heap H) := by
      intro b o z
      refine hidK (KX b o z) ?_
      cases q : H b with
      | none => rfl
      | some u =>
        obtain rfl : b = a := only (by rw [q]; simp)
        rw [hK (by rw [q]; simp)] at z
        cases z
    have hM : Mod K mg (hidT s₁.heap H) := by
      obtain ⟨mc, h1, h2⟩ := hlim
      exact ⟨hKb, nsK hns, ⟨mb, nsK hb, hbb⟩, ⟨mc, nsK h1, h2⟩⟩
    have e0 : Env0 P w K mg (hidT s₁.heap H) callerA [] s₁ H := by
      refine ⟨rfl, hM, fun b o z => of_hidT z, Nat.le_of_eq (hidT_size _ _), trivial, fun b hb => ?_, hok, .of_eq hg⟩
      cases (show b ∈ ([] : List Addr) from hb)
    obtain ⟨f, fd, hm, _, FG, hbind⟩ := F _ hKb (nsK hns)
    rw [hmg] at hm
    cases hm
    have main := FG.run callerA [] s₁ H ⟨[.ref a], []⟩ [.ref a] [.ref a] _ _ rfl hr e0 (hbind s₁ [.ref a] KX rfl) (.cons rfl .nil) (hsp H hS)
    refine codeAny_mono main fun r s' h => ?_
    cases r with
    | error e => exact False.elim h
    | ok fl =>
      cases fl with
      | next => exact False.elim h
      | brk => exact False.elim h
      | cont => exact False.elim h
      | ret u =>
        obtain ⟨v, H', os, bare, un, hok', r', q⟩ := h
        obtain rfl : v = .bl true := q
        obtain rfl : u = Value.bool true := r'
        refine ⟨rfl, OldK.of_keep fun b o z => ?_, os, bare⟩
        cases q : H b with
        | none => exact un.keep b o z q (fun y => by cases (show b ∈ ([] : List Addr) from y)) (by simp)
        | some u =>
          rcases hO b with y | ⟨ob, xs, y⟩
          · rw [q] at y; cases y
          · obtain ⟨e1, _⟩ := hok b _ y
            obtain ⟨e2, _⟩ := hok' b _ (un.frzs b ob _ y)
            rw [z] at e1
            cases e1
            exact e2
  cases hk : K.lookup a with
  | some o =>
    have z := KX a o hk
    rw [ha] at z
    cases z
    refine core (fun _ => none) (fun _ => .inl rfl) (.inr ⟨_, vs.toArray, _, hk, rfl, rfl, rfl, ?_, by simpa using rv⟩) (fun b u y => ?_) (fun b y => absurd rfl y) fun y => absurd rfl y
    · rw [List.size_toArray, lenV]; exact hl
    · cases (show (none : Option HO) = some u from y)
  | none =>
    let ob : Obj := { cls := .type "list", data := .seq vs.toArray }
    refine core (fun b => if b = a then some (.frz ob (.lst (ns.map V.int))) else none) (fun b => ?_) (.inl (.inr ⟨ob, if_pos rfl⟩)) (fun b u y => ?_) (fun b y => ?_) fun _ => hk
    · by_cases e : b = a
      · exact .inr ⟨_, _, if_pos e⟩
      · exact .inl (if_neg e)
    · by_cases e : b = a
      · have y' := (if_pos e).symm.trans y
        cases y'
        subst e
        exact ⟨ha, by rw [List.length_map]; exact hl, vs, _, rv, ha⟩
      · have y' := (if_neg e).symm.trans y
        cases y'
    · by_cases e : b = a
      · exact e
      · exact absurd (if_neg e) y

theorem walk_ofG {l : PySem.W.OpenLaw} {n k : Nat} {q : Program} {loose : List Str} {XP : (Str → Option Value) → Heap → Prop} {YP : World → Heap → Prop} {d : DefRec} {K : Params → PySem.W.Frag} {sp : PySem.W.Frag → Sp} {x : Str}
    (hn : l.most = some n) (hn2 : n ≤ sizeLine) (hdf : d.params.defaults = []) (hr : Room k callerA)
    (hY : ∀ (w : World) (h : Heap), YP w h → (K w.params).In h)
    (F : ∀ (w : World) (mg : Str → Option Value) (h : Heap), (K w.params).In h → h.Ns mainGlobals mg →
      ∀ base : Heap, (K w.params).In base → base.Ns mainGlobals mg → DefG l.prog w (K w.params) mg base CX0 k d.name [x] (sp (K w.params)))
    (hsp : ∀ (K : PySem.W.Frag) (H : Hp) (a : Addr) (ns : List Int), ns.length ≤ n → SqL K H a (ns.map V.int) → sp K [.ref a] H (fun v _ => v = .bl true) fun _ _ _ => False) :
    PySem.W.WalkO q loose XP YP l.row.toRowW d [] (fun f vs => PySem.call f vs) := by
  refine Att.attach_call hn hdf fun w s₀ s₁ mg mb fa o pm cd doc a vs ns G Y ho hd hcd hmg hobj hints hlen hg => ?_
  exact law_callG (hY w _ Y) G.T.g G.T.b G.T.builtins G.T.nolimit hg hobj hints (Nat.le_trans hlen hn2) hr hmg (F w mg _ (hY w _ Y) G.T.g) fun H hS => hsp (K w.params) H a ns hlen hS
end Hg
end L2
end

section
set_option Elab.async false
set_option linter.all false
set_option maxRecDepth 100000
set_option maxHeartbeats 4000000
/-! Iterables that are a list or a tuple; attributes as targets; dicts: comprehensions, keys, members. -/
namespace L2
namespace Hg
open PySem PySem.Spec PyProof.Rows
def uAt (K : PySem.W.Frag) (x : V) (H1 : Hp) (R : It → Hp → Prop) : Prop := ∃ a, x = .ref a ∧ (((∃ xs, SqL K H1 a xs) ∧ R (Itl K a) H1) ∨ ((∃ xs, SqT K H1 a xs) ∧ R (Itt K a) H1))
/-- a list or a tuple -/
def uIter (K : PySem.W.Frag) (te : TE) : TI := fun σ H R => te σ H fun x H1 => uAt K x H1 R
section
variable {X : Cx} {tg l o : Expr} {tl ta : TE} {f : Str} {pos : Pos}
theorem pi_u (K : PySem.W.Frag) (hl : PE X l tl) (hK : X.K = K := by rfl) : PI X tg l (uIter K tl) := by
  subst hK
  refine ⟨fun pins s σ H R I h => ?_⟩
  refine thn (hl.run pins s σ H _ I h) fun v s1 ⟨x, H1, I1, r1, q1⟩ => ?_
  obtain ⟨a, e, q1⟩ := q1
  subst e
  cases r1
  rcases q1 with ⟨⟨xs, hq⟩, q⟩ | ⟨⟨xs, hq⟩, q⟩
  · obtain ⟨its, rv, p, hz⟩ := I1.list hq
    refine wpAny_pyIter_list p.isList ?_
    refine ⟨s1.heap.objs.size, [s1.heap.objs.size], _, _, H1, rfl, I1.kept (t' := s1.toks) fun b o e => Heap.get?_push_of_some _ e, turn_list a _, ⟨_, Heap.get?_push_size _ rfl, rfl, rfl⟩, fun b hb => ?_, q⟩
    have e : b = s1.heap.objs.size := by simpa using hb
    subst e
    exact I1.fpOk (Nat.le_refl _) (I1.hok.fresh (Nat.le_refl _))
  · obtain ⟨its, rv, p, hz⟩ := I1.tuple hq
    refine wpAny_pyIter_tuple (show s1.heap.IsTuple a its.toArray from p) ?_
    refine ⟨s1.heap.objs.size, [s1.heap.objs.size], _, _, H1, rfl, I1.kept (t' := s1.toks) fun b o e => Heap.get?_push_of_some _ e, turn_tuple a _, ⟨_, Heap.get?_push_size _ rfl, rfl, rfl⟩, fun b hb => ?_, q⟩
    have e : b = s1.heap.objs.size := by simpa using hb
    subst e
    exact I1.fpOk (Nat.le_refl _) (I1.hok.fresh (Nat.le_refl _))
theorem r_iU {K : PySem.W.Frag} {te : TE} {σ : St} {H : Hp} {R : It → Hp → Prop} (k : te σ H fun x H1 => uAt K x H1 R) : uIter K te σ H R := k
/-- the walk over a list or a tuple, told alike -/
theorem r_walk {K : PySem.W.Frag} {H : Hp} {R : It → Hp → Prop} {p : Addr} {xs : List V} (h : SqL K H p xs ∨ SqT K H p xs)
    (k : ∀ (J : It) (G : Hp → Prop), Walk J xs.length G (YAt xs) → G H → (∀ H' H'', Same H' H'' → G H' → G H'') → R J H) :
    uAt K (.ref p) H R := by
  refine ⟨p, rfl, ?_⟩
  rcases h with h | h
  · exact .inl ⟨⟨xs, h⟩, k _ _ walk_list h fun H' H'' s g => Same.seqL s g⟩
  · exact .inr ⟨⟨xs, h⟩, k _ _ walk_tup h fun H' H'' s g => sameT s g⟩
/-! ### o.f as a target -/
def gFld (K : PySem.W.Frag) (ta : TE) (f : Str) : TG := fun v σ H QS => ta σ H fun x H2 => ∃ a C dx fs, x = .ref a ∧ H2 a = some (.ins C dx fs) ∧ Cls K C ∧ NoAttr K C f ∧ fs.length < 1000 ∧ QS σ (upd H2 a (.ins C dx (putF f v fs)))
theorem pg_fld (K : PySem.W.Frag) (ho : PE X o ta) (hK : X.K = K := by rfl) : PG X (.Attribute o f pos) (gFld K ta f) := by
  subst hK
  refine ⟨fun pins s σ H v u Q I r h => ?_⟩
  rw [assign_Attribute]
  refine wpAny_bind (wpAny_holding (thn (ho.run pins s σ H _ I h) fun ov s1 ⟨x, H2, I2, rx, a, C, dx, fs, ex, ea, c, n, l, q2⟩ => ?_))
  subst ex
  obtain rfl : ov = Value.ref a := rx
  refine wpAny_bind (wpAny_standAt (wpAny_bind (wpAny_holding (setattr_ok I2 ea c n l r fun s3 I3 => ?_))))
  exact wpAny_release ⟨σ, _, I3, q2⟩
theorem r_gFld {K : PySem.W.Frag} {v : V} {σ : St} {H : Hp} {QS : St → Hp → Prop} (k : ta σ H fun x H2 => ∃ a C dx fs, x = .ref a ∧ H2 a = some (.ins C dx fs) ∧ Cls K C ∧ NoAttr K C f ∧ fs.length < 1000 ∧ QS σ (upd H2 a (.ins C dx (putF f v fs)))) : gFld K ta f v σ H QS := k
theorem r_putG {K : PySem.W.Frag} {C a dx : Addr} {H : Hp} {fs : List (Str × V)} {R : Addr → Addr → Addr → List (Str × V) → Prop} (h : H a = some (.ins C dx fs)) (c : Cls K C) (n : NoAttr K C f) (z : fs.length < 1000) (k : R a C dx fs) :
    ∃ a' C' dx' fs', V.ref a = .ref a' ∧ H a' = some (.ins C' dx' fs') ∧ Cls K C' ∧ NoAttr K C' f ∧ fs'.length < 1000 ∧ R a' C' dx' fs' := ⟨a, C, dx, fs, rfl, h, c, n, z, k⟩
end
/-! ### dicts -/
section
variable {σ : St} {H : Hp} {Q : VK} {QB : Bool → Hp → Prop} {td ty : TE}
theorem r_lockE {t : TE} {d : Addr} {kvs : List (Key × V)} (h : H d = some (.dK kvs)) (k : ∀ od, t σ (upd H d (.frz od (.dK kvs))) fun v H' => H' d = some (.frz od (.dK kvs)) ∧ Q v (upd H' d (.dK kvs))) : tLockE t σ H Q := ⟨d, _, h, trivial, k⟩
theorem r_keys {R : It → Hp → Prop} (k : td σ H fun x H1 => ∃ d o, x = .ref d ∧ ((∃ kvs, H1 d = some (.frz o (.dK kvs)) ∧ R (Itk d o kvs) H1) ∨ ∃ kvs, H1 d = some (.frz o (.dT kvs)) ∧ R (Itkt d o kvs) H1)) : iKeys td σ H R := k
theorem r_din (k : ty σ H fun y H1 => td σ H1 fun x H2 => ∃ a o, x = .ref a ∧ DGet H2 a y o ∧ Q (.bl o.isSome) H2) : tDIn ty td σ H Q := k
theorem r_dinG {p : Addr} {kvs : List (Key × V)} {k : Key} {R : Option V → Prop} (h : H p = some (.dK kvs)) (q : R (valV kvs k)) : ∃ a o, V.ref p = .ref a ∧ DGet H a (kV k) o ∧ R o := ⟨p, _, rfl, DGet.k h, q⟩
theorem r_dc {wi : TI} {g : TG} {tt : TT} {tk tv : TE} {vs : List Nat} (k : wi σ H fun J H1 => ∀ D, H1 D = none → ∃ W : Nat → Nat → Hp → Prop, (∃ m, W 0 m (upd H1 D (.dK []))) ∧ ∀ i m H, W i m H →
  (J.stop i H ∧ Q (.ref D) H) ∨ (J.go i H ∧ ∃ Nx : Hp → Prop, (∀ H', Nx H' → ∃ m', m' < m ∧ W (i + 1) m' H') ∧ ∀ x H', J.yld i H x H' → g x (wipe σ vs) H' fun σ2 H2 => wipe σ2 vs = wipe σ vs ∧ tt σ2 H2 fun b H3 =>
    if b = true then tk σ2 H3 fun y H4 => tv σ2 H4 fun z H5 => ∃ kvs k, y = kV k ∧ H5 D = some (.dK kvs) ∧ kvs.length < sizeLine ∧ Nx (upd H5 D (.dK (putK kvs k z))) else Nx H3)) : tDc wi g tt tk tv vs σ H Q := k
/-- a dict comprehension over any walk -/
theorem dc_it {J : It} {n : Nat} {G : Hp → Prop} {Y : Nat → Hp → V → Hp → Prop} (w : Walk J n G Y) {g : TG} {tt : TT} {tk tv : TE} {vs : List Nat} {H1 : Hp} {D : Addr} {Qd : Hp → Prop} (Pv : Nat → Hp → Prop) (h0 : Pv 0 (upd H1 D (.dK []))) (hG : ∀ i H, i ≤ n → Pv i H → G H)
    (hs : ∀ i x H H', i < n → Pv i H → Y i H x H' → g x (wipe σ vs) H' fun σ2 H2 => wipe σ2 vs = wipe σ vs ∧ tt σ2 H2 fun b H3 =>
      if b = true then tk σ2 H3 fun y H4 => tv σ2 H4 fun z H5 => ∃ kvs k, y = kV k ∧ H5 D = some (.dK kvs) ∧ kvs.length < sizeLine ∧ Pv (i + 1) (upd H5 D (.dK (putK kvs k z))) else Pv (i + 1) H3) (hd : ∀ H, Pv n H → Qd H) :
    ∃ W : Nat → Nat → Hp → Prop, (∃ m, W 0 m (upd H1 D (.dK []))) ∧ ∀ i m H, W i m H →
      (J.stop i H ∧ Qd H) ∨ (J.go i H ∧ ∃ Nx : Hp → Prop, (∀ H', Nx H' → ∃ m', m' < m ∧ W (i + 1) m' H') ∧ ∀ x H', J.yld i H x H' → g x (wipe σ vs) H' fun σ2 H2 => wipe σ2 vs = wipe σ vs ∧ tt σ2 H2 fun b H3 =>
        if b = true then tk σ2 H3 fun y H4 => tv σ2 H4 fun z H5 => ∃ kvs k, y = kV k ∧ H5 D = some (.dK kvs) ∧ kvs.length < sizeLine ∧ Nx (upd H5 D (.dK (putK kvs k z))) else Nx H3) := by
  refine ⟨fun i m H => m = n - i ∧ i ≤ n ∧ Pv i H, ⟨n, by simp, Nat.zero_le _, h0⟩, ?_⟩
  rintro i m H ⟨rfl, hi, p⟩
  have q := hG i H hi p
  by_cases hlt : i < n
  · refine .inr ⟨w.goes i H hlt q, Pv (i + 1), fun H' p' => ⟨n - (i + 1), by omega, rfl, hlt, p'⟩, fun x H' y => hs i x H H' hlt p (w.yields i H x H' hlt q y)⟩
  · have e : i = n := by omega
    subst e
    exact .inl ⟨w.stops H q, hd H p⟩
end
theorem r_xf {a C : Addr} {cls : Value} {d : Option Addr} {f : Str} {te : TE} {σ : St} {H : Hp} {Q : VK} (k : te σ H fun x H1 => x = .ref a ∧ cls = .ref C ∧ ∃ (dd : Addr) (fs : List (Str × V)) (v : V), d = some dd ∧ H1 dd = some (.xd fs) ∧ fs.lookup f = some v ∧ Q v H1) : tXf a cls d C f te σ H Q := k
theorem r_bm {K : PySem.W.Frag} {T : String} {r : V → List V → Hp → VK → Prop} {to : TE} {t : TA} {σ : St} {H : Hp} {Q : VK} (k : to σ H fun x H1 => tyV K T x H1 ∧ t σ H1 fun xs H2 => r x xs H2 Q) : tBM K T r to t σ H Q := k
theorem r_append {l : Addr} {xs : List V} {y : V} {H : Hp} {Q : VK} (h : H l = some (.lst xs)) (z : xs.length < sizeLine) (k : Q .non (upd H l (.lst (xs ++ [y])))) : rAppend (.ref l) [y] H Q := ⟨l, xs, y, rfl, rfl, h, z, k⟩
/-! ### a name that is a dict comprehension -/
section
variable {X : Cx}
theorem ps_setDc {i : Nat} {y : Str} {py : Pos} {kx vx tg iter : Expr} {ifs : List Expr} {scope : Scope} {own : List (Str × Nat)} {pos spos : Pos} {wi : TI} {g : TG} {tt : TT} {tk tv : TE} (hc : X.calm = true) (hN : X.N.Nodup) (hy : X.N[i]? = some y) (hyl : X.env.scope.names.lookup y = some .local)
    (hsw : swapsWith (.DictComp kx vx [⟨tg, iter, ifs, 0⟩] scope pos) (some (.Name y py)) spos.line X.env = pure true) (hi : PI X tg iter wi) (ok : BlkOk X.N X.env.scope scope own)
    (hg : ∀ (s : Shared) (H : Hp) (C : Addr) (cl : List (Str × Addr)) (fp : List Addr), PG (X.blk s H scope (compEnvC scope cl C X.env) fp) tg g) (ht : ∀ (s : Shared) (H : Hp) (C : Addr) (cl : List (Str × Addr)) (fp : List Addr), PTs (X.blk s H scope (compEnvC scope cl C X.env) fp) ifs tt)
    (hk : ∀ (s : Shared) (H : Hp) (C : Addr) (cl : List (Str × Addr)) (fp : List Addr), PE (X.blk s H scope (compEnvC scope cl C X.env) fp) kx tk)
    (he : ∀ (s : Shared) (H : Hp) (C : Addr) (cl : List (Str × Addr)) (fp : List Addr), PE (X.blk s H scope (compEnvC scope cl C X.env) fp) vx tv) (hs : ∀ x, foldedSetIterable iter X.env x = pure x := by intro _; rfl) :
    PS X (.Assign [.Name y py] (.DictComp kx vx [⟨tg, iter, ifs, 0⟩] scope pos) spos) (tAsg (tDc wi g tt tk tv (own.map (·.2))) (gName i)) := by
  refine ⟨fun pins s σ H D I h => ?_⟩
  rw [exec_Assign_Name_used _ _ _ _ hsw]
  refine wpAny_bind (wpAny_standAt (wpAny_bind ?_))
  show wpAny _ X.A (do let _ ← comprehension (.DictComp kx vx [⟨tg, iter, ifs, 0⟩] scope pos) scope X.env (firstIterPos [⟨tg, iter, ifs, 0⟩] pos) newDict false (eval iter X.env) (some (assign (.Name y py) X.env))) _ _ s
  have h : tDc wi g tt tk tv (own.map (·.2)) σ H (fun x H1 => gName i x σ H1 D.nx) := h
  refine wpAny_bind (thn (dc_core (Qf := fun _ s' => SP X pins D .next s') hc hN I hi ok hg ht hk he hs h fun L C s' m H' I' q hn f => ?_) fun _ s' hq => wpAny_pure (wpAny_pure hq))
  show wpAny _ _ (assign (.Name y py) X.env (.ref L)) _ _ _
  refine wpAny_assign_Name (store_ok2 (v := V.ref L) I' hN hy (.inl hyl) rfl (fun s2 I2 ⟨a, sb, ha⟩ => ?_) (.inr hyl))
  obtain ⟨f0, f1, f2, f3, f4, f5⟩ := f
  have haC : C ≠ a := by
    rcases ha with z | z
    · rw [z]; exact f1
    · exact fun e => f4 y a z e.symm
  refine ⟨m, hn.sameBut sb haC, fun h3 sb3 => ?_⟩
  exact ⟨_, H', I2.turned (t' := s2.toks) (fun b o hb e => (sb3.2 b hb).trans e) f0 f1 f3 f4 f5, q⟩
theorem sw_trueD {k v : Expr} {gs : List Comprehension} {scope : Scope} {pos py : Pos} {y : Str} {l : Nat} {env : Env} (hk : env.scope.kind = .function) (hy : env.scope.names.lookup y = some .local) (hl : (py.line == pos.line) = true)
    (ha : (scope.names.any fun (n, k) => n == y && (k == .local || k == .cell)) = false) : swapsWith (.DictComp k v gs scope pos) (some (.Name y py)) l env = pure true := by
  have ky : env.kindOf y = some .local := hy
  have hb : env.blockKind = .function := by unfold Env.blockKind; rw [hk]; rfl
  unfold swapsWith
  simp only [hb, ky, ha, Expr.pos, hl]
  rfl
end
end Hg
end L2
end

section
set_option Elab.async false
set_option linter.all false
set_option maxRecDepth 100000
set_option maxHeartbeats 4000000
/-! Operators of own classes: a op b, -a, x in a, a == b, a[i], a as a test. -/
namespace L2
namespace Hg
open PySem PySem.Spec PyProof.Rows
section
variable {X : Cx} {CX : CXT} {k : Nat} {C : Addr} {ps : List Str} {sp : Sp} {E : XK}
/-- the method runs at an instance and what stands behind it -/
theorem own_call {f : Addr} {fd : FuncData} {pins : List (Addr × Obj)} {σ : St} {H : Hp} {s : Shared} {Q : VK} {us : List Value} {vs : List V} (F : FnOk X.prog X.w X.K X.mg X.base CX k f fd ps sp) (hb : Binds X.K fd ps []) (hr : Room k X.A) (hx : Passes CX X E)
    (I : Inv X pins σ H s) (r : Vals vs us) (h : sp vs H Q E) : wpAny (model X.prog X.w) X.A (call (.ref f) us) (EP X pins σ Q) X.xe s := by
  have h' : sp (vs ++ []) H Q E := by rw [List.append_nil]; exact h
  exact run_fn F hr hb .nil hx I r h'
theorem relV_back {v : V} {u : Value} {s : Shared} {Q : Value → Shared → Prop} (r : RelV v u) (q : Q u s) : PySem.W.CmpBack Q u s := by
  cases v with
  | non => cases r; exact q
  | bl b => cases r; exact q
  | int i => obtain ⟨t, rfl⟩ := r; exact q
  | str x => obtain ⟨t, rfl⟩ := r; exact q
  | ref a => cases r; exact q
  | byt b => obtain ⟨t, rfl⟩ := r; exact q
  | flt b => obtain ⟨t, rfl⟩ := r; exact q
  | ty n => cases r; exact q
theorem ins_at {pins : List (Addr × Obj)} {σ : St} {H : Hp} {s : Shared} {a dx : Addr} {fs : List (Str × V)} (I : Inv X pins σ H s) (e : H a = some (.ins C dx fs)) : ∃ ox od, PySem.W.InstAt s.heap a ox C od := by
  obtain ⟨mA, O, _⟩ := ins_get I.hok e
  obtain ⟨od, J, _⟩ := O.look
  exact ⟨_, _, J⟩
/-- a op b, both of the class C -/
def rOwn (C : Addr) (sp : Sp) (E : XK) : R2 := fun x y H Q => ∃ (a dx : Addr) (fs : List (Str × V)) (b dy : Addr) (gs : List (Str × V)), x = .ref a ∧ y = .ref b ∧ H a = some (.ins C dx fs) ∧ H b = some (.ins C dy gs) ∧ sp [x, y] H Q E
theorem o_own {op : Operator} {m : Str} (M : MetOk X.prog X.w X.K X.mg X.base CX k C m ps sp) (sf : PySem.W.selfFirst X.K C = true) (hr : Room k X.A) (hx : Passes CX X E) (hm : PySem.dunder op.info.2 = m := by rfl) : OpR X (binaryOp op) (rOwn C sp E) := by
  subst hm
  obtain ⟨_, f, fd, hM, F, hb⟩ := M
  intro pins s σ H x y v u Q I rx ry h
  obtain ⟨a, dx, fs, b, dy, gs, rfl, rfl, ha, hb', q⟩ := h
  obtain rfl : v = Value.ref a := rx
  obtain rfl : u = Value.ref b := ry
  obtain ⟨m, Fr⟩ := I.fr
  obtain ⟨ox, od, J⟩ := ins_at I ha
  obtain ⟨oy, oe, J2⟩ := ins_at I hb'
  refine PySem.W.binop_K Fr I.ok.mod.kin J J2.type sf hM.at_ hM.fn (wpAny_mono (own_call (vs := [V.ref a, V.ref b]) F hb hr hx I (.cons rfl (.cons rfl .nil)) q) (fun w s' hq => ?_) fun _ _ z => z)
  obtain ⟨z, H1, I1, rz, q1⟩ := hq
  exact relV_back rz ⟨z, H1, I1, rz, q1⟩
/-- x in b, b of the class C -/
def rInOwn (C : Addr) (sp : Sp) (E : XK) : R2 := fun x y H Q => ∃ (b dy : Addr) (gs : List (Str × V)), y = .ref b ∧ H b = some (.ins C dy gs) ∧ sp [y, x] H (fun v H' => ∃ c, v = .bl c ∧ Q (.bl c) H') E
theorem truthy_bool {M : Model} {A : Around} {b : Bool} {Q : Bool → Shared → Prop} {E' : Value → Shared → Prop} {s : Shared} (h : Q b s) : wpAny M A (truthy (.bool b)) Q E' s := wpAny_pure h
theorem o_inOwn (M : MetOk X.prog X.w X.K X.mg X.base CX k C "__contains__" ps sp) (hr : Room k X.A) (hx : Passes CX X E) : OpR X (compareOp .In) (rInOwn C sp E) := by
  obtain ⟨_, f, fd, hM, F, hb⟩ := M
  intro pins s σ H x y v u Q I rx ry h
  obtain ⟨b, dy, gs, rfl, hb', q⟩ := h
  obtain rfl : u = Value.ref b := ry
  obtain ⟨m, Fr⟩ := I.fr
  obtain ⟨ox, od, J⟩ := ins_at I hb'
  refine PySem.W.in_K Fr I.ok.mod.kin J hM.at_ hM.fn (wpAny_mono (own_call (vs := [V.ref b, x]) F hb hr hx I (.cons rfl (.cons rx .nil)) q) (fun w s' hq => ?_) fun _ _ z => z)
  obtain ⟨z, H1, I1, rz, c, rfl, q1⟩ := hq
  obtain rfl : w = Value.bool c := rz
  exact truthy_bool ⟨.bl c, H1, I1, rfl, q1⟩
theorem o_notInOwn (M : MetOk X.prog X.w X.K X.mg X.base CX k C "__contains__" ps sp) (hr : Room k X.A) (hx : Passes CX X E) :
    OpR X (compareOp .NotIn) (fun x y H Q => ∃ (b dy : Addr) (gs : List (Str × V)), y = .ref b ∧ H b = some (.ins C dy gs) ∧ sp [y, x] H (fun v H' => ∃ c, v = .bl c ∧ Q (.bl (!c)) H') E) := by
  obtain ⟨_, f, fd, hM, F, hb⟩ := M
  intro pins s σ H x y v u Q I rx ry h
  obtain ⟨b, dy, gs, rfl, hb', q⟩ := h
  obtain rfl : u = Value.ref b := ry
  obtain ⟨m, Fr⟩ := I.fr
  obtain ⟨ox, od, J⟩ := ins_at I hb'
  refine PySem.W.notIn_K Fr I.ok.mod.kin J hM.at_ hM.fn (wpAny_mono (own_call (vs := [V.ref b, x]) F hb hr hx I (.cons rfl (.cons rx .nil)) q) (fun w s' hq => ?_) fun _ _ z => z)
  obtain ⟨z, H1, I1, rz, c, rfl, q1⟩ := hq
  obtain rfl : w = Value.bool c := rz
  exact truthy_bool ⟨.bl (!c), H1, I1, rfl, q1⟩
/-- a < b, a == b and so on, both of the class C -/
theorem o_cmpOwn {op : CmpOp} {m : Str} (M : MetOk X.prog X.w X.K X.mg X.base CX k C m ps sp) (hu : X.A.units < cLine) (hn : PySem.W.notFirst X.K C (.ref C) = true) (hr : Room k X.A) (hx : Passes CX X E) (hm : (cmpInfo op).2.1 = m := by rfl)
    (ho : ∀ a b, compareOp op a b = richCompare op a b := by intro _ _; rfl) : OpR X (compareOp op) (rOwn C sp E) := by
  subst hm
  obtain ⟨_, f, fd, hM, F, hb⟩ := M
  intro pins s σ H x y v u Q I rx ry h
  obtain ⟨a, dx, fs, b, dy, gs, rfl, rfl, ha, hb', q⟩ := h
  obtain rfl : v = Value.ref a := rx
  obtain rfl : u = Value.ref b := ry
  obtain ⟨m, Fr⟩ := I.fr
  obtain ⟨ox, od, J⟩ := ins_at I ha
  obtain ⟨oy, oe, J2⟩ := ins_at I hb'
  rw [ho]
  refine PySem.W.cmp_K hu Fr I.ok.mod.kin J J2.type hn hM.at_ hM.fn (wpAny_mono (own_call (vs := [V.ref a, V.ref b]) F hb hr hx I (.cons rfl (.cons rfl .nil)) q) (fun w s' hq => ?_) fun _ _ z => z)
  obtain ⟨z, H1, I1, rz, q1⟩ := hq
  exact relV_back rz ⟨z, H1, I1, rz, q1⟩
/-- -a, ~a -/
def rUnOwn (C : Addr) (sp : Sp) (E : XK) : V → Hp → VK → Prop := fun x H Q => ∃ (a dx : Addr) (fs : List (Str × V)), x = .ref a ∧ H a = some (.ins C dx fs) ∧ sp [x] H Q E
theorem un_invOwn (M : MetOk X.prog X.w X.K X.mg X.base CX k C "__invert__" ps sp) (hr : Room k X.A) (hx : Passes CX X E) : UnR X (unaryOp .Invert) (rUnOwn C sp E) := by
  obtain ⟨_, f, fd, hM, F, hb⟩ := M
  intro pins s σ H x v Q I rx h
  obtain ⟨a, dx, fs, rfl, ha, q⟩ := h
  obtain rfl : v = Value.ref a := rx
  obtain ⟨ox, od, J⟩ := ins_at I ha
  unfold unaryOp
  refine wpAny_holding ?_
  refine wpAny_bind (m := callSpecial? (.ref a) (Str.ofString "__invert__")) (PySem.W.special_fn I.kIn J hM.at_ (beq_iff_eq.mp hM.fn) ?_)
  exact wpAny_mono (own_call (vs := [V.ref a]) F hb hr hx I (.cons rfl .nil) q) (fun w s' hq => wpAny_pure hq) fun _ _ z => z
theorem un_negOwn (M : MetOk X.prog X.w X.K X.mg X.base CX k C "__neg__" ps sp) (hr : Room k X.A) (hx : Passes CX X E) : UnR X (unaryOp .USub) (rUnOwn C sp E) := by
  obtain ⟨_, f, fd, hM, F, hb⟩ := M
  intro pins s σ H x v Q I rx h
  obtain ⟨a, dx, fs, rfl, ha, q⟩ := h
  obtain rfl : v = Value.ref a := rx
  obtain ⟨ox, od, J⟩ := ins_at I ha
  unfold unaryOp
  refine wpAny_holding ?_
  refine wpAny_bind (m := callSpecial? (.ref a) (Str.ofString "__neg__")) (PySem.W.special_fn I.kIn J hM.at_ (beq_iff_eq.mp hM.fn) ?_)
  exact wpAny_mono (own_call (vs := [V.ref a]) F hb hr hx I (.cons rfl .nil) q) (fun w s' hq => wpAny_pure hq) fun _ _ z => z
/-- a as a test, by its `__bool__` -/
def rTruOwn (C : Addr) (sp : Sp) (E : XK) : V → Hp → (Bool → Hp → Prop) → Prop := fun x H Q => ∃ (a dx : Addr) (fs : List (Str × V)), x = .ref a ∧ H a = some (.ins C dx fs) ∧ sp [x] H (fun v H' => ∃ c, v = .bl c ∧ Q c H') E
theorem tru_own (M : MetOk X.prog X.w X.K X.mg X.base CX k C "__bool__" ps sp) (hr : Room k X.A) (hx : Passes CX X E) : TruR X (rTruOwn C sp E) := by
  obtain ⟨_, f, fd, hM, F, hb⟩ := M
  intro pins s σ H x v Q I rx h
  obtain ⟨a, dx, fs, rfl, ha, q⟩ := h
  obtain rfl : v = Value.ref a := rx
  obtain ⟨ox, od, J⟩ := ins_at I ha
  obtain ⟨m, Fr⟩ := I.fr
  refine PySem.W.truthy_K Fr I.ok.mod.kin J hM.at_ hM.fn (wpAny_mono (own_call (vs := [V.ref a]) F hb hr hx I (.cons rfl .nil) q) (fun w s' hq => ?_) fun _ _ z => z)
  obtain ⟨z, H1, I1, rz, c, rfl, q1⟩ := hq
  obtain rfl : w = Value.bool c := rz
  exact ⟨H1, I1, q1⟩
end
theorem ifBound_B {M : Model} {A : Around} {E : Value → Shared → Prop} {s : Shared} {K : PySem.W.Frag} {x C : Addr} {ox : Obj} {od : Option Obj} {name : Str} {id : String} {args : List Value} {Q : Option Value → Shared → Prop}
    (X : K.In s.heap) (J : PySem.W.InstAt s.heap x ox C od) (hs : PySem.W.findIn K (.ref C) name = some (some (.builtin id))) (hbd : bindSpecial (.builtin id) (.ref x) = pure (.builtin id, [.ref x]))
    (h : wpAny M A (call (.builtin id) (.ref x :: args)) (fun v => Q (some v)) E s) : wpAny M A (callSpecialIfBound? (.ref x) name args) Q E s := by
  simp only [callSpecialIfBound?, bindSpecialIfBound?, hbd]
  refine wpAny_holding ?_
  refine wpAny_bind (wpAny_bind (wpAny_bind (J.type.here ?_)))
  refine (PySem.W.looks_findIn X hs).here ?_
  refine wpAny_bind (wpAny_askSetting (wpAny_ite ?_))
  have last : wpAny M A (call (.builtin id) ([.ref x] ++ args) >>= fun v => pure (some v)) Q E s := wpAny_bind (wpAny_mono h (fun _ _ z => wpAny_pure z) fun _ _ z => z)
  split
  · exact wpAny_bind (wpAny_of_eq hbd (wpAny_pure (by exact last)))
  · exact wpAny_tryCatch (wpAny_bind (wpAny_of_eq hbd (wpAny_pure (by exact last))))
theorem ne_bind (self : Value) : bindSpecial (.builtin "object.__ne__") self = pure (.builtin "object.__ne__", [self]) := PySem.F.slot_object_ne.bind self
theorem ne_kind' : builtinKind "object.__ne__" = some .slot := by decide +kernel
theorem ne_split : splitId "object.__ne__" = some ("object", "__ne__") := by decide +kernel
theorem ne_plain : plainId "object.__ne__" = true := by decide +kernel
section
variable {X : Cx} {k : Nat} {C : Addr} {ps : List Str} {sp : Sp}
/-- a != b by object's own, which asks the class's == -/
theorem o_neOwn (M : MetOk X.prog X.w X.K X.mg X.base CX0 k C "__eq__" ps sp) (hne : PySem.W.findIn X.K (.ref C) "__ne__" = some (some (.builtin "object.__ne__"))) (hob : PySem.W.mroIn X.K C (.type "object") = some true)
    (hu : X.A.units + 64 < cLine) (hr : Room (k + 1) X.A) : OpR X (compareOp .NotEq) (fun x y H Q => ∃ (a dx : Addr) (fs : List (Str × V)) (b dy : Addr) (gs : List (Str × V)), x = .ref a ∧ y = .ref b ∧ H a = some (.ins C dx fs) ∧ H b = some (.ins C dy gs) ∧
      sp [x, y] H (fun v H' => ∃ c, v = .bl c ∧ Q (.bl (!c)) H') E0) := by
  obtain ⟨_, f, fd, hM, F, hb⟩ := M
  intro pins s σ H x y v u Q I rx ry h
  obtain ⟨a, dx, fs, b, dy, gs, rfl, rfl, ha, hb', q⟩ := h
  obtain rfl : v = Value.ref a := rx
  obtain rfl : u = Value.ref b := ry
  obtain ⟨ox, od, J⟩ := ins_at I ha
  obtain ⟨oy, oe, J2⟩ := ins_at I hb'
  show wpAny _ _ (richCompare .NotEq (.ref a) (.ref b)) _ _ _
  have run : wpAny (model X.prog X.w) X.A.in1 (call (.ref f) [.ref a, .ref b]) (EP X pins σ fun v H' => ∃ c, v = .bl c ∧ Q (.bl (!c)) H') (fun _ _ => False) s := by
    have h' : sp ([V.ref a, V.ref b] ++ []) H (fun v H' => ∃ c, v = .bl c ∧ Q (.bl (!c)) H') E0 := by rw [List.append_nil]; exact q
    have vals : Vals ([V.ref a, V.ref b] ++ []) ([Value.ref a, Value.ref b] ++ []) := .cons (show RelV (.ref a) (.ref a) from rfl) (.cons (show RelV (.ref b) (.ref b) from rfl) .nil)
    refine wpAny_call (codeAny_mono (F.run X.A.in1 X.stack s H ⟨[.ref a, .ref b], []⟩ ([Value.ref a, Value.ref b] ++ []) ([V.ref a, V.ref b] ++ []) _ E0 hr.in1 I.env0.in1 (hb s [.ref a, .ref b] I.kIn (F.len _ _ _ _ h')) vals h') fun r s' hq => ?_)
    cases r with
    | error e => exact False.elim hq
    | ok fl =>
      cases fl with
      | ret u => exact I.after hq
      | next => exact False.elim hq
      | brk => exact False.elim hq
      | cont => exact False.elim hq
  have inst : PySem.W.Looks (model X.prog X.w) s.heap (isInstance (.ref a) (.type "object")) true := J.type.andThen (PySem.W.looks_mroIn I.kIn hob)
  obtain ⟨m, Fr⟩ := I.fr
  have core : wpAny (model X.prog X.w) X.A (tryCompare (.ref a) "__ne__" (.ref b)) (fun r s' => ∃ v, r = some v ∧ EP X pins σ Q v s') X.xe s := by
    unfold tryCompare
    refine wpAny_bind (ifBound_B I.kIn J hne (ne_bind _) ?_)
    refine wpAny_call (codeAny_call_builtin ne_plain PySem.F.entry_object_ne ?_)
    refine PySem.W.check_slot ne_kind' ne_split inst (PySem.F.args_object_ne_2 _ _) ?_
    have hu1 : X.A.in1.units < cLine := by
      show X.A.units + 1 < cLine
      omega
    unfold Builtin.«object.__ne__»
    refine wpAny_bind (wpAny_pure ?_)
    refine wpAny_bind (wpAny_cRoomFor hu1 ?_)
    refine wpAny_bind (PySem.W.ifBound_K I.kIn J hM.at_ hM.fn (wpAny_mono run (fun w s' hq => ?_) fun _ _ z => False.elim z))
    obtain ⟨z, H1, I1, rz, c, rfl, q1⟩ := hq
    obtain rfl : w = Value.bool c := rz
    refine wpAny_bind (truthy_bool ?_)
    refine wpAny_pure ?_
    exact wpAny_pure ⟨_, rfl, .bl (!c), H1, I1, rfl, q1⟩
  have same : PySem.W.notFirst X.K C (.ref C) = true := by
    unfold PySem.W.notFirst
    rw [Bool.or_eq_true]
    exact .inl (beq_self_eq_true _)
  have hu0 : X.A.units < cLine := by omega
  unfold richCompare
  simp only [oneThing_ref]
  refine wpAny_holding (wpAny_bind (wpAny_cRoomFor hu0 ?_))
  refine wpAny_bind (J.type.here ?_)
  refine wpAny_bind (J2.type.here ?_)
  rw [if_neg (by simp)]
  refine wpAny_bind (wpAny_pure ?_)
  rw [if_neg Bool.false_ne_true]
  refine wpAny_bind (wpAny_mono core (fun r s' z => ?_) fun _ _ e => e)
  obtain ⟨v, rfl, hq⟩ := z
  exact wpAny_pure hq
end
theorem nf_self {K : PySem.W.Frag} {C : Addr} : PySem.W.notFirst K C (.ref C) = true := by
  unfold PySem.W.notFirst
  rw [Bool.or_eq_true]
  exact .inl (beq_self_eq_true _)
theorem hu0_of {A : Around} {k : Nat} (hr : Room k A) : A.units < cLine := Nat.lt_of_le_of_lt (Nat.le_add_right _ 64) hr.units
end Hg
end L2
end

section
set_option Elab.async false
set_option linter.all false
set_option maxRecDepth 100000
set_option maxHeartbeats 4000000
/-! a == b where b is of any kind; str(a) by an own `__str__`; a[i] by an own `__getitem__`; joined texts. -/
namespace L2
namespace Hg
open PySem PySem.Spec PyProof.Rows
theorem kit_tyOwn {K : PySem.W.Frag} {C : Addr} {T : String} {b : Bool} (hd : PySem.W.hasDictIn K C = true) (ht : PySem.W.typeIn K (.ref C) = some (.type "type")) (h : PySem.W.subIn K (.type T) (.ref C) = some b) : PySem.W.kitOne K (.type T) (.ref C) = some b := by
  obtain ⟨cd, hc, _⟩ := PySem.W.any_some hd
  have e2 : ((PySem.W.clsIn K C).isSome && PySem.W.typeIn K (.ref C) == some (.type "type")) = true := by rw [hc, ht] <;> rfl
  show (if ((Value.type T == Value.ref C) = true) then some true else (if ((PySem.W.clsIn K C).isSome && PySem.W.typeIn K (.ref C) == some (.type "type")) = true then PySem.W.subIn K (.type T) (.ref C) else none)) = some b
  rw [if_neg (fun z => by have := beq_iff_eq.mp z; cases this), if_pos e2]
  exact h
theorem kitAny2 {K : PySem.W.Frag} {t u1 u2 : Value} {a b : Bool} (h1 : PySem.W.kitOne K t u1 = some a) (h2 : PySem.W.kitOne K t u2 = some b) : PySem.W.kitAny K t [u1, u2] = some (a || b) := by
  unfold PySem.W.kitAny
  rw [h1]
  cases a with
  | true => rfl
  | false =>
    show (match PySem.W.kitOne K t u2 with | some true => some true | some false => PySem.W.kitAny K t [] | none => none) = _
    rw [h2]
    cases b <;> rfl
theorem nf_ty {K : PySem.W.Frag} {C : Addr} {T : String} (h : PySem.W.subIn K (.type T) (.ref C) = some false) : PySem.W.notFirst K C (.type T) = true := by
  unfold PySem.W.notFirst
  rw [Bool.or_eq_true]
  exact .inr (by rw [h]; rfl)
section
variable {X : Cx} {CX : CXT} {k : Nat} {C : Addr} {ps : List Str} {sp : Sp} {E : XK} {pins : List (Addr × Obj)} {σ : St} {H : Hp} {s : Shared}
theorem ty_at {x : V} {u t : Value} (I : Inv X pins σ H s) (rx : RelV x u) (ty : TyX X.K H x t) : PySem.W.Looks (model X.prog X.w) s.heap (typeOf u) t := by
  obtain ⟨P, kx, hp, _⟩ := kit_of I rx ty
  exact kx.ty _ _ I.kIn hp
/-- a < b, a == b, .., a of the class C, b of a kind that is no class below C -/
def rCmpA (K : PySem.W.Frag) (C : Addr) (sp : Sp) (E : XK) : R2 := fun x y H Q => ∃ (a dx : Addr) (fs : List (Str × V)) (t : Value), x = .ref a ∧ H a = some (.ins C dx fs) ∧ TyX K H y t ∧ PySem.W.notFirst K C t = true ∧ sp [x, y] H Q E
theorem o_cmpAny {op : CmpOp} {m : Str} (M : MetOk X.prog X.w X.K X.mg X.base CX k C m ps sp) (K : PySem.W.Frag) (hu : X.A.units < cLine) (hr : Room k X.A) (hx : Passes CX X E) (hm : (cmpInfo op).2.1 = m := by rfl)
    (ho : ∀ a b, compareOp op a b = richCompare op a b := by intro _ _; rfl) (hK : X.K = K := by rfl) : OpR X (compareOp op) (rCmpA K C sp E) := by
  subst hm hK
  obtain ⟨_, f, fd, hM, F, hb⟩ := M
  intro pins s σ H x y v u Q I rx ry h
  obtain ⟨a, dx, fs, t, rfl, ha, ty, hn, q⟩ := h
  obtain rfl : v = Value.ref a := rx
  obtain ⟨m, Fr⟩ := I.fr
  obtain ⟨ox, od, J⟩ := ins_at I ha
  rw [ho]
  refine PySem.W.cmp_K hu Fr I.ok.mod.kin J (ty_at I ry ty) hn hM.at_ hM.fn (wpAny_mono (own_call (vs := [V.ref a, y]) F hb hr hx I (.cons rfl (.cons ry .nil)) q) (fun w s' hq => ?_) fun _ _ z => z)
  obtain ⟨z, H1, I1, rz, q1⟩ := hq
  exact relV_back rz ⟨z, H1, I1, rz, q1⟩
theorem r_cmpA {K : PySem.W.Frag} {a dx : Addr} {fs : List (Str × V)} {t : Value} {y : V} {Q : VK} (ha : H a = some (.ins C dx fs)) (ty : TyX K H y t) (nf : PySem.W.notFirst K C t = true) (k : sp [.ref a, y] H Q E) : rCmpA K C sp E (.ref a) y H Q := ⟨a, dx, fs, t, rfl, ha, ty, nf, k⟩
theorem r_ownB {a dx b dy : Addr} {fs gs : List (Str × V)} {Q : VK} (ha : H a = some (.ins C dx fs)) (hb : H b = some (.ins C dy gs)) (k : sp [.ref a, .ref b] H Q E) : rOwn C sp E (.ref a) (.ref b) H Q := ⟨a, dx, fs, b, dy, gs, rfl, rfl, ha, hb, k⟩
theorem r_inOwn {x : V} {b dy : Addr} {gs : List (Str × V)} {Q : VK} (hb : H b = some (.ins C dy gs)) (k : sp [.ref b, x] H (fun v H' => ∃ c, v = .bl c ∧ Q (.bl c) H') E) : rInOwn C sp E x (.ref b) H Q := ⟨b, dy, gs, rfl, hb, k⟩
/-- str(a) by the class's own `__str__` -/
def rStrOwn (C : Addr) (sp : Sp) : List V → Hp → VK → Prop := fun xs H Q => ∃ (a dx : Addr) (fs : List (Str × V)), xs = [.ref a] ∧ H a = some (.ins C dx fs) ∧ sp [.ref a] H (fun v H' => ∃ y, v = .str y ∧ Q (.str y) H') E0
theorem c_strOwn (M : MetOk X.prog X.w X.K X.mg X.base CX0 k C "__str__" ps sp) (hu : X.A.units + 64 < cLine) (hr : Room (k + 2) X.A) : CallR X (.type "str") (rStrOwn C sp) := by
  obtain ⟨_, f, fd, hM, F, hb⟩ := M
  intro pins s σ H xs us Q I r h
  obtain ⟨a, dx, fs, rfl, ha, q⟩ := h
  cases r with
  | cons r1 r2 =>
    cases r2
    cases (show _ = Value.ref a from r1)
    obtain ⟨ox, od, J⟩ := ins_at I ha
    have run : wpAny (model X.prog X.w) X.A.in1.in1 (call (.ref f) [.ref a]) (EP X pins σ fun v H' => ∃ y, v = .str y ∧ Q (.str y) H') (fun _ _ => False) s := by
      have h' : sp ([V.ref a] ++ []) H (fun v H' => ∃ y, v = .str y ∧ Q (.str y) H') E0 := by rw [List.append_nil]; exact q
      have vals : Vals ([V.ref a] ++ []) ([Value.ref a] ++ []) := .cons (show RelV (.ref a) (.ref a) from rfl) .nil
      refine wpAny_call (codeAny_mono (F.run X.A.in1.in1 X.stack s H ⟨[.ref a], []⟩ ([Value.ref a] ++ []) ([V.ref a] ++ []) _ E0 hr.in1.in1 I.env0.in1.in1 (hb s [.ref a] I.kIn (F.len _ _ _ _ h')) vals h') fun r s' hq => ?_)
      cases r with
      | error e => exact False.elim hq
      | ok fl =>
        cases fl with
        | ret u => exact I.after hq
        | next => exact False.elim hq
        | brk => exact False.elim hq
        | cont => exact False.elim hq
    refine PySem.W.kso_call (by show X.A.units + 1 + 1 < cLine; omega) I.kIn J hM.at_ hM.fn (wpAny_mono run (fun u s' hq => ?_) fun _ _ z => False.elim z)
    obtain ⟨z, H1, I1, rz, y, rfl, q1⟩ := hq
    obtain ⟨t, rfl⟩ := rz
    exact ⟨.str y, H1, I1, ⟨t, rfl⟩, q1⟩
theorem r_strOwn {a dx : Addr} {fs : List (Str × V)} {Q : VK} (ha : H a = some (.ins C dx fs)) (k : sp [.ref a] H (fun v H' => ∃ y, v = .str y ∧ Q (.str y) H') E0) : rStrOwn C sp [.ref a] H Q := ⟨a, dx, fs, rfl, ha, k⟩
end
/-! ### a as a test -/
def tTrO (C : Addr) (sp : Sp) (E : XK) (ta : TE) : TT := fun σ H Q => ta σ H fun x H' => rTruOwn C sp E x H' Q
theorem pt_own {X : Cx} {CX : CXT} {k : Nat} {C : Addr} {ps : List Str} {sp : Sp} {E : XK} {a : Expr} {ta : TE} (M : MetOk X.prog X.w X.K X.mg X.base CX k C "__bool__" ps sp) (hr : Room k X.A) (hx : Passes CX X E) (ha : PE X a ta)
    (he : ∀ whole, isTrue a X.env whole = (do let v ← whole; standAt a.pos; holding [v] (truthy v)) := by intro _; rfl) : PT X a (tTrO C sp E ta) := pt_truthR ha (tru_own M hr hx) he
theorem r_trO {C : Addr} {sp : Sp} {E : XK} {ta : TE} {σ : St} {H : Hp} {Q : Bool → Hp → Prop} (k : ta σ H fun x H' => rTruOwn C sp E x H' Q) : tTrO C sp E ta σ H Q := k
theorem r_truO {C a dx : Addr} {sp : Sp} {E : XK} {fs : List (Str × V)} {H : Hp} {Q : Bool → Hp → Prop} (ha : H a = some (.ins C dx fs)) (k : sp [.ref a] H (fun v H' => ∃ c, v = .bl c ∧ Q c H') E) : rTruOwn C sp E (.ref a) H Q := ⟨a, dx, fs, rfl, ha, k⟩
/-! ### bool(a) by an own `__bool__` -/
open Builtin in
theorem bool_new_tree (v : Value) : «bool.__new__» ⟨[.type "bool", v], []⟩ = (do
    if !(← isType (.type "bool")) then
      rule "bool.__new__.no-type"; raiseError "TypeError" s!"bool.__new__(X): X is not a type object ({← typeNameOf (.type "bool")})"
    if !(← isSubtype (.type "bool") (.type "bool")) then
      rule "bool.__new__.no-subtype"; raiseError "TypeError" s!"bool.__new__({← typeName (.type "bool")}): {← typeName (.type "bool")} is not a subtype of bool"
    ret (.bool (← truthy v))) := rfl
section
variable {X : Cx} {k : Nat} {C : Addr} {ps : List Str} {sp : Sp} {H : Hp}
def rBoolOwn (C : Addr) (sp : Sp) : List V → Hp → VK → Prop := fun xs H Q => ∃ (a dx : Addr) (fs : List (Str × V)), xs = [.ref a] ∧ H a = some (.ins C dx fs) ∧ sp [.ref a] H (fun v H' => ∃ c, v = .bl c ∧ Q (.bl c) H') E0
theorem c_boolOwn (M : MetOk X.prog X.w X.K X.mg X.base CX0 k C "__bool__" ps sp) (hr : Room (k + 2) X.A) : CallR X (.type "bool") (rBoolOwn C sp) := by
  obtain ⟨_, f, fd, hM, F, hb⟩ := M
  intro pins s σ H xs us Q I r h
  obtain ⟨a, dx, fs, rfl, ha, q⟩ := h
  cases r with
  | cons r1 r2 =>
    cases r2
    cases (show _ = Value.ref a from r1)
    obtain ⟨ox, od, J⟩ := ins_at I ha
    obtain ⟨m, Fr⟩ := I.fr
    have run : wpAny (model X.prog X.w) X.A.in1.in1 (call (.ref f) [.ref a]) (EP X pins σ fun v H' => ∃ c, v = .bl c ∧ Q (.bl c) H') (fun _ _ => False) s := by
      have h' : sp ([V.ref a] ++ []) H (fun v H' => ∃ c, v = .bl c ∧ Q (.bl c) H') E0 := by rw [List.append_nil]; exact q
      have vals : Vals ([V.ref a] ++ []) ([Value.ref a] ++ []) := .cons (show RelV (.ref a) (.ref a) from rfl) .nil
      refine wpAny_call (codeAny_mono (F.run X.A.in1.in1 X.stack s H ⟨[.ref a], []⟩ ([Value.ref a] ++ []) ([V.ref a] ++ []) _ E0 hr.in1.in1 I.env0.in1.in1 (hb s [.ref a] I.kIn (F.len _ _ _ _ h')) vals h') fun r s' hq => ?_)
      cases r with
      | error e => exact False.elim hq
      | ok fl =>
        cases fl with
        | ret u => exact I.after hq
        | next => exact False.elim hq
        | brk => exact False.elim hq
        | cont => exact False.elim hq
    refine callType_codes (T := "bool") (Bi := Builtin.«object.__init__») (Q₁ := fun r s₁ => ∃ c, r = .bool c ∧ EP X pins σ Q (.bool c) s₁) PySem.F.called_bool (PySem.F.typeCall_bool_1 _) PySem.F.entry_object_init ?_ ?_
    · refine codeAny_of_tree (show wpAny _ X.A.in1.in1 (do checkBuiltinCall "bool.__new__" ⟨[.type "bool", .ref a], []⟩; again (.builtin "bool.__new__" ⟨[.type "bool", .ref a], []⟩)) _ _ s from ?_)
      refine wpAny_bind (wpAny_of_eq (PySem.F.newCall_bool_1 _) (wpAny_pure ⟨plainId_quiet (by decide +kernel) _, codeAny_builtin PySem.F.entry_bool_new ?_⟩))
      rw [Around.under_plainId (by decide +kernel) _, bool_new_tree]
      refine wpAny_bind (wpAny_pure ?_)
      refine wpAny_bind (wpAny_of_eq PySem.F.conv_sub_bool ?_)
      refine wpAny_bind (PySem.W.truthy_K Fr I.ok.mod.kin J hM.at_ hM.fn (wpAny_mono run (fun u s' hq => ?_) fun _ _ z => False.elim z))
      obtain ⟨z, H1, I1, rz, c, rfl, q1⟩ := hq
      obtain rfl : u = Value.bool c := rz
      exact wpAny_pure ⟨c, rfl, .bl c, H1, I1, rfl, q1⟩
    · rintro obj s₁ ⟨c, rfl, hq⟩
      exact ⟨rfl, PySem.F.args_object_init_2 _ _, object_init_meets PySem.F.called_bool.init.lookup PySem.F.called_bool.made (by decide) X.prog X.w X.A.in1 _ s₁ ⟨rfl, rfl, hq⟩⟩
theorem r_boolOwn {a dx : Addr} {fs : List (Str × V)} {Q : VK} (ha : H a = some (.ins C dx fs)) (k : sp [.ref a] H (fun v H' => ∃ c, v = .bl c ∧ Q (.bl c) H') E0) : rBoolOwn C sp [.ref a] H Q := ⟨a, dx, fs, rfl, ha, k⟩
end
/-! ### a[i] by an own `__getitem__` -/
def tSubO (C : Addr) (sp : Sp) (E : St → XK) (ta tb : TE) : TE := fun σ H Q => ta σ H fun x H1 => tb σ H1 fun y H2 => ∃ (a dx : Addr) (fs : List (Str × V)), x = .ref a ∧ H2 a = some (.ins C dx fs) ∧ sp [x, y] H2 Q (E σ)
section
variable {X : Cx} {CX : CXT} {k : Nat} {C : Addr} {ps : List Str} {sp : Sp} {E : St → XK} {a b : Expr} {ta tb : TE} {pos : Pos} {σ : St} {H : Hp} {Q : VK}
theorem pe_subOwn (M : MetOk X.prog X.w X.K X.mg X.base CX k C "__getitem__" ps sp) (hfi : ∀ f, PySem.W.findIn X.K (.ref C) "__getitem__" = some (some (.ref f)) → PySem.W.fnIn X.K f = true) (hr : Room (k + 1) X.A) (hx : ∀ σ, PassesAt CX X σ (E σ)) (ha : PE X a ta) (hb : PE X b tb)
    (hsl : ∀ v i, subscripted b true v i = runValue (.builtin "lifetime.subscript" ⟨[v, i], []⟩) := by intro _ _; with_unfolding_all rfl) : PE X (.Subscript a b pos) (tSubO C sp E ta tb) := by
  obtain ⟨_, f, fd, hM, F, hbi⟩ := M
  refine ⟨fun pins s σ H Q I h => ?_⟩
  refine Subscript_ (binT ha hb I (R := fun x y H2 => ∃ (a dx : Addr) (fs : List (Str × V)), x = .ref a ∧ H2 a = some (.ins C dx fs) ∧ sp [x, y] H2 Q (E σ)) h fun v u s2 x y H2 I2 rx ry q => ?_)
  obtain ⟨a, dx, fs, rfl, ea, q⟩ := q
  obtain rfl : v = Value.ref a := rx
  obtain ⟨m, Fr⟩ := I2.fr
  obtain ⟨ox, od, J⟩ := ins_at I2 ea
  refine PySem.W.sub_K Fr I2.ok.mod.kin J hM.at_ (hfi f hM.at_) hM.fn ?_ (hsl _ _)
  have h' : sp ([V.ref a, y] ++ []) H2 Q (E σ) := by rw [List.append_nil]; exact q
  have vals : Vals ([V.ref a, y] ++ []) ([Value.ref a, u] ++ []) := .cons (show RelV (.ref a) (.ref a) from rfl) (.cons ry .nil)
  refine wpAny_call (codeAny_mono (F.run X.A.in1 X.stack s2 H2 ⟨[.ref a, u], []⟩ ([Value.ref a, u] ++ []) ([V.ref a, y] ++ []) _ (E σ) hr.in1 I2.env0.in1 (hbi s2 [.ref a, u] I2.kIn (F.len _ _ _ _ h')) vals h') fun r s' hq => ?_)
  cases r with
  | error e => exact hx σ pins H2 s2 e s' I2 hq
  | ok fl =>
    cases fl with
    | ret u => exact I2.after hq
    | next => exact False.elim hq
    | brk => exact False.elim hq
    | cont => exact False.elim hq
theorem r_subO (k : ta σ H fun x H1 => tb σ H1 fun y H2 => ∃ (a dx : Addr) (fs : List (Str × V)), x = .ref a ∧ H2 a = some (.ins C dx fs) ∧ sp [x, y] H2 Q (E σ)) : tSubO C sp E ta tb σ H Q := k
theorem r_subI {p dx : Addr} {fs : List (Str × V)} {R : Addr → Prop} (h : H p = some (.ins C dx fs)) (q : R p) : ∃ (a dx : Addr) (fs : List (Str × V)), V.ref p = .ref a ∧ H a = some (.ins C dx fs) ∧ R a := ⟨p, dx, fs, rfl, h, q⟩
end
/-- raise C(name) -/
theorem r_mkV {K : PySem.W.Frag} {C : Addr} {f : Str} {v : V} {i : Nat} {σ : St} {H : Hp} {Q : XK} (T : OexC K C) (hf : PySem.W.findIn K (.ref C) f = some none) (hv : σ[i]? = some (some v)) (k : ∀ d, H d = none → Q (.ref C) (some d) (upd H d (.xd [(f, v)]))) :
    tMkO C (spInitF K C f) [] (tCons (tVar i) tNil) σ H Q := r_mkF (x := v) T hf ⟨v, hv, v, rfl, k⟩ (fun hh ⟨v, hv, h⟩ => ⟨v, hv, hh _ _ h⟩)
/-! ### str of ints and texts, joined texts -/
section
variable {X : Cx} {σ : St} {H : Hp} {Q : VK}
def uStr : List V → Hp → VK → Prop := fun xs H Q => (∃ i, xs = [.int i] ∧ i.natAbs.log2 < 1920 ∧ Q (.str (toString i)) H) ∨ ∃ a, xs = [.str a] ∧ Q (.str a) H
theorem c_str : CallR X (.type "str") uStr := CallR.or call_str_int SkE.call_str_str
theorem r_strI {i : Int} (z : i.natAbs.log2 < 1920) (k : Q (.str (toString i)) H) : uStr [.int i] H Q := .inl ⟨i, rfl, z, k⟩
def tFs (ts : List TE) : TE := fun σ H Q => tJs ts Str.empty σ H fun out H1 => Q (.str out) H1
theorem pe_fs {v1 v2 : Expr} {rest : List Expr} {ts : List TE} {pos : Pos} (h : PJ X (v1 :: v2 :: rest) ts) : PE X (.JoinedStr (v1 :: v2 :: rest) pos) (tFs ts) := pe_joined h
theorem r_fs {ts : List TE} (k : tJs ts Str.empty σ H fun out H1 => Q (.str out) H1) : tFs ts σ H Q := k
variable {QS : Str → Hp → Prop} {acc : Str} {t : TE} {ts : List TE} {te to : TE}
theorem r_js (k : t σ H fun x H1 => ∃ y, x = .str y ∧ (acc ++ y).length ≤ sizeLine ∧ tJs ts (acc ++ y) σ H1 QS) : tJs (t :: ts) acc σ H QS := k
theorem r_js0 (k : QS acc H) : tJs [] acc σ H QS := k
theorem r_jy {y : Str} {R : Str → Prop} (z : (acc ++ y).length ≤ sizeLine) (k : R y) : ∃ y', V.str y = .str y' ∧ (acc ++ y').length ≤ sizeLine ∧ R y' := ⟨y, rfl, z, k⟩
theorem r_fmt (k : te σ H fun x H1 => (∃ y : Str, x = .str y ∧ y.length ≤ sizeLine ∧ Q (.str y) H1) ∨ ∃ i : Int, x = .int i ∧ i.natAbs.log2 < 1920 ∧ Q (.str (toString i)) H1) : tFmt te σ H Q := k
theorem r_fmS {y : Str} {R : Str → Prop} {R2 : Int → Prop} (z : y.length ≤ sizeLine) (k : R y) : (∃ y' : Str, V.str y = .str y' ∧ y'.length ≤ sizeLine ∧ R y') ∨ ∃ i : Int, V.str y = .int i ∧ i.natAbs.log2 < 1920 ∧ R2 i := .inl ⟨y, rfl, z, k⟩
theorem r_fmI {i : Int} {R : Str → Prop} {R2 : Int → Prop} (z : i.natAbs.log2 < 1920) (k : R2 i) : (∃ y' : Str, V.int i = .str y' ∧ y'.length ≤ sizeLine ∧ R y') ∨ ∃ j : Int, V.int i = .int j ∧ j.natAbs.log2 < 1920 ∧ R2 j := .inr ⟨i, rfl, z, k⟩
def rJoin (K : PySem.W.Frag) : V → List V → Hp → VK → Prop := fun x xs H Q => ∃ a p, ∃ ys : List Str, x = .str a ∧ xs = [.ref p] ∧ (SqL K H p (ys.map V.str) ∨ SqT K H p (ys.map V.str)) ∧ (ys.map (·.length)).sum + ys.length * a.length ≤ 16777216 ∧ Q (.str (Txt.join a ys)) H
theorem pe_joinK {o e : Expr} {apos pos : Pos} (K : PySem.W.Frag) (ho : PE X o to) (he : PE X e te) (hs : starEach [e] X.env = [(false, eval e X.env)] := by rfl) (hbase : attributeBase o "join" X.env (eval o X.env) = eval o X.env := by rfl) (hline : (apos.endLine == pos.line) = true := by rfl) (hK : X.K = K := by rfl) :
    PE X (.Call (.Attribute o "join" apos) [e] [] pos) (tM1 (rJoin K) to te) := hK ▸ pe_join ho he hs hbase hline
def rSplit : V → List V → Hp → VK → Prop := fun x xs H Q => ∃ a b, x = .str a ∧ xs = [.str b] ∧ (b.length == 0) = false ∧ a.length + 2 ≤ sizeLine ∧ rNewStrs (Txt.split a b) H Q
theorem pe_splitK {o e : Expr} {apos pos : Pos} (ho : PE X o to) (he : PE X e te) (hs : starEach [e] X.env = [(false, eval e X.env)] := by rfl) (hbase : attributeBase o "split" X.env (eval o X.env) = eval o X.env := by rfl) (hline : (apos.endLine == pos.line) = true := by rfl) :
    PE X (.Call (.Attribute o "split" apos) [e] [] pos) (tM1 rSplit to te) := pe_split ho he hs hbase hline
theorem slL (K : PySem.W.Frag) {X : Cx} (hK : X.K = K := by rfl) : SlR X (rSlL K) := hK ▸ sl_list
theorem r_slL {K : PySem.W.Frag} {p : Addr} {xs : List V} {lo hi : Option Int} (h : SqL K H p xs) (k : ∀ q, H q = none → Q (.ref q) (upd H q (.lst (cutV xs lo hi)))) : rSlL K (.ref p) lo hi H Q := ⟨p, xs, rfl, h, k⟩
theorem cut_take (xs : List V) (n : Nat) : cutV xs none (some (n : Int)) = xs.take n := by
  unfold cutV HT.sIx
  have h : ¬ ((n : Int) < 0) := by omega
  simp only [if_neg h, List.drop_zero, Nat.sub_zero, Int.toNat_natCast]
  rw [List.take_eq_take_iff]
  omega
theorem r_bm0 {K : PySem.W.Frag} {T : String} {r : V → List V → Hp → VK → Prop} (k : to σ H fun x H1 => tyV K T x H1 ∧ r x [] H1 Q) : tBM0 K T r to σ H Q := k
theorem r_m1 {r : V → List V → Hp → VK → Prop} (k : to σ H fun x H1 => (∃ a, x = .str a) ∧ te σ H1 fun y H2 => r x [y] H2 Q) : tM1 r to te σ H Q := k
theorem r_isS {z : Str} {R : Prop} (k : R) : (∃ a, V.str z = .str a) ∧ R := ⟨⟨z, rfl⟩, k⟩
theorem r_join {K : PySem.W.Frag} {a : Str} {p : Addr} {ys : List Str} (h : SqL K H p (ys.map V.str) ∨ SqT K H p (ys.map V.str)) (z : (ys.map (·.length)).sum + ys.length * a.length ≤ 16777216) (k : Q (.str (Txt.join a ys)) H) : rJoin K (.str a) [.ref p] H Q := ⟨a, p, ys, rfl, rfl, h, z, k⟩
end
end Hg
end L2
end

section
set_option Elab.async false
set_option linter.all false
set_option maxRecDepth 100000
set_option maxHeartbeats 4000000
/-! max(xs, key=int), max(a, b, key=int). -/
namespace L2
namespace Hg
open PySem PySem.Spec PyProof.Rows
/-- what the list of the best one so far holds -/
def BestAt (h : Heap) (S : Addr) : Option Int → Prop
  | none => ∃ c, h.get? S = some (seqObj "list" #[] c)
  | some M => ∃ c t u, h.get? S = some (seqObj "list" #[.int M t, .int M u] c)
theorem BestAt.keep {h h' : Heap} {S : Addr} {b : Option Int} (k : ∀ o, h.get? S = some o → h'.get? S = some o) (x : BestAt h S b) : BestAt h' S b := by
  cases b with
  | none => obtain ⟨c, e⟩ := x; exact ⟨c, k _ e⟩
  | some M => obtain ⟨c, t, u, e⟩ := x; exact ⟨c, t, u, k _ e⟩
section
variable {prog : Program} {w : World} {A : Around} {s : Shared} {R : Result → Shared → Prop} {I S : Addr} {fp : List Addr} {n : Nat} {P : Nat → Value → Prop} {St : Nat → Heap → Prop} {ns : Nat → Int} {h0 : Heap}
theorem maxk_loop (W : Walks prog w A.in1 I fp [I] n P St) (hP : ∀ i v, P i v → ∃ t, v = .int (ns i) t) (fS : S ∉ fp) (ne : S ≠ I) (oI : h0.get? I = none) (oS : h0.get? S = none) (n0 : 0 < n)
    (fin : ∀ M t h tk, (∃ i, i < n ∧ ns i = M) → (∀ i, i < n → ns i ≤ M) → (∀ b o, h0.get? b = some o → h.get? b = some o) → R (.ok (.ret (.int M t))) { s with heap := h, toks := tk }) :
    ∀ (r j : Nat) (b : Option Int) (h : Heap) (tk : Nat), n - j = r → j ≤ n → St j h → BestAt h S b → (∀ b o, h0.get? b = some o → h.get? b = some o) → (b = none → j = 0) → (∀ M, b = some M → (∃ i, i < j ∧ ns i = M) ∧ ∀ i, i < j → ns i ≤ M) →
      codeAny (model prog w) A (.builtin "max.loop" ⟨[.ref I, .type "int", .ref S], []⟩) R { s with heap := h, toks := tk } := by
  have nm : (toString "max" ++ toString ".loop" : String) = "max.loop" := by decide
  have nbI : ∀ b o, h0.get? b = some o → b ∉ [I] := fun b o e z => by
    rw [List.mem_singleton.mp z, oI] at e
    exact nomatch e
  have nbS : ∀ b o, h0.get? b = some o → b ≠ S := fun b o e z => by
    rw [z, oS] at e
    exact nomatch e
  have SI : S ∉ [I] := fun z => ne (List.mem_singleton.mp z)
  intro r
  induction r with
  | zero =>
    intro j b h tk hr hj hst hb hk h1 h2
    have ej : j = n := by omega
    subst ej
    cases b with
    | none => have := h1 rfl; omega
    | some M =>
      obtain ⟨c, t, u, e⟩ := hb
      refine codeAny_builtin (PySem.F.entry_max_loop) ?_
      rw [Around.under_plainId (PySem.F.plain_max_loop) _]
      refine (show wpAny _ A.in1 (seqItems? (.ref S) >>= _) _ _ _ from wpAny_bind (wpAny_seqItems e rfl ?_))
      refine (show wpAny _ A.in1 (tryCatch (pyNext (.ref I)) _ >>= _) _ _ _ from wpAny_bind (wpAny_tryCatch (W.done _ _ _ hst fun g tk' kg => ?_)))
      have eS := kg S _ SI e
      have same := Heap.SameBut.update g S (Obj.mapSeq fun _ => (#[] : Array Value))
      refine (show wpAny _ A.in1 (updateSeq S (fun _ => #[]) >>= _) _ _ _ from wpAny_bind (wpAny_updateSeq eS rfl (wpAny_bind (wpAny_letGo (wpAny_pure ?_)))))
      obtain ⟨q1, q2⟩ := h2 M rfl
      exact fin M t _ _ q1 q2 fun b o z => (same.2 b (nbS b o z)).trans (kg b o (nbI b o z) (hk b o z))
  | succ r ih =>
    intro j b h tk hr hj hst hb hk h1 h2
    have lt : j < n := by omega
    have step : ∀ (d : Option Int) (t u : Tok) (g : Heap) (tk' : Nat), St (j + 1) g → BestAt g S d → (∀ b o, h0.get? b = some o → g.get? b = some o) → d ≠ none → (∀ M, d = some M → (∃ i, i < j + 1 ∧ ns i = M) ∧ ∀ i, i < j + 1 → ns i ≤ M) →
        codeAny (model prog w) A (.builtin "max.loop" ⟨[.ref I, .type "int", .ref S], []⟩) R { s with heap := g, toks := tk' } := fun d t u g tk' g1 g2 g3 g4 g5 =>
      ih (j + 1) d g tk' (by omega) lt g1 g2 g3 (fun z => absurd z g4) g5
    obtain ⟨its, c, e, hits⟩ : ∃ its c, h.get? S = some (seqObj "list" its c) ∧ ((b = none ∧ its = #[]) ∨ ∃ M t u, b = some M ∧ its = #[.int M t, .int M u]) := by
      cases b with
      | none => obtain ⟨c, e⟩ := hb; exact ⟨_, c, e, .inl ⟨rfl, rfl⟩⟩
      | some M => obtain ⟨c, t, u, e⟩ := hb; exact ⟨_, c, e, .inr ⟨M, t, u, rfl, rfl⟩⟩
    have isz : its.size ≤ sizeLine := by
      rcases hits with ⟨_, rfl⟩ | ⟨M, t, u, _, rfl⟩
      · exact Nat.zero_le _
      · exact (by decide : 2 ≤ sizeLine)
    refine codeAny_builtin (PySem.F.entry_max_loop) ?_
    rw [Around.under_plainId (PySem.F.plain_max_loop) _]
    refine (show wpAny _ A.in1 (seqItems? (.ref S) >>= _) _ _ _ from wpAny_bind (wpAny_seqItems e rfl ?_))
    refine (show wpAny _ A.in1 (tryCatch (pyNext (.ref I)) _ >>= _) _ _ _ from wpAny_bind (wpAny_tryCatch (W.item j _ _ _ lt hst fun v g tk' hv hst' kg => ?_)))
    obtain ⟨t, rfl⟩ := hP j v hv
    have eS := kg S _ SI e
    have hk' : ∀ b o, h0.get? b = some o → g.get? b = some o := fun b o z => kg b o (nbI b o z) (hk b o z)
    refine (show wpAny _ A.in1 (tryCatch (holding [Value.int (ns j) t] (call (.type "int") [.int (ns j) t])) _ >>= _) _ _ _ from wpAny_bind (wpAny_tryCatch (wpAny_holding (PySem.call_int_int ?_))))
    have put : ∀ (x y : Tok), St (j + 1) (g.update S (Obj.mapSeq fun _ => #[.int (ns j) x, .int (ns j) y])) ∧ BestAt (g.update S (Obj.mapSeq fun _ => #[.int (ns j) x, .int (ns j) y])) S (some (ns j)) ∧
        ∀ b o, h0.get? b = some o → (g.update S (Obj.mapSeq fun _ => #[.int (ns j) x, .int (ns j) y])).get? b = some o := fun x y => by
      have same := Heap.SameBut.update g S (Obj.mapSeq fun _ => #[Value.int (ns j) x, .int (ns j) y])
      exact ⟨W.frame _ _ _ hst' fun b hb o z => (same.2 b (fun q => fS (q ▸ hb))).trans z, ⟨_, _, _, get?_update_seq eS fun _ => #[.int (ns j) x, .int (ns j) y]⟩, fun b o z => (same.2 b (nbS b o z)).trans (hk' b o z)⟩
    rcases hits with ⟨rfl, rfl⟩ | ⟨M, t1, u1, rfl, rfl⟩
    · have j0 := h1 rfl
      subst j0
      obtain ⟨p1, p2, p3⟩ := put t t
      refine (show wpAny _ A.in1 (updateSeq S (fun _ => #[.int (ns 0) t, .int (ns 0) t]) >>= _) _ _ _ from wpAny_bind (wpAny_updateSeq eS rfl ?_))
      rw [nm]
      refine wpAny_pure ⟨plainId_quiet (PySem.F.plain_max_loop) _, step _ t t _ _ p1 p2 p3 (fun z => nomatch z) fun M' e' => ?_⟩
      cases e'
      exact ⟨⟨0, Nat.lt_succ_self _, rfl⟩, fun i hi => by rw [show i = 0 by omega]; exact Int.le_refl _⟩
    · obtain ⟨⟨i0, i1, rfl⟩, i3⟩ := h2 M rfl
      refine (show wpAny _ A.in1 (tryCatch (holding [Value.int (ns j) t, .int (ns j) t] (richCompare .Gt (.int (ns j) t) (.int (ns i0) u1) >>= _)) _ >>= _) _ _ _ from
        wpAny_bind (wpAny_tryCatch (wpAny_holding (wpAny_bind (CmpOf.ints_gt (P := fun i v => ∃ t, v = .int (ns i) t) ns (fun i v h => h) j i0 _ _ _ _ _ ⟨t, rfl⟩ ⟨u1, rfl⟩ ?_)))))
      refine wpAny_bind (wpAny_holding (wpAny_truthy_bool (wpAny_bind (wpAny_letGo (wpAny_pure ?_)))))
      by_cases better : ns j > ns i0
      · obtain ⟨p1, p2, p3⟩ := put t t
        simp only [better, decide_true, if_true]
        refine wpAny_bind (wpAny_updateSeq eS rfl (wpAny_bind (wpAny_letGo ?_)))
        rw [nm]
        refine wpAny_pure ⟨plainId_quiet (PySem.F.plain_max_loop) _, step _ t t _ _ p1 p2 p3 (fun z => nomatch z) fun M' e' => ?_⟩
        cases e'
        refine ⟨⟨j, Nat.lt_succ_self _, rfl⟩, fun i hi => ?_⟩
        by_cases e : i = j
        · rw [e]; exact Int.le_refl _
        · have := i3 i (by omega)
          omega
      · simp only [better, decide_false, Bool.false_eq_true, if_false]
        refine wpAny_bind (wpAny_letGo ?_)
        rw [nm]
        refine wpAny_pure ⟨plainId_quiet (PySem.F.plain_max_loop) _, step (some (ns i0)) t t _ _ hst' ⟨_, _, _, eS⟩ hk' (fun z => nomatch z) fun M' e' => ?_⟩
        cases e'
        refine ⟨⟨i0, by omega, rfl⟩, fun i hi => ?_⟩
        by_cases e : i = j
        · rw [e]; omega
        · exact i3 i (by omega)
end
/-- max(xs, key=int) of a list of ints -/
def rMaxKey (K : PySem.W.Frag) : List V → List V → Hp → VK → Prop := fun xs zs H Q => ∃ (a : Addr) (ns : List Int), xs = [.ref a] ∧ zs = [.ty "int"] ∧ SqL K H a (ns.map V.int) ∧ 0 < ns.length ∧ ∀ m, m ∈ ns → (∀ y, y ∈ ns → y ≤ m) → Q (.int m) H
theorem bind_key (v : Value) : Builtin.Builtins.bindParams "max" ["key", "default"] 0 ⟨[], [(Str.ofString "key", v)]⟩ = pure [some v, none] := rfl
theorem max_key2 (a b v : Value) : argsOk "max" ⟨[a, b], [(Str.ofString "key", v)]⟩ := by unfold argsOk; kernel_rfl
section
variable {X : Cx}
theorem cr_maxKey (K : PySem.W.Frag) (hc : X.calm = true) (hK : X.K = K := by rfl) : CallRK X (.builtin "max") [Str.ofString "key"] (rMaxKey K) := by
  subst hK
  intro pins s σ H xs zs us ws Q I r rz h
  obtain ⟨a, ns, rfl, rfl, hs, hne, q⟩ := h
  obtain ⟨its, rv, hl, _⟩ := I.list hs
  have hl := hl.isList
  rw [Vals.ref1 r]
  cases rz with
  | cons r1 r2 =>
    cases r2
    cases (show _ = Value.type "int" from r1)
    have hi := rv.ints
    have hlen := hi.length
    have la : a < s.heap.objs.size := let ⟨o, e, _⟩ := hl; Heap.lt_size e
    refine PyProof.Rows.kmk_tree (args := [.ref a]) (kw := [(Str.ofString "key", .type "int")]) PySem.F.kind_max PySem.F.plain_max PySem.F.entry_max (PyProof.Rows.kmk_max_key _ _) ?_
    refine (show wpAny _ X.A.in1 (Builtin.Builtins.bindParams "max" ["key", "default"] 0 ⟨[], [(Str.ofString "key", .type "int")]⟩ >>= _) _ _ s from wpAny_bind (wpAny_of_eq (bind_key _) (wpAny_bind (wpAny_pure (wpAny_bind (wpAny_pyIter_list hl (wpAny_bind (wpAny_newList ?_ (Nat.zero_le _)))))))))
    rw [show (toString "max" ++ toString ".loop" : String) = "max.loop" by decide]
    have sz : (s.heap.push { cls := .type "list_iterator", data := .fields #[.ref a, .int 0 0] }).objs.size = s.heap.objs.size + 1 := size_push' ..
    have eI : ((s.heap.push { cls := .type "list_iterator", data := .fields #[.ref a, .int 0 0] }).push (seqObj "list" #[] 0)).get? s.heap.objs.size = some { cls := .type "list_iterator", data := .fields #[.ref a, .int 0 0] } := Heap.get?_push_of_some _ (Heap.get?_push_size _ rfl)
    have W : Walks X.prog X.w X.A.in1 s.heap.objs.size [s.heap.objs.size, a] [s.heap.objs.size] its.toArray.size (fun i v => its.toArray[i]? = some v) (fun i h => h.IsListIter s.heap.objs.size a i ∧ h.IsList a its.toArray) := Walks.list (A := X.A.in1) (I.ok.hd hc) s.heap.objs.size a (Nat.ne_of_lt la) its.toArray
    have st0 : ((s.heap.push { cls := .type "list_iterator", data := .fields #[.ref a, .int 0 0] }).push (seqObj "list" #[] 0)).IsListIter s.heap.objs.size a 0 ∧ ((s.heap.push { cls := .type "list_iterator", data := .fields #[.ref a, .int 0 0] }).push (seqObj "list" #[] 0)).IsList a its.toArray :=
      ⟨⟨_, eI, rfl, rfl⟩, let ⟨o, e, rest⟩ := hl; ⟨o, Heap.get?_push_of_some _ (Heap.get?_push_of_some _ e), rest⟩⟩
    refine wpAny_pure ⟨plainId_quiet (PySem.F.plain_max_loop) _, ?_⟩
    refine maxk_loop (h0 := s.heap) (ns := fun i => ns.getD i 0) W (fun i v hv => ?_) (fun z => ?_) (by rw [sz]; exact Nat.succ_ne_self _) (Heap.get?_none_of_le (Nat.le_refl _)) (Heap.get?_none_of_le (by rw [sz]; exact Nat.le_succ _)) (by rw [List.size_toArray, hlen]; exact hne)
      (fun M t h tk m1 m2 k => ?_) _ 0 none _ _ rfl (Nat.zero_le _) st0 ⟨0, Heap.get?_push_size _ rfl⟩ (fun b o e => Heap.get?_push_of_some _ (Heap.get?_push_of_some _ e)) (fun _ => rfl) (fun M e => nomatch e)
    · have hv : its[i]? = some v := by simpa using hv
      have hi' : i < its.length := (List.getElem?_eq_some_iff.mp hv).1
      have hn : ns[i]? = some ns[i] := List.getElem?_eq_getElem (by omega)
      obtain ⟨t, ht⟩ := hi.get i _ hn
      rw [ht] at hv
      cases hv
      exact ⟨t, by simp [hn]⟩
    · rw [sz] at z
      rcases List.mem_cons.mp z with z | z
      · exact Nat.succ_ne_self _ z
      · exact absurd (List.mem_singleton.mp z) (Nat.ne_of_gt (Nat.lt_succ_of_lt la))
    · obtain ⟨i, i1, rfl⟩ := m1
      rw [List.size_toArray] at i1 m2
      refine ⟨.int _, H, I.kept k, ⟨_, rfl⟩, q _ ?_ fun y hy => ?_⟩
      · have hn : ns[i]? = some ns[i] := List.getElem?_eq_getElem (by omega)
        simp only [List.getD_eq_getElem?_getD, hn, Option.getD_some]
        exact List.getElem_mem _
      · obtain ⟨j, hj, rfl⟩ := List.getElem_of_mem hy
        have z := m2 j (by omega)
        have hn : ns[j]? = some ns[j] := List.getElem?_eq_getElem hj
        simp only [List.getD_eq_getElem?_getD, hn, Option.getD_some] at z ⊢
        exact z
/-- max(a, b, key=int) of two ints -/
def rMaxKey2 : List V → List V → Hp → VK → Prop := fun xs zs H Q => ∃ i j : Int, xs = [.int i, .int j] ∧ zs = [.ty "int"] ∧ Q (.int (if j > i then j else i)) H
theorem cr_maxKey2 (hc : X.calm = true) : CallRK X (.builtin "max") [Str.ofString "key"] rMaxKey2 := by
  intro pins s σ H xs zs us ws Q I r rz h
  obtain ⟨i, j, rfl, rfl, q⟩ := h
  cases r with
  | cons r1 r2 =>
  cases r2 with
  | cons r2 r3 =>
  cases r3
  obtain ⟨t1, rfl⟩ := r1
  obtain ⟨t2, rfl⟩ := r2
  cases rz with
  | cons r4 r5 =>
    cases r5
    cases (show _ = Value.type "int" from r4)
    let tup : Obj := { cls := .type "tuple", data := .seq [Value.int i t1, .int j t2].toArray }
    let itr : Obj := { cls := .type "tuple_iterator", data := .fields #[.ref s.heap.objs.size, .int 0 0] }
    have s1 : (s.heap.push tup).objs.size = s.heap.objs.size + 1 := size_push' ..
    have s2 : ((s.heap.push tup).push itr).objs.size = s.heap.objs.size + 1 + 1 := by rw [size_push', s1]
    have hT : (s.heap.push tup).IsTuple s.heap.objs.size [Value.int i t1, .int j t2].toArray := ⟨tup, Heap.get?_push_size _ rfl, rfl, _, rfl⟩
    refine PyProof.Rows.kmk_tree (args := [.int i t1, .int j t2]) (kw := [(Str.ofString "key", .type "int")]) PySem.F.kind_max PySem.F.plain_max PySem.F.entry_max (max_key2 _ _ _) ?_
    refine (show wpAny _ X.A.in1 (Builtin.Builtins.bindParams "max" ["key", "default"] 0 ⟨[], [(Str.ofString "key", .type "int")]⟩ >>= _) _ _ s from wpAny_bind (wpAny_of_eq (bind_key _) (wpAny_bind (wpAny_newTuple (wpAny_bind (wpAny_pyIter_tuple hT (wpAny_bind (wpAny_newList ?_ (Nat.zero_le _)))))))))
    rw [show (toString "max" ++ toString ".loop" : String) = "max.loop" by decide]
    have W : Walks X.prog X.w X.A.in1 (s.heap.push tup).objs.size [(s.heap.push tup).objs.size, s.heap.objs.size] [(s.heap.push tup).objs.size] [Value.int i t1, .int j t2].toArray.size (fun k v => [Value.int i t1, .int j t2].toArray[k]? = some v) (fun k h => h.IsTupleIter (s.heap.push tup).objs.size s.heap.objs.size k ∧ h.IsTuple s.heap.objs.size [Value.int i t1, .int j t2].toArray) :=
      Walks.tuple (A := X.A.in1) (I.ok.hd hc) (s.heap.push tup).objs.size s.heap.objs.size (by rw [s1]; exact Nat.ne_of_lt (Nat.lt_succ_self _)) _
    refine wpAny_pure ⟨plainId_quiet (PySem.F.plain_max_loop) _, ?_⟩
    refine maxk_loop (h0 := s.heap) (ns := fun k => if k = 0 then i else j) W (fun k v hv => ?_) (fun z => ?_) (by show ((s.heap.push tup).push itr).objs.size ≠ _; rw [s2, s1]; exact Nat.succ_ne_self _) (Heap.get?_none_of_le (by rw [s1]; exact Nat.le_succ _)) (Heap.get?_none_of_le (by show _ ≤ ((s.heap.push tup).push itr).objs.size; rw [s2]; exact Nat.le_add_right _ 2)) (show 0 < 2 by decide)
      (fun M t h tk m1 m2 k => ?_) _ 0 none _ _ rfl (Nat.zero_le _) ⟨⟨itr, Heap.get?_push_of_some _ (Heap.get?_push_size _ rfl), rfl, rfl⟩, ⟨tup, Heap.get?_push_of_some _ (Heap.get?_push_of_some _ (Heap.get?_push_size _ rfl)), rfl, _, rfl⟩⟩ ⟨0, Heap.get?_push_size _ rfl⟩
      (fun b o e => Heap.get?_push_of_some _ (Heap.get?_push_of_some _ (Heap.get?_push_of_some _ e))) (fun _ => rfl) (fun M e => nomatch e)
    · match k, hv with
      | 0, hv => exact ⟨t1, by cases hv; rfl⟩
      | 1, hv => exact ⟨t2, by cases hv; rfl⟩
      | k + 2, hv => simp at hv
    · have z : ((s.heap.push tup).push itr).objs.size ∈ [(s.heap.push tup).objs.size, s.heap.objs.size] := z
      rw [s2, s1] at z
      rcases List.mem_cons.mp z with z | z
      · exact Nat.succ_ne_self _ z
      · exact absurd (List.mem_singleton.mp z) (Nat.ne_of_gt (Nat.lt_succ_of_lt (Nat.lt_succ_self _)))
    · obtain ⟨k0, k1, rfl⟩ := m1
      have a0 := m2 0 (show 0 < 2 by decide)
      have a1 := m2 1 (show 1 < 2 by decide)
      refine ⟨.int _, H, I.kept k, ⟨_, rfl⟩, ?_⟩
      rw [if_pos rfl] at a0
      rw [if_neg (by decide)] at a1
      have e : (if k0 = 0 then i else j) = if j > i then j else i := by
        have : k0 = 0 ∨ k0 = 1 := by
          have : k0 < 2 := k1
          omega
        rcases this with rfl | rfl
        · rw [if_pos rfl] at a1 ⊢
          rw [if_neg (by omega)]
        · rw [if_neg (by decide)] at a0 ⊢
          split <;> omega
      rw [e]
      exact q
end
end Hg
end L2
end

section
set_option Elab.async false
set_option linter.all false
set_option maxRecDepth 100000
set_option maxHeartbeats 4000000
/-! Classmethods by place and by name; a class called by a local name. -/
namespace L2
namespace Hg
open PySem PySem.Spec PyProof.Rows
theorem fn_in {K : PySem.W.Frag} {f : Addr} {oc : Value} {od : Option Addr} {fd : FuncData} {sl : Array (Option Value)} (h : K.lookup f = some ⟨oc, od, .func fd, sl⟩) : PySem.W.fnIn K f = true := by
  show (match K.lookup f with | some ⟨_, _, .func _, _⟩ => true | _ => false) = true
  rw [h]
structure CmAt (K : PySem.W.Frag) (C : Addr) (m q : Str) (st : Stmt) : Prop where
  ex : ∃ (mc : Value) (p g : Addr) (fd : FuncData), ClX.CRead K C mc ∧ ClX.CMet K C mc m p g ∧ Fun K m q st g fd
def CmOk (P : Program) (w : World) (K : PySem.W.Frag) (mg : Str → Option Value) (base : Heap) (CX : CXT) (k : Nat) (C : Addr) (m q : Str) (st : Stmt) (ps : List Str) (sp : Sp) : Prop :=
  ∃ (mc : Value) (p g : Addr) (fd : FuncData), ClX.CRead K C mc ∧ ClX.CMet K C mc m p g ∧ Fun K m q st g fd ∧ FnOk P w K mg base CX k g fd ps sp ∧ Binds K fd ps []
section
variable {P : Program} {w : World} {K : PySem.W.Frag} {mg : Str → Option Value} {base : Heap} {k : Nat} {m q : Str} {st : Stmt} {C : Addr} {N ps : List Str} {sp : Sp}
theorem CmAt.ok (F : CmAt K C m q st) (S : FnScope N ps (defScope st)) (hb : BindsAs st m q ps) (len : ∀ vs H Q E, sp vs H Q E → vs.length = ps.length)
    (hbody : ∀ (f : Addr) (cdv : Value) (A : Around) (outer : List Env) (s : Shared) (H : Hp) (vs : List V) (Q : VK) (E : XK), Room k (A.deeper (envOfC q (defScope st) s.heap.objs.size f cdv)) → sp vs H Q E →
      ∃ t, PSs (cxOf CX0 P w K mg base N q (defScope st) f cdv A outer s H E).nox (defBody st) t ∧ t { nx := fun _ H' => Q .non H', rt := Q } (start N vs) H) : CmOk P w K mg base CX0 (k + 1) C m q st ps sp := by
  obtain ⟨mc, p, f, fd, r, c, F1⟩ := F.ex
  exact ⟨mc, p, f, fd, r, c, F1, F1.ok S len fun cdv A outer s H vs Q E hr h => hbody f cdv A outer s H vs Q E hr h, F1.binds hb⟩
theorem CmAt.okX (F : CmAt K C m q st) (S : FnScope N ps (defScope st)) (hb : BindsAs st m q ps) (len : ∀ vs H Q E, sp vs H Q E → vs.length = ps.length)
    (hbody : ∀ (f : Addr) (cdv : Value) (A : Around) (outer : List Env) (s : Shared) (H : Hp) (vs : List V) (Q : VK) (E : XK), Room k (A.deeper (envOfC q (defScope st) s.heap.objs.size f cdv)) → sp vs H Q E →
      ∃ t, PSs (cxOf (L2.CX P w) P w K mg base N q (defScope st) f cdv A outer s H E) (defBody st) t ∧ t { nx := fun _ H' => Q .non H', rt := Q } (start N vs) H) : CmOk P w K mg base (L2.CX P w) (k + 1) C m q st ps sp := by
  obtain ⟨mc, p, f, fd, r, c, F1⟩ := F.ex
  exact ⟨mc, p, f, fd, r, c, F1, F1.okX S len fun cdv A outer s H vs Q E hr h => hbody f cdv A outer s H vs Q E hr h, F1.binds hb⟩
/-- keywords alone, behind n values by place -/
theorem Fun.kb {f : Addr} {fd : FuncData} (F : Fun K m q st f fd) (n : Nat) (ks : List Str)
    (h : ∀ (kV doc pm : Value) (an : Option Addr) (cdv ct : Value) (us ws : List Value), us.length = n → ws.length = ks.length → bindArgs (PySem.W.fnOf m q (defArgs st) (defBody st) (defScope st) .none kV doc pm an cdv ct) ⟨us, ks.zip ws⟩ = pure (ps.zip (us ++ ws))) :
    KBn K fd ps n ks (fun us ws => us ++ ws) (fun vs zs => vs ++ zs) := by
  obtain ⟨oc, od, kV, doc, pm, an, cdv, ct, osl, rfl, lk, hcd⟩ := F.ex
  exact ⟨fun s us ws X l1 l2 => BindsTo.of_looks fun M => PySem.W.Looks.of_pure (h kV doc pm an cdv ct us ws l1 l2), fun r z => r.append z⟩
end
section
variable {X : Cx} {CX : CXT} {k : Nat} {C : Addr} {m q : Str} {st : Stmt} {ps : List Str} {sp : Sp} {E : XK} {o e : Expr} {es : List Expr} {kws : List Keyword} {pos apos p : Pos} {ta : TE} {t tk : TA} {pl : Sem Bool}
/-- C.m(e, ..) -/
def tCm (C : Addr) (sp : Sp) (E : XK) (ta : TE) (t : TA) : TE := fun σ H Q => ta σ H fun x H1 => x = .ref C ∧ t σ H1 fun vs H2 => sp (.ref C :: vs) H2 Q E
theorem pe_cm (F : CmOk X.prog X.w X.K X.mg X.base CX k C m q st ps sp) (hr : Room k X.A) (hx : Passes CX X E) (he : PE X o ta) (ha : PA X (e :: es) t)
    (hst : starEach (e :: es) X.env = (false, eval e X.env) :: starEach es X.env := by rfl) (hpl : (backTo pos (starEach es X.env)).any (·.1) = false := by rfl)
    (ht : eval (.Call (.Attribute o m apos) (e :: es) [] pos) X.env = (do
      let ov ← eval o X.env
      standAt apos.atName
      let (f, first) ← holding [ov] (getMethod ov m pl)
      callWith pos f first (backTo pos (starEach (e :: es) X.env)) (backToKw pos (keywordEach [] X.env))) := by rfl) :
    PE X (.Call (.Attribute o m apos) (e :: es) [] pos) (tCm C sp E ta t) := by
  obtain ⟨mc, pp, g, fd, r, c, F1, G, hb⟩ := F
  have R : FnR X.prog X.w X.K X.mg X.base CX k g sp := (G.raw hb .nil).imp fun vs H Q E h => by rw [List.append_nil]; exact h
  exact ClX.pe_cmeth he r c R hr hx ha hst hpl ht
/-- C.m() -/
theorem pe_cm0 (F : CmOk X.prog X.w X.K X.mg X.base CX k C m q st ps sp) (hr : Room k X.A) (hx : Passes CX X E) (he : PE X o ta)
    (ht : eval (.Call (.Attribute o m apos) [] [] pos) X.env = (do
      let ov ← eval o X.env
      standAt apos.atName
      let (f, first) ← holding [ov] (getMethod ov m pl)
      callWith pos f first (backTo pos (starEach [] X.env)) (backToKw pos (keywordEach [] X.env))) := by rfl) :
    PE X (.Call (.Attribute o m apos) [] [] pos) (tCm C sp E ta tNil) := by
  obtain ⟨mc, pp, g, fd, r, c, F1, G, hb⟩ := F
  have R : FnR X.prog X.w X.K X.mg X.base CX k g sp := (G.raw hb .nil).imp fun vs H Q E h => by rw [List.append_nil]; exact h
  refine ⟨fun pins s σ H Q I h => PySem.W.methodCall_KW (pl := pl) (thn (he.run pins s σ H _ I h) fun u s1 ⟨x, H1, I1, rx, ex, q⟩ => ?_) ht⟩
  subst ex
  obtain rfl : u = Value.ref C := rx
  refine ClX.getmethcm_ok I1 r c fun s2 I2 => ?_
  refine PySem.W.callWith_M0 (K := X.K) (g := g) (self := .ref C) ⟨ClX.pin_at I2, I2.kIn⟩ c.fi ?_
  exact ClX.run_cm R hr hx I2 .nil q
/-- C.m(k = e, ..) -/
theorem pe_cmK {ks : List Str} (F : CmOk X.prog X.w X.K X.mg X.base CX k C m q st ps sp) (hr : Room k X.A) (hx : Passes CX X E) (he : PE X o ta) (hkw : PK X kws tk)
    (hb : ∀ (kV doc pm : Value) (an : Option Addr) (cdv ct : Value) (us ws : List Value), us.length = 1 → ws.length = ks.length → bindArgs (PySem.W.fnOf m q (defArgs st) (defBody st) (defScope st) .none kV doc pm an cdv ct) ⟨us, ks.zip ws⟩ = pure (ps.zip (us ++ ws)))
    (hall : (backToKw pos (keywordEach kws X.env)).all (·.1.isSome) = true := by rfl) (hks : (backToKw pos (keywordEach kws X.env)).filterMap (·.1) = ks := by rfl)
    (hpl : ((backTo pos (starEach [] X.env)).any (·.1) || (backToKw pos (keywordEach kws X.env)).any (·.1.isNone)) = false := by rfl)
    (ht : eval (.Call (.Attribute o m apos) [] kws pos) X.env = (do
      let ov ← eval o X.env
      standAt apos.atName
      let (f, first) ← holding [ov] (getMethod ov m pl)
      callWith pos f first (backTo pos (starEach [] X.env)) (backToKw pos (keywordEach kws X.env))) := by rfl) :
    PE X (.Call (.Attribute o m apos) [] kws pos) (tCm C sp E ta fun σ H QL => tk σ H fun vs H2 => vs.length = ks.length ∧ QL vs H2) := by
  obtain ⟨mc, pp, g, fd, r, c, F1, G, _⟩ := F
  have KB := Fun.kb (ps := ps) F1 1 ks hb
  refine ⟨fun pins s σ H Q I h => PySem.W.methodCall_KW (pl := pl) (thn (he.run pins s σ H _ I h) fun u s1 ⟨x, H1, I1, rx, ex, q⟩ => ?_) ht⟩
  subst ex
  obtain rfl : u = Value.ref C := rx
  refine ClX.getmethcm_ok I1 r c fun s2 I2 => ?_
  refine PySem.W.callWith_of (P := PySem.W.MethP X.K s1.heap.objs.size g (.ref C)) hpl (PySem.W.keeps_M c.fi) (evalArgs_kw2_nil hall (thn (hkw.run pos _ s2 σ H1 _ I2 q) fun ws s3 ⟨zs, H2, I3, rz, lz, q2⟩ => ⟨⟨ClX.pin_at I3, I3.kIn⟩, ?_⟩))
  rw [hks]
  have z : wpAny (model X.prog X.w) X.A (call (.ref s1.heap.objs.size) [] (ks.zip ws)) (EP X ((s1.heap.objs.size, PySem.W.methodObj (.ref g) (.ref C)) :: pins) σ Q) X.xe s3 := by
    refine wpAny_call (PySem.W.method_call (ClX.pin_at I3) (codeAny_mono (G.run X.A X.stack s3 H2 ⟨[.ref C], ks.zip ws⟩ ([Value.ref C] ++ ws) ([V.ref C] ++ zs) Q E hr I3.env0 (KB.to s3 [.ref C] ws I3.kIn rfl (rz.length.symm.trans lz)) (KB.rel (.cons (show RelV (.ref C) (.ref C) from rfl) .nil) rz) q2) fun r s' hq => ?_))
    cases r with
    | error e => exact hx _ σ H2 s3 e s' I3 hq
    | ok fl =>
      cases fl with
      | ret u => exact I3.after hq
      | next => exact False.elim hq
      | brk => exact False.elim hq
      | cont => exact False.elim hq
  exact thn z fun _ _ y => ClX.unpinE y
/-- C.m(e, ..) where what is raised is wished at the slots -/
def tCmS (C : Addr) (sp : Sp) (ES : St → XK) (ta : TE) (t : TA) : TE := fun σ H Q => ta σ H fun x H1 => x = .ref C ∧ t σ H1 fun vs H2 => sp (.ref C :: vs) H2 Q (ES σ)
theorem pe_cmS {ES : St → XK} (F : CmOk X.prog X.w X.K X.mg X.base CX k C m q st ps sp) (hr : Room k X.A) (hx : ∀ σ, PassesAt CX X σ (ES σ)) (he : PE X o ta) (ha : PA X (e :: es) t)
    (hst : starEach (e :: es) X.env = (false, eval e X.env) :: starEach es X.env := by rfl) (hpl : (backTo pos (starEach es X.env)).any (·.1) = false := by rfl)
    (ht : eval (.Call (.Attribute o m apos) (e :: es) [] pos) X.env = (do
      let ov ← eval o X.env
      standAt apos.atName
      let (f, first) ← holding [ov] (getMethod ov m pl)
      callWith pos f first (backTo pos (starEach (e :: es) X.env)) (backToKw pos (keywordEach [] X.env))) := by rfl) :
    PE X (.Call (.Attribute o m apos) (e :: es) [] pos) (tCmS C sp ES ta t) := by
  obtain ⟨mc, pp, g, fd, r, c, F1, G, hb⟩ := F
  refine ⟨fun pins s σ H Q I h => PySem.W.methodCall_KW (pl := pl) (thn (he.run pins s σ H _ I h) fun u s1 ⟨x, H1, I1, rx, ex, q⟩ => ?_) ht⟩
  subst ex
  obtain rfl : u = Value.ref C := rx
  refine ClX.getmethcm_ok I1 r c fun s2 I2 => ?_
  refine ClX.callwith_cm I2 (ClX.base_none I1 (Nat.le_refl _)) c.fi (thn (ha.run pos _ s2 σ H1 _ I2 q) fun us s3 ⟨vs, H2, I3, rv, q2⟩ => ⟨⟨ClX.pin_at I3, I3.kIn⟩, ?_⟩) hst hpl
  have q3 : sp (V.ref C :: (vs ++ [])) H2 Q (ES σ) := by rw [List.append_nil]; exact q2
  have vals : Vals (V.ref C :: (vs ++ [])) (Value.ref C :: (us ++ [])) := .cons (show RelV (.ref C) (.ref C) from rfl) (rv.append .nil)
  have hl : ((Value.ref C :: us) ++ []).length = ps.length := by
    have z := vals.length
    rw [G.len _ _ _ _ q3] at z
    exact z.symm
  have hbb : BindsTo s3 fd ⟨.ref C :: us, []⟩ (ps.zip (Value.ref C :: (us ++ []))) := by
    have y := hb s3 (.ref C :: us) I3.kIn hl
    rwa [List.cons_append] at y
  have z : wpAny (model X.prog X.w) X.A (call (.ref s1.heap.objs.size) us) (EP X ((s1.heap.objs.size, PySem.W.methodObj (.ref g) (.ref C)) :: pins) σ Q) X.xe s3 := by
    refine wpAny_call (PySem.W.method_call (ClX.pin_at I3) (codeAny_mono (G.run X.A X.stack s3 H2 ⟨.ref C :: us, []⟩ (Value.ref C :: (us ++ [])) (V.ref C :: (vs ++ [])) Q (ES σ) hr I3.env0 hbb vals q3) fun r s' hq => ?_))
    cases r with
    | error e => exact hx σ _ H2 s3 e s' I3 hq
    | ok fl =>
      cases fl with
      | ret u => exact I3.after hq
      | next => exact False.elim hq
      | brk => exact False.elim hq
      | cont => exact False.elim hq
  exact thn z fun _ _ y => ClX.unpinE y
variable {σ : St} {H : Hp} {Q : VK} {QL : List V → Hp → Prop}
theorem r_cmS {ES : St → XK} (k : ta σ H fun x H1 => x = .ref C ∧ t σ H1 fun vs H2 => sp (.ref C :: vs) H2 Q (ES σ)) : tCmS C sp ES ta t σ H Q := k
theorem r_cm (k : ta σ H fun x H1 => x = .ref C ∧ t σ H1 fun vs H2 => sp (.ref C :: vs) H2 Q E) : tCm C sp E ta t σ H Q := k
theorem r_isC {R : Prop} (k : R) : V.ref C = .ref C ∧ R := ⟨rfl, k⟩
/-! ### isinstance of a caught error, of several classes -/
def rIsGT (K : PySem.W.Frag) (a : Addr) (cls : Value) (d : Option Addr) : List V → Hp → VK → Prop := fun xs H Q => ∃ (D tp : Addr) (cs : List V) (ws : List Value) (b : Bool), cls = .ref D ∧ d = none ∧ ExcC K D ∧ xs = [.ref a, .ref tp] ∧ H tp = some (.tup cs) ∧
  Paired ClsV cs ws ∧ PySem.W.kitAny K (.ref D) ws = some b ∧ Q (.bl b) H
theorem c_isGT {X : Cx} {a : Addr} {cls : Value} {d : Option Addr} {oe : Obj} {pn : List (Addr × Obj)} (K : PySem.W.Frag) (hz : Zc cls d oe) (hf : ∃ vs, oe.data = .fields vs) (hK : X.K = K := by rfl) :
    CallR (X.suite a ((a, oe) :: pn)) (.builtin "isinstance") (rIsGT K a cls d) := by
  subst hK
  intro pins s σ H xs us Q I r h
  obtain ⟨D, tp, cs, ws, b, rfl, rfl, C, rfl, hT, k, e, q⟩ := h
  obtain ⟨u1, u2, rfl, r1, r2⟩ := vals2 r
  cases (show u2 = Value.ref tp from r2)
  cases (show u1 = Value.ref a from r1)
  obtain ⟨hget, _⟩ := I.pin (a, oe) (List.mem_append.mpr (.inl List.mem_cons_self))
  obtain ⟨vs, hv⟩ := hf
  have J : PySem.W.InstAt s.heap a oe D none := by
    obtain ⟨oc, od, oda, osl⟩ := oe
    obtain ⟨h1, h2⟩ := hz
    dsimp only at h1 h2 hv
    subst h1 h2 hv
    exact ⟨hget, rfl, rfl, trivial⟩
  obtain ⟨_, its, rv, o, h1, h2, n, h3⟩ := (show ObjOk X.prog X.w H s.heap tp (.tup cs) from I.hok tp _ hT)
  have e3 := ClsV.all k rv
  subst e3
  obtain ⟨oc, od, dt, sl⟩ := o
  simp only at h2 h3
  subst h2 h3
  exact PySem.W.kia_tup (PySem.W.handS_kitx_exc C.hg C.hk C.hs C.hd C.ha C.hn C.ht C.hm) I.kIn J h1 e (fun z => nomatch z) fun tk => ⟨.bl b, H, I.kept (t' := tk) fun _ _ z => z, rfl, q⟩
/-! ### a class held by a local name -/
def tMakeL (i : Nat) (C : Addr) (sp : Sp) (dvs : List V) (E : XK) (t : TA) : TE := fun σ H Q => σ[i]? = some (some (.ref C)) ∧ tMakeS C sp dvs (fun _ => E) t σ H Q
theorem pe_makeL {i : Nat} {x y : Str} {dvs : List V} (F : MakeOk X.prog X.w X.K X.mg X.base CX k x C ps dvs sp) (hr : Room (k + 1) X.A) (hx : Passes CX X E) (hN : X.N[i]? = some y) (hv : Vis X.env.scope y) (ha : PA X (e :: es) t)
    (hdb : (y == ("__debug__" : Str)) = false := by decide) (hcd : (y == ("__classdict__" : Str)) = false := by decide)
    (he : starEach (e :: es) X.env = (false, eval e X.env) :: starEach es X.env := by rfl) (hpl : (backTo pos (starEach es X.env)).any (·.1) = false := by rfl) : PE X (.Call (.Name y p) (e :: es) [] pos) (tMakeL i C sp dvs E t) := by
  obtain ⟨hm, _, _, _, M, G, hb, hd⟩ := F
  refine ⟨fun pins s σ H Q I h => ?_⟩
  obtain ⟨hs, h⟩ := h
  refine wpAny_Call_Name_kw (thn ((pe_var (pos := p) hN hv hdb hcd).run pins s σ H (fun v H1 => v = .ref C ∧ H1 = H) I ⟨.ref C, hs, rfl, rfl⟩) fun u s1 ⟨v, H1, I1, r1, q1⟩ => ?_)
  obtain ⟨rfl, rfl⟩ := q1
  cases r1
  exact PySem.W.callWith_K (h₀ := X.base) I.ok.mod.kin M.kp (thn (ha.run pos pins s1 σ _ _ I1 h) fun us s2 ⟨vs, H2, I2, r, q⟩ => ⟨I2.kIn, run_makeS (E := fun _ => E) M G hr hb hd (fun pins H s e s' => hx pins σ H s e s') I2 r q⟩) he hpl
theorem r_makeL {i : Nat} {dvs : List V} (hs : σ[i]? = some (some (.ref C))) (k : tMakeS C sp dvs (fun _ => E) t σ H Q) : tMakeL i C sp dvs E t σ H Q := ⟨hs, k⟩
/-! ### xs[::-1], keywords of built-ins -/
theorem pe_revK {te : TE} {kk : Nat} {p1 p2 p3 : Pos} (K' : PySem.W.Frag) (he : PE X e te) (hK : X.K = K' := by rfl) : PE X (.Subscript e (.Slice none none (some (.UnaryOp .USub (.Constant (.int 1) kk p1) p2)) p3) pos) (tRevL K' te) := hK ▸ pe_revL he
theorem r_revL {K : PySem.W.Frag} {te : TE} (k : te σ H fun x H1 => ∃ a xs, x = .ref a ∧ SqL K H1 a xs ∧ ∀ p, H1 p = none → Q (.ref p) (upd H1 p (.lst xs.reverse))) : tRevL K te σ H Q := k
theorem r_rev {K : PySem.W.Frag} {a : Addr} {xs : List V} {R : Addr → List V → Prop} (h : SqL K H a xs) (k : R a xs) : ∃ a' xs', V.ref a = .ref a' ∧ SqL K H a' xs' ∧ R a' xs' := ⟨a, xs, rfl, h, k⟩
theorem r_iStr {te : TE} {R : It → Hp → Prop} (k : te σ H fun v H1 => ∃ x, v = .str x ∧ R (Its x) H1) : iStr te σ H R := k
theorem r_ckw {r : List V → List V → Hp → VK → Prop} (k : t σ H fun vs H1 => tk σ H1 fun zs H2 => r vs zs H2 Q) : tCKw r t tk σ H Q := k
theorem r_maxK {K : PySem.W.Frag} {a : Addr} {ns : List Int} (h : SqL K H a (ns.map V.int)) (ne : 0 < ns.length) (k : ∀ m, m ∈ ns → (∀ y, y ∈ ns → y ≤ m) → Q (.int m) H) : rMaxKey K [.ref a] [.ty "int"] H Q := ⟨a, ns, rfl, rfl, h, ne, k⟩
theorem r_maxK2 {i j : Int} (k : Q (.int (if j > i then j else i)) H) : rMaxKey2 [.int i, .int j] [.ty "int"] H Q := ⟨i, j, rfl, rfl, k⟩
end
end Hg
end L2
end

section
set_option Elab.async false
set_option linter.all false
set_option maxRecDepth 100000
set_option maxHeartbeats 4000000
/-! Own operators with ints on either side, own operators in place. -/
namespace L2
namespace Hg
open PySem PySem.Spec PyProof.Rows

/-- no class along C's line has an own `__iNAME__` -/
def noIp (K : PySem.W.Frag) (C : Addr) (nm : String) : Bool := match PySem.W.clsIn K C with
  | some cd => cd.mro.all fun c => match PySem.W.findIn K c (PySem.dunderI nm) with | some none => true | _ => false
  | none => false
section
variable {M : Model} {K : PySem.W.Frag} {C : Addr} {nm : String}
theorem anyM_no {h : Heap} (X : K.In h) {add : Bool} : ∀ {l : List Value}, (l.all fun c => match PySem.W.findIn K c (PySem.dunderI nm) with | some none => true | _ => false) = true → PySem.W.Looks M h (l.anyM fun c => do
    let some x ← typeLookup c (PySem.dunderI nm) | return false
    if let .type _ := c then return !isSeqSlot (some x)
    if !ownNameWrapper x (PySem.dunderI nm) then return true
    if !(← inheritsSeqSlot c (PySem.dunderI nm)) then return true
    if add then return (← seqSlot? c (PySem.dunderI nm)).isSome
    return false) false
  | [], _ => .now
  | c :: r, e => by
    obtain ⟨a, b⟩ := Bool.and_eq_true_iff.mp (List.all_cons ▸ e)
    have hf : PySem.W.findIn K c (PySem.dunderI nm) = some none := by
      split at a
      · assumption
      · cases a
    rw [List.anyM_cons]
    exact ((PySem.W.looks_findIn X hf).andThen (b := false) .now).andThen (anyM_no X b)
theorem looks_noIp {h : Heap} (X : K.In h) (e : noIp K C nm = true) (add : Bool) : PySem.W.Looks M h (fillsInplaceSlot (.ref C) nm add) false := by
  unfold noIp at e
  split at e
  · rename_i cd hc
    have Lm : PySem.W.Looks M h (mroOf (.ref C)) cd.mro := (PySem.W.looks_clsIn X hc).andThen (f := fun cd => pure cd.mro) .now
    unfold fillsInplaceSlot
    exact Lm.andThen (anyM_no X e)
  · cases e
end
section
variable {prog : Program} {w : World} {A : Around} {E : Value → Shared → Prop} {s : Shared} {K : PySem.W.Frag} {x C L f : Addr} {h₀ : Heap} {m : Str → Option Value} {ox : Obj} {od : Option Obj}
open PySem.W PySem.Calls
/-- own op= own falls to the class's `__NAME__` -/
theorem ipop_K {op : Operator} {b : Value} {Q : Value → Shared → Prop} (F : Fr h₀ L s.heap m) (X₀ : K.In h₀) (I : InstAt s.heap x ox C od) (hb : Looks (model prog w) s.heap (typeOf b) (.ref C)) (hc : selfFirst K C = true) (hi : noIp K C op.info.2 = true)
    (hs : findIn K (.ref C) (PySem.dunder op.info.2) = some (some (.ref f))) (hf : isFn K (.ref f) = true)
    (h : wpAny (model prog w) A (call (.ref f) [.ref x, b]) (PySem.W.CmpBack Q) E s) : wpAny (model prog w) A (inplaceOp op (.ref x) b) Q E s := by
  have X := X₀.keeps F.keep
  obtain ⟨cd, rest, hcd, hm⟩ := ksp_first hc
  have one := ksp_try X I hs hf h
  unfold inplaceOp
  refine wpAny_holding (wpAny_bind (I.type.here (wpAny_bind ((looks_noIp X hi _).here ?_))))
  simp only [Bool.false_eq_true, if_false]
  refine wpAny_bind ?_
  unfold binaryOp1
  refine wpAny_bind (I.type.here (wpAny_bind (hb.here (wpAny_bind ((fills_K X hcd hm hs).here ?_)))))
  simp only [beq_self_eq_true, if_true]
  refine wpAny_bind (wpAny_pure ?_)
  simp only [Bool.and_false, Bool.false_eq_true, if_false, Bool.false_and]
  refine wpAny_bind (wpAny_pure ?_)
  simp only [Bool.false_eq_true, if_false]
  refine wpAny_bind (wpAny_mono one (fun r s' hr' => ?_) fun _ _ e => e)
  obtain ⟨v, rfl, hq⟩ := hr'
  exact wpAny_pure (wpAny_pure hq)
theorem bin1T {nm : String} {T : String} {b : Value} {fo ro rc : Option Value} {Q : Value → Shared → Prop} (X : K.In s.heap) (I : InstAt s.heap x ox C od) (hb : typeOf b = pure (.type T)) (hc : selfFirst K C = true)
    (hs : findIn K (.ref C) (PySem.dunder nm) = some (some (.ref f))) (hf : isFn K (.ref f) = true) (hr : findIn K (.ref C) (dunderR nm) = some rc) (hp : rc = none ∨ ∃ g : Addr, rc = some (.ref g))
    (h1 : findIn K (.type T) (PySem.dunder nm) = some fo) (h2 : findIn K (.type T) (dunderR nm) = some ro) (hsub : subIn K (.type T) (.ref C) = some false)
    (h : wpAny (model prog w) A (call (.ref f) [.ref x, b]) (PySem.W.CmpBack Q) E s) : wpAny (model prog w) A (binaryOp1 nm (.ref x) b) (fun r s' => ∃ v, r = some v ∧ Q v s') E s := by
  obtain ⟨cd, rest, hcd, hm⟩ := ksp_first hc
  have one := ksp_try X I hs hf h
  obtain ⟨hh, g, d, tk, os⟩ := s
  have L1 : Looks (model prog w) hh (typeOf (.ref x)) (.ref C) := I.type
  have L2 : Looks (model prog w) hh (typeOf b) (.type T) := Looks.of_pure hb
  have L3 : Looks (model prog w) hh (fillsNumberSlot (.ref C) nm) true := fills_K X hcd hm hs
  have L4 : Looks (model prog w) hh (fillsNumberSlot (.type T) nm) ((fo.isSome && !isSeqSlot fo) || (ro.isSome && !isSeqSlot ro)) := ksp_fillsT X h1 h2
  have L5 : Looks (model prog w) hh (isSubtype (.type T) (.ref C)) false := looks_subIn X hsub
  have L6 : Looks (model prog w) hh (numberSlotInPython (.ref C) nm) true := ksp_inPy X hs hr hp
  have L7 : Looks (model prog w) hh (numberSlotInPython (.type T) nm) false := Looks.of_pure rfl
  have L8 : Looks (model prog w) hh (typeLookup (.type T) (dunderR nm)) ro := looks_findIn X h2
  generalize ((fo.isSome && !isSeqSlot fo) || (ro.isSome && !isSeqSlot ro)) = right at L4
  have hne : (Value.ref C == Value.type T) = false := Bool.eq_false_iff.mpr fun q => by cases beq_iff_eq.mp q
  unfold binaryOp1
  refine wpAny_bind (L1.at (wpAny_bind (L2.at (wpAny_bind (L3.at ?_)))))
  simp only [hne, Bool.false_eq_true, if_false]
  cases right with
  | false =>
    ksp_lk
    refine wpAny_mono one (fun r s' hr' => ?_) fun _ _ e => e
    obtain ⟨v, rfl, hq⟩ := hr'
    ksp_lk
    exact ⟨_, rfl, hq⟩
  | true =>
    ksp_lk
    refine wpAny_mono one (fun r s' hr' => ?_) fun _ _ e => e
    obtain ⟨v, rfl, hq⟩ := hr'
    ksp_lk
    exact ⟨_, rfl, hq⟩
/-- own op= int falls to the class's `__NAME__` -/
theorem ipopT_K {op : Operator} {T : String} {b : Value} {fo ro rc : Option Value} {Q : Value → Shared → Prop} (F : Fr h₀ L s.heap m) (X₀ : K.In h₀) (I : InstAt s.heap x ox C od) (hb : typeOf b = pure (.type T)) (hc : selfFirst K C = true) (hi : noIp K C op.info.2 = true)
    (hs : findIn K (.ref C) (PySem.dunder op.info.2) = some (some (.ref f))) (hf : isFn K (.ref f) = true) (hr : findIn K (.ref C) (dunderR op.info.2) = some rc) (hp : rc = none ∨ ∃ g : Addr, rc = some (.ref g))
    (h1 : findIn K (.type T) (PySem.dunder op.info.2) = some fo) (h2 : findIn K (.type T) (dunderR op.info.2) = some ro) (hsub : subIn K (.type T) (.ref C) = some false)
    (h : wpAny (model prog w) A (call (.ref f) [.ref x, b]) (PySem.W.CmpBack Q) E s) : wpAny (model prog w) A (inplaceOp op (.ref x) b) Q E s := by
  have X := X₀.keeps F.keep
  have one := bin1T X I hb hc hs hf hr hp h1 h2 hsub h
  unfold inplaceOp
  refine wpAny_holding (wpAny_bind (I.type.here (wpAny_bind ((looks_noIp X hi _).here ?_))))
  simp only [Bool.false_eq_true, if_false]
  refine wpAny_bind (wpAny_mono one (fun r s' hr' => ?_) fun _ _ e => e)
  obtain ⟨v, rfl, hq⟩ := hr'
  exact wpAny_pure hq
/-- int op own falls to the class's `__rNAME__` -/
theorem rbin_K {op : Operator} {a : Value} {T idl : String} {g : Addr} {Q : Value → Shared → Prop} (F : Fr h₀ L s.heap m) (X₀ : K.In h₀) (I : InstAt s.heap x ox C od) (ha : s.TypeIs a T) (hc : selfFirst K C = true)
    (hs : findIn K (.ref C) (PySem.dunder op.info.2) = some (some (.ref g))) (hr : findIn K (.ref C) (dunderR op.info.2) = some (some (.ref f))) (hf : isFn K (.ref f) = true)
    (hta : typeOf a = pure (.type T)) (hfT : fillsNumberSlot (.type T) op.info.2 = pure true) (hsub : subIn K (.ref C) (.type T) = some false) (hl : Slot T (PySem.dunder op.info.2) idl)
    (hd : ∀ Q' : Value → Shared → Prop, Q' .notImplemented s → wpAny (model prog w) A (call (.builtin idl) [a, .ref x]) Q' E s)
    (h : wpAny (model prog w) A (call (.ref f) [.ref x, a]) (PySem.W.CmpBack Q) E s) : wpAny (model prog w) A (binaryOp op a (.ref x)) Q E s := by
  have X := X₀.keeps F.keep
  obtain ⟨cd, rest, hcd, hm⟩ := ksp_first hc
  rcases hi' : op.info with ⟨sym, nm'⟩
  rw [hi'] at hs hr hfT hl
  dsimp only at hs hr hfT hl
  have one := ksp_try X I hr hf h
  have two : wpAny (model prog w) A (tryMethod a (PySem.dunder nm') (.ref x)) (fun r s' => r = none ∧ wpAny (model prog w) A (tryMethod (.ref x) (dunderR nm') a) (fun r s' => ∃ v, r = some v ∧ Q v s') E s') E s :=
    wpAny_tryMethod_declines ha hl (hd _ ⟨rfl, rfl, one⟩)
  obtain ⟨hh, gg, d, tk, os⟩ := s
  have L1 : Looks (model prog w) hh (typeOf (.ref x)) (.ref C) := I.type
  have L2 : Looks (model prog w) hh (typeOf a) (.type T) := Looks.of_pure hta
  have L3 : Looks (model prog w) hh (fillsNumberSlot (.ref C) nm') true := fills_K X hcd hm hs
  have L4 : Looks (model prog w) hh (fillsNumberSlot (.type T) nm') true := Looks.of_pure hfT
  have L5 : Looks (model prog w) hh (isSubtype (.ref C) (.type T)) false := looks_subIn X hsub
  have L7 : Looks (model prog w) hh (numberSlotInPython (.type T) nm') false := Looks.of_pure rfl
  have hne : (Value.type T == Value.ref C) = false := Bool.eq_false_iff.mpr fun q => by cases beq_iff_eq.mp q
  simp only [binaryOp, hi']
  refine wpAny_holding (wpAny_bind ?_)
  unfold binaryOp1
  refine wpAny_bind (L2.at (wpAny_bind (L1.at (wpAny_bind (L4.at ?_)))))
  simp only [hne, Bool.false_eq_true, if_false]
  ksp_lk
  refine wpAny_mono two (fun r s' hr' => ?_) fun _ _ e => e
  obtain ⟨rfl, h2⟩ := hr'
  ksp_lk
  refine wpAny_mono h2 (fun r s2 hr' => ?_) fun _ _ e => e
  obtain ⟨v, rfl, hq⟩ := hr'
  ksp_lk
  exact hq
/-- int cmp own falls to the class's own reflected one -/
theorem rcmp_K {op : CmpOp} {a : Value} {T idl : String} {Q : Value → Shared → Prop} (hu : A.units < cLine) (F : Fr h₀ L s.heap m) (X₀ : K.In h₀) (I : InstAt s.heap x ox C od) (ha : s.TypeIs a T)
    (hta : typeOf a = pure (.type T)) (hr : findIn K (.ref C) (cmpInfo op).2.2 = some (some (.ref f))) (hf : isFn K (.ref f) = true) (hsub : subIn K (.ref C) (.type T) = some false) (hl : Slot T (cmpInfo op).2.1 idl)
    (hd : ∀ Q' : Value → Shared → Prop, Q' .notImplemented s → wpAny (model prog w) A (call (.builtin idl) [a, .ref x]) Q' E s)
    (h : wpAny (model prog w) A (call (.ref f) [.ref x, a]) (PySem.W.CmpBack Q) E s) : wpAny (model prog w) A (richCompare op a (.ref x)) Q E s := by
  have X := X₀.keeps F.keep
  have one : wpAny (model prog w) A (tryCompare (.ref x) (cmpInfo op).2.2 a) (fun r s' => ∃ v, r = some v ∧ Q v s') E s := by
    unfold tryCompare
    refine wpAny_bind (ifBound_K X I hr hf (wpAny_mono h (fun v s' hv => ?_) fun _ _ e => e))
    cases v <;> first | exact hv.elim | exact wpAny_pure ⟨_, rfl, hv⟩
  rcases hi : cmpInfo op with ⟨sym, fn, rn⟩
  rw [hi] at one hl
  dsimp only at one hl
  simp only [richCompare, hi, ha.oneThing_none]
  try with_reducible refine wpAny_holding ?_
  refine wpAny_bind (wpAny_cRoomFor_or (.inr hu) ?_)
  have hne : (Value.type T != Value.ref C) = true := by
    show (!(Value.type T == Value.ref C)) = true
    have : (Value.type T == Value.ref C) = false := Bool.eq_false_iff.mpr fun q => by cases beq_iff_eq.mp q
    rw [this]; rfl
  refine wpAny_bind (wpAny_of_eq hta (wpAny_bind (I.type.here ?_)))
  simp only [hne, if_true]
  refine wpAny_bind ((looks_subIn X hsub).here ?_)
  simp only [Bool.false_eq_true, if_false, Bool.not_false, if_true]
  refine wpAny_bind (m := tryCompare a _ (.ref x)) (wpAny_tryCompare_declines ha hl (hd _ ⟨rfl, ?_⟩))
  refine wpAny_bind (wpAny_mono one (fun r s' z => ?_) fun _ _ e => e)
  obtain ⟨v, rfl, hq⟩ := z
  exact wpAny_pure hq
end
/-! ### ints decline what is no int -/
section
variable {prog : Program} {w : World} {A : Around} {E : Value → Shared → Prop} {s : Shared}
theorem intB_ref {name : String} {f : Int → Int → Sem Fin} {r : Bool} {i : Int} {t : Tok} {x C dx : Addr} (hx : s.heap.get? x = some (PySem.W.instObj C dx)) {Q : Fin → Shared → Prop} (h : Q (.done (.ret .notImplemented)) s) :
    wpAny (model prog w) A (Builtin.Int.intBinary name f r ⟨[.int i t, .ref x], []⟩) Q E s := by
  unfold Builtin.Int.intBinary slotArgs Builtin.Int.intOfSelf
  refine wpAny_bind (wpAny_pure ?_)
  refine wpAny_bind (wpAny_bind (wpAny_pure (wpAny_pure ?_)))
  refine wpAny_bind (wpAny_bind (wpAny_load hx (wpAny_pure ?_)))
  exact wpAny_bind (wpAny_rule (wpAny_pure h))
theorem decl {id : String} {name : Str} {B : Builtin} {nm : String} {f : Int → Int → Sem Fin} (slot : Slot "int" name id) (entry : entryFor table id = some B) (args : ∀ a b : Value, argsOk id ⟨[a, b], []⟩) (hB : B = Builtin.Int.intBinary nm f)
    {i : Int} {t : Tok} {x C dx : Addr} (hx : s.heap.get? x = some (PySem.W.instObj C dx)) (Q : Value → Shared → Prop) (h : Q .notImplemented s) : wpAny (model prog w) A (call (.builtin id) [.int i t, .ref x]) Q E s := by
  subst hB
  exact wpAny_call_entry slot (show s.TypeIs (.int i t) "int" from rfl) entry (intB_ref hx ⟨_, rfl, h⟩) (args _ _)
end
/-- what the class asks for ints beside -/
structure IntB (K : PySem.W.Frag) (C : Addr) : Prop where
  sf : PySem.W.selfFirst K C = true
  s1 : PySem.W.subIn K (.type "int") (.ref C) = some false
  s2 : PySem.W.subIn K (.ref C) (.type "int") = some false
section
variable {X : Cx} {CX : CXT} {k : Nat} {C : Addr} {ps : List Str} {sp : Sp} {E : XK}
/-- a op i, a of the class C, i an int -/
def rOwnI (C : Addr) (sp : Sp) (E : XK) : R2 := fun x y H Q => ∃ (a dx : Addr) (fs : List (Str × V)) (i : Int), x = .ref a ∧ y = .int i ∧ H a = some (.ins C dx fs) ∧ sp [x, y] H Q E
/-- i op a -/
def rIOwn (C : Addr) (sp : Sp) (E : XK) : R2 := fun x y H Q => ∃ (a dx : Addr) (fs : List (Str × V)) (i : Int), x = .int i ∧ y = .ref a ∧ H a = some (.ins C dx fs) ∧ sp [y, x] H Q E
theorem o_ownI {op : Operator} {m : Str} {rc : Option Value} (M : MetOk X.prog X.w X.K X.mg X.base CX k C m ps sp) (B : IntB X.K C) (hrc : PySem.W.findIn X.K (.ref C) (dunderR op.info.2) = some rc) (hp : rc = none ∨ ∃ g : Addr, rc = some (.ref g)) (hr : Room k X.A) (hx : Passes CX X E)
    (hm : PySem.dunder op.info.2 = m := by rfl) (h1 : (fastLookup "int" (PySem.dunder op.info.2)).isSome = true := by decide +kernel) (h2 : (fastLookup "int" (dunderR op.info.2)).isSome = true := by decide +kernel) : OpR X (binaryOp op) (rOwnI C sp E) := by
  subst hm
  obtain ⟨fo, h1⟩ := Option.isSome_iff_exists.mp h1
  obtain ⟨ro, h2⟩ := Option.isSome_iff_exists.mp h2
  obtain ⟨_, f, fd, hM, F, hb⟩ := M
  intro pins s σ H x y v u Q I rx ry h
  obtain ⟨a, dx, fs, i, rfl, rfl, ha, q⟩ := h
  obtain rfl : v = Value.ref a := rx
  obtain ⟨t, rfl⟩ := id ry
  obtain ⟨m, Fr⟩ := I.fr
  obtain ⟨ox, od, J⟩ := ins_at I ha
  refine PySem.W.ksp_binT (T := "int") Fr I.ok.mod.kin J rfl B.sf hM.at_ hM.fn hrc hp h1 h2 B.s1 (wpAny_mono (own_call (vs := [V.ref a, V.int i]) F hb hr hx I (.cons rfl (.cons ry .nil)) q) (fun w s' hq => ?_) fun _ _ z => z)
  obtain ⟨z, H1, I1, rz, q1⟩ := hq
  exact relV_back rz ⟨z, H1, I1, rz, q1⟩
theorem o_iOwn {op : Operator} {m idl nm : String} {mr : Str} {g : Addr} {Bd : Builtin} {f0 : Int → Int → Sem Fin} (M : MetOk X.prog X.w X.K X.mg X.base CX k C mr ps sp) (B : IntB X.K C) (hs : PySem.W.findIn X.K (.ref C) (PySem.dunder op.info.2) = some (some (.ref g))) (hr : Room k X.A) (hx : Passes CX X E)
    (hfT : fillsNumberSlot (.type "int") op.info.2 = pure true) (slot : Slot "int" (PySem.dunder op.info.2) idl) (entry : entryFor table idl = some Bd) (args : ∀ a b : Value, argsOk idl ⟨[a, b], []⟩) (hB : Bd = Builtin.Int.intBinary nm f0)
    (hm : dunderR op.info.2 = mr := by rfl) : OpR X (binaryOp op) (rIOwn C sp E) := by
  subst hm
  obtain ⟨_, f, fd, hM, F, hb⟩ := M
  intro pins s σ H x y v u Q I rx ry h
  obtain ⟨a, dx, fs, i, rfl, rfl, ha, q⟩ := h
  obtain ⟨t, rfl⟩ := id rx
  obtain rfl : u = Value.ref a := ry
  obtain ⟨m, Fr⟩ := I.fr
  obtain ⟨ox, od, J⟩ := ins_at I ha
  obtain ⟨mA, O, _⟩ := ins_get I.hok ha
  refine rbin_K (T := "int") Fr I.ok.mod.kin J rfl B.sf hs hM.at_ hM.fn rfl hfT B.s2 slot (fun Q' hq => decl slot entry args hB O.obj Q' hq) (wpAny_mono (own_call (vs := [V.ref a, V.int i]) F hb hr hx I (.cons rfl (.cons rx .nil)) q) (fun w s' hq => ?_) fun _ _ z => z)
  obtain ⟨z, H1, I1, rz, q1⟩ := hq
  exact relV_back rz ⟨z, H1, I1, rz, q1⟩
theorem o_iCmp {op : CmpOp} {idl nm : String} {mr : Str} {Bd : Builtin} {f0 : Int → Int → Sem Fin} (M : MetOk X.prog X.w X.K X.mg X.base CX k C mr ps sp) (B : IntB X.K C) (hu : X.A.units < cLine) (hr : Room k X.A) (hx : Passes CX X E)
    (slot : Slot "int" (cmpInfo op).2.1 idl) (entry : entryFor table idl = some Bd) (args : ∀ a b : Value, argsOk idl ⟨[a, b], []⟩) (hB : Bd = Builtin.Int.intBinary nm f0)
    (hm : (cmpInfo op).2.2 = mr := by rfl) (hc : ∀ u v : Value, compareOp op u v = richCompare op u v := by intros; rfl) : OpR X (compareOp op) (rIOwn C sp E) := by
  subst hm
  obtain ⟨_, f, fd, hM, F, hb⟩ := M
  intro pins s σ H x y v u Q I rx ry h
  obtain ⟨a, dx, fs, i, rfl, rfl, ha, q⟩ := h
  obtain ⟨t, rfl⟩ := id rx
  obtain rfl : u = Value.ref a := ry
  obtain ⟨m, Fr⟩ := I.fr
  obtain ⟨ox, od, J⟩ := ins_at I ha
  obtain ⟨mA, O, _⟩ := ins_get I.hok ha
  rw [hc]
  refine rcmp_K (T := "int") hu Fr I.ok.mod.kin J rfl rfl hM.at_ hM.fn B.s2 slot (fun Q' hq => decl slot entry args hB O.obj Q' hq) (wpAny_mono (own_call (vs := [V.ref a, V.int i]) F hb hr hx I (.cons rfl (.cons rx .nil)) q) (fun w s' hq => ?_) fun _ _ z => z)
  obtain ⟨z, H1, I1, rz, q1⟩ := hq
  exact relV_back rz ⟨z, H1, I1, rz, q1⟩
/-- x op= y by the class's own op -/
theorem ip_own {op : Operator} {m : Str} (M : MetOk X.prog X.w X.K X.mg X.base CX k C m ps sp) (sf : PySem.W.selfFirst X.K C = true) (ni : noIp X.K C op.info.2 = true) (hr : Room k X.A) (hx : Passes CX X E) (hm : PySem.dunder op.info.2 = m := by rfl) : PIp X op (rOwn C sp E) := by
  subst hm
  obtain ⟨_, f, fd, hM, F, hb⟩ := M
  intro pins s σ H x y v u Q I rx ry h
  obtain ⟨a, dx, fs, b, dy, gs, rfl, rfl, ha, hb', q⟩ := h
  obtain rfl : v = Value.ref a := rx
  obtain rfl : u = Value.ref b := ry
  obtain ⟨m, Fr⟩ := I.fr
  obtain ⟨ox, od, J⟩ := ins_at I ha
  obtain ⟨oy, oe, J2⟩ := ins_at I hb'
  refine ipop_K Fr I.ok.mod.kin J J2.type sf ni hM.at_ hM.fn (wpAny_mono (own_call (vs := [V.ref a, V.ref b]) F hb hr hx I (.cons rfl (.cons rfl .nil)) q) (fun w s' hq => ?_) fun _ _ z => z)
  obtain ⟨z, H1, I1, rz, q1⟩ := hq
  exact relV_back rz ⟨z, H1, I1, rz, q1⟩
theorem ip_ownI {op : Operator} {m : Str} {rc : Option Value} (M : MetOk X.prog X.w X.K X.mg X.base CX k C m ps sp) (B : IntB X.K C) (ni : noIp X.K C op.info.2 = true) (hrc : PySem.W.findIn X.K (.ref C) (dunderR op.info.2) = some rc) (hp : rc = none ∨ ∃ g : Addr, rc = some (.ref g)) (hr : Room k X.A) (hx : Passes CX X E)
    (hm : PySem.dunder op.info.2 = m := by rfl) (h1 : (fastLookup "int" (PySem.dunder op.info.2)).isSome = true := by decide +kernel) (h2 : (fastLookup "int" (dunderR op.info.2)).isSome = true := by decide +kernel) : PIp X op (rOwnI C sp E) := by
  subst hm
  obtain ⟨fo, h1⟩ := Option.isSome_iff_exists.mp h1
  obtain ⟨ro, h2⟩ := Option.isSome_iff_exists.mp h2
  obtain ⟨_, f, fd, hM, F, hb⟩ := M
  intro pins s σ H x y v u Q I rx ry h
  obtain ⟨a, dx, fs, i, rfl, rfl, ha, q⟩ := h
  obtain rfl : v = Value.ref a := rx
  obtain ⟨t, rfl⟩ := id ry
  obtain ⟨m, Fr⟩ := I.fr
  obtain ⟨ox, od, J⟩ := ins_at I ha
  refine ipopT_K (T := "int") Fr I.ok.mod.kin J rfl B.sf ni hM.at_ hM.fn hrc hp h1 h2 B.s1 (wpAny_mono (own_call (vs := [V.ref a, V.int i]) F hb hr hx I (.cons rfl (.cons ry .nil)) q) (fun w s' hq => ?_) fun _ _ z => z)
  obtain ⟨z, H1, I1, rz, q1⟩ := hq
  exact relV_back rz ⟨z, H1, I1, rz, q1⟩
theorem o_ownI' {op : Operator} {m : Str} (M : MetOk X.prog X.w X.K X.mg X.base CX k C m ps sp) (B : IntB X.K C) (R : ∃ g : Addr, PySem.W.findIn X.K (.ref C) (dunderR op.info.2) = some (some (.ref g))) (hr : Room k X.A) (hx : Passes CX X E)
    (hm : PySem.dunder op.info.2 = m := by rfl) (h1 : (fastLookup "int" (PySem.dunder op.info.2)).isSome = true := by decide +kernel) (h2 : (fastLookup "int" (dunderR op.info.2)).isSome = true := by decide +kernel) : OpR X (binaryOp op) (rOwnI C sp E) :=
  let ⟨g, e⟩ := R
  o_ownI M B e (.inr ⟨g, rfl⟩) hr hx hm h1 h2
theorem o_iOwn' {op : Operator} {idl nm : String} {mr : Str} {Bd : Builtin} {f0 : Int → Int → Sem Fin} (M : MetOk X.prog X.w X.K X.mg X.base CX k C mr ps sp) (B : IntB X.K C) (hs : ∃ g : Addr, PySem.W.findIn X.K (.ref C) (PySem.dunder op.info.2) = some (some (.ref g))) (hr : Room k X.A) (hx : Passes CX X E)
    (hfT : fillsNumberSlot (.type "int") op.info.2 = pure true) (slot : Slot "int" (PySem.dunder op.info.2) idl) (entry : entryFor table idl = some Bd) (args : ∀ a b : Value, argsOk idl ⟨[a, b], []⟩) (hB : Bd = Builtin.Int.intBinary nm f0)
    (hm : dunderR op.info.2 = mr := by rfl) : OpR X (binaryOp op) (rIOwn C sp E) :=
  let ⟨g, e⟩ := hs
  o_iOwn (m := idl) M B e hr hx hfT slot entry args hB hm
theorem ip_ownI' {op : Operator} {m : Str} (M : MetOk X.prog X.w X.K X.mg X.base CX k C m ps sp) (B : IntB X.K C) (ni : noIp X.K C op.info.2 = true) (R : ∃ g : Addr, PySem.W.findIn X.K (.ref C) (dunderR op.info.2) = some (some (.ref g))) (hr : Room k X.A) (hx : Passes CX X E)
    (hm : PySem.dunder op.info.2 = m := by rfl) (h1 : (fastLookup "int" (PySem.dunder op.info.2)).isSome = true := by decide +kernel) (h2 : (fastLookup "int" (dunderR op.info.2)).isSome = true := by decide +kernel) : PIp X op (rOwnI C sp E) :=
  let ⟨g, e⟩ := R
  ip_ownI M B ni e (.inr ⟨g, rfl⟩) hr hx hm h1 h2
/-! ### read -/
theorem r_ownI {a dx : Addr} {fs : List (Str × V)} {i : Int} {H : Hp} {Q : VK} (ha : H a = some (.ins C dx fs)) (k : sp [.ref a, .int i] H Q E) : rOwnI C sp E (.ref a) (.int i) H Q := ⟨a, dx, fs, i, rfl, rfl, ha, k⟩
theorem r_iOwn {a dx : Addr} {fs : List (Str × V)} {i : Int} {H : Hp} {Q : VK} (ha : H a = some (.ins C dx fs)) (k : sp [.ref a, .int i] H Q E) : rIOwn C sp E (.int i) (.ref a) H Q := ⟨a, dx, fs, i, rfl, rfl, ha, k⟩
theorem r_unOwn {a dx : Addr} {fs : List (Str × V)} {H : Hp} {Q : VK} (ha : H a = some (.ins C dx fs)) (k : sp [.ref a] H Q E) : rUnOwn C sp E (.ref a) H Q := ⟨a, dx, fs, rfl, ha, k⟩
theorem r_aug {i : Nat} {te : TE} {ti : TIp} {D : Ends} {σ : St} {H : Hp} {x : V} (hv : σ[i]? = some (some x)) (k : te σ H fun y H1 => ti x y H1 fun z H2 => D.nx (σ.set i (some z)) H2) : tAug i te ti D σ H := ⟨x, hv, k⟩
theorem r_ipI {f : Int → Int → Int} {i j : Int} {H : Hp} {Q : VK} (k : Q (.int (f i j)) H) : ipI f (.int i) (.int j) H Q := ⟨i, j, rfl, rfl, k⟩
end
end Hg
end L2
end

section
set_option Elab.async false
set_option linter.all false
set_option maxRecDepth 100000
set_option maxHeartbeats 4000000
/-! C(k = v, ..): a new instance by keywords alone. -/
namespace L2
namespace Hg
open PySem PySem.Spec PyProof.Rows
/-- a class whose instances are made with n values by place and the keywords ks -/
def MakeKOk (P : Program) (w : World) (K : PySem.W.Frag) (mg : Str → Option Value) (base : Heap) (CX : CXT) (k : Nat) (x : Str) (C : Addr) (ps : List Str) (n : Nat) (ks : List Str) (gV : List V → List V → List V) (sp : Sp) : Prop :=
  mg x = some (.ref C) ∧ ∃ f fd g, Mk K C f ∧ FnOk P w K mg base CX k f fd ps sp ∧ KBn K fd ps (n + 1) ks g gV
section
variable {X : Cx} {CX : CXT} {k : Nat} {C : Addr} {ps ks : List Str} {sp : Sp} {E : XK} {x : Str} {p pos : Pos} {e : Expr} {es : List Expr} {kws : List Keyword} {t tk : TA} {gV : List V → List V → List V}
theorem pe_makeKD {n : Nat} (F : MakeKOk X.prog X.w X.K X.mg X.base CX k x C ps n ks gV sp) (hr : Room (k + 1) X.A) (hx : Passes CX X E) (hg : Gl X x) (ha : PA X (e :: es) t) (hkw : PK X kws tk)
    (hall : (backToKw pos (keywordEach kws X.env)).all (·.1.isSome) = true := by rfl) (hks : (backToKw pos (keywordEach kws X.env)).filterMap (·.1) = ks := by rfl)
    (hdb : (x == ("__debug__" : Str)) = false := by decide) (he : starEach (e :: es) X.env = (false, eval e X.env) :: starEach es X.env := by rfl)
    (hpl : ((backTo pos (starEach (e :: es) X.env)).any (·.1) || (backToKw pos (keywordEach kws X.env)).any (·.1.isNone)) = false := by rfl) :
    PE X (.Call (.Name x p) (e :: es) kws pos) (tMakeN C n ks.length sp gV E t tk) := by
  obtain ⟨hm, f, fd, g, M, F, hb⟩ := F
  exact pe_makeN M F hr hg hm hb hx ha hkw hall hks hdb he hpl
theorem pe_makeKD0 (F : MakeKOk X.prog X.w X.K X.mg X.base CX k x C ps 0 ks gV sp) (hr : Room (k + 1) X.A) (hx : Passes CX X E) (hg : Gl X x) (hkw : PK X kws tk)
    (hall : (backToKw pos (keywordEach kws X.env)).all (·.1.isSome) = true := by rfl) (hks : (backToKw pos (keywordEach kws X.env)).filterMap (·.1) = ks := by rfl)
    (hdb : (x == ("__debug__" : Str)) = false := by decide)
    (hpl : ((backTo pos (starEach [] X.env)).any (·.1) || (backToKw pos (keywordEach kws X.env)).any (·.1.isNone)) = false := by rfl) :
    PE X (.Call (.Name x p) [] kws pos) (tMakeN C 0 ks.length sp gV E tNil tk) := by
  obtain ⟨hm, f, fd, g, M, F, hb⟩ := F
  refine ⟨fun pins s σ H Q I h => ?_⟩
  refine wpAny_Call_Name_kw (ld_glob I hg hm ?_ hdb)
  refine PySem.W.callWith_KW0 (h₀ := X.base) I.ok.mod.kin M.kp hall ?_ hpl
  refine thn (hkw.run pos pins s σ H _ I h) fun ws s2 ⟨zs, H2, I2, rz, l1, l2, q2⟩ => ⟨I2.kIn, ?_⟩
  rw [hks]
  exact run_makeN M F hr hb hx I2 .nil rz l1 l2 q2
theorem r_makeN {n m : Nat} {σ : St} {H : Hp} {Q : VK} (k : t σ H fun vs H1 => tk σ H1 fun zs H2 => vs.length = n ∧ zs.length = m ∧
  ∀ x dx, H2 x = none → H2 dx = none → dx ≠ x → sp (gV (.ref x :: vs) zs) (upd (upd H2 dx (.own x)) x (.ins C dx [])) (fun v H3 => v = .non ∧ Q (.ref x) H3) E) : tMakeN C n m sp gV E t tk σ H Q := k
end
end Hg
end L2
end
set_option Elab.async false
set_option linter.all false
set_option maxRecDepth 100000
set_option autoImplicit false
set_option maxHeartbeats 200000
namespace L2
namespace Hg
open PySem PySem.Spec PyProof.Rows
local macro_rules | `(tactic| tm_at "r1") => `(tactic| first
  | with_reducible refine' r_seq ?_
  | with_reducible refine' r_asg ?_
  | with_reducible refine' r_gName ?_
  | with_reducible refine' r_op ?_
  | ((with_reducible refine' r_var ?hv ?_); (case hv => rfl))
  | with_reducible refine' r_c ?_
  | with_reducible refine' r_cons ?_
  | with_reducible refine' r_nil ?_
  | with_reducible refine' r_cb ?_
  | with_reducible refine' r_call ?_
  | with_reducible refine' r_callS ?_
  | with_reducible refine' r_ifS ?_
  | with_reducible refine' r_ret ?_
  | with_reducible refine' r_drop ?_
  | with_reducible refine' r_next ?_
  | with_reducible refine' r_test ?_
  | with_reducible refine' r_B ?_
  | with_reducible refine' r_bl ?_
  | with_reducible refine' r_tru ?_
  | with_reducible refine' r_trK ?_
  | with_reducible refine' r_and ?_
  | with_reducible refine' r_or ?_
  | with_reducible refine' r_not ?_
  | with_reducible refine' r_andV ?_
  | with_reducible refine' r_orV ?_
  | with_reducible refine' r_notV ?_
  | with_reducible refine' r_if ?_
  | with_reducible refine' r_chain ?_
  | with_reducible refine' r_un ?_
  | with_reducible refine' r_for ?_
  | with_reducible refine' r_rng1 ?_
  | with_reducible refine' r_rng2 ?_
  | with_reducible refine' r_iL ?_
  | with_reducible refine' r_iT ?_
  | with_reducible refine' r_lc ?_
  | with_reducible refine' r_yes ?_
  | with_reducible refine' r_gCons ?_
  | with_reducible refine' r_gNil ?_
  | with_reducible refine' r_pairs ?_
  | with_reducible refine' r_pairs0 ?_
  | with_reducible refine' r_disp ?_
  | with_reducible refine' r_dput ?_
  | with_reducible refine' r_dget ?_
  | with_reducible refine' r_veI ?_
  | with_reducible refine' r_sFld ?_
  | with_reducible refine' r_fld ?_
  | with_reducible refine' r_makeS ?_
  | with_reducible refine' r_make ?_
  | with_reducible refine' r_lst ?_
  | with_reducible refine' r_tup ?_
  | with_reducible refine' r_addI ?_
  | with_reducible refine' r_sub ?_
  | with_reducible refine' r_lt ?_
  | with_reducible refine' r_le ?_
  | with_reducible refine' r_gt ?_
  | with_reducible refine' r_ge ?_
  | with_reducible refine' r_abs ?_
  | with_reducible refine' r_intI ?_
  | with_reducible refine' r_intB ?_
  | with_reducible refine' r_min2 ?_
  | with_reducible refine' r_max2 ?_
  | with_reducible refine' r_isN ?_
  | with_reducible refine' r_notN ?_
  | with_reducible refine' r_neg ?_
  | ((with_reducible refine' r_mod ?hv ?_); (case hv => decide))
  | ((with_reducible refine' r_mul (cmulL ?hv) ?_); (case hv => decide))
  | ((with_reducible refine' r_mul (cmulR ?hv) ?_); (case hv => decide))
  | ((with_reducible refine' r_pow ?hv ?_); (case hv => refine ⟨?_, ?_, ?_⟩ <;> decide))
  | with_reducible refine' r_T ?_
  | with_reducible refine' r_nT ?_
  | with_reducible refine' r_nF ?_
  | with_reducible refine' r_F ?_
  | with_reducible refine' r_meth ?_
  | with_reducible refine' r_metS ?_
  | with_reducible refine' r_prop ?_
  | with_reducible refine' r_star ?_
  | with_reducible refine' r_par ?_
  | with_reducible refine' r_par3 ?_
  | with_reducible refine' r_v2 ?_
  | with_reducible refine' r_v3 ?_
  | with_reducible refine' r_sl ?_
  | with_reducible refine' r_part ?_
  | with_reducible refine' r_noPart ?_
  | with_reducible refine' r_i ?_
  | with_reducible refine' r_gSub ?_
  | with_reducible refine' r_gFld ?_
  | with_reducible refine' r_xf ?_
  | with_reducible refine' r_bm ?_
  | with_reducible refine' r_iU ?_
  | with_reducible refine' r_keys ?_
  | with_reducible refine' r_din ?_
  | with_reducible refine' r_dc ?_
  | with_reducible refine' r_fs ?_
  | with_reducible refine' r_js ?_
  | with_reducible refine' r_js0 ?_
  | with_reducible refine' r_fmt ?_
  | with_reducible refine' r_m1 ?_
  | with_reducible refine' r_isS ?_
  | with_reducible refine' r_bm0 ?_
  | with_reducible refine' r_trO ?_
  | with_reducible refine' r_cm ?_
  | with_reducible refine' r_cmS ?_
  | with_reducible refine' r_isC ?_
  | with_reducible refine' r_makeS ?_
  | with_reducible refine' r_revL ?_
  | with_reducible refine' r_ckw ?_
  | with_reducible refine' r_iStr ?_
  | ((with_reducible refine' r_makeL ?hv ?_); (case hv => rfl))
  | with_reducible refine' r_subO ?_
  | fail)
local macro_rules | `(tactic| tm_at "rd") => `(tactic| repeat tm_at "r1")
local macro_rules | `(tactic| tm_at "hs") => `(tactic| first
  | with_reducible assumption
  | (with_reducible refine' upd_same)
  | ((with_reducible refine' at_upd ?hn ?ho); (case hn => tm_at "ne"); (case ho => tm_at "hs"))
  | ((with_reducible refine' Bx.keep ?hx _ _ ?hn ?ho); (case hx => with_reducible assumption); (case hn => tm_at "ne"); (case ho => tm_at "hs"))
  | ((with_reducible refine' Same.at ?hx ?ho); (case hx => with_reducible assumption); (case ho => tm_at "hs"))
  | ((with_reducible refine' Kx.at ?hx ?hn ?ho); (case hx => with_reducible assumption); (case hn => tm_at "ne"); (case ho => tm_at "hs"))
  | fail)
local macro_rules | `(tactic| tm_at "ne") => `(tactic| first
  | with_reducible assumption
  | ((with_reducible refine' Ne.symm ?ha); (case ha => with_reducible assumption))
  | ((with_reducible refine' ne_of_none ?ha ?hb); (case hb => with_reducible assumption); (case ha => with_reducible assumption))
  | ((with_reducible refine' Ne.symm (ne_of_none ?ha ?hb)); (case hb => with_reducible assumption); (case ha => with_reducible assumption))
  | ((with_reducible refine' ne_of_none ?ha ?hb); (case hb => with_reducible assumption); (case ha => tm_at "hs"))
  | ((with_reducible refine' Ne.symm (ne_of_none ?ha ?hb)); (case hb => with_reducible assumption); (case ha => tm_at "hs"))
  | fail)
local macro_rules | `(tactic| tm_at "fr") => `(tactic| repeat (rename upd _ _ _ _ = Option.none => hfr; have hfr2 := free_upd hfr; clear hfr; obtain ⟨hfr3, hfr4⟩ := hfr2))
local macro_rules | `(tactic| tm_at "sq") => `(tactic| first
  | with_reducible assumption
  | ((with_reducible refine' SqL.of ?ho); (case ho => tm_at "hs"))
  | ((with_reducible refine' SqT.of ?ho); (case ho => tm_at "hs"))
  | fail)
local macro_rules | `(tactic| tm_at "r2") => `(tactic| first
  | tm_at "r1"
  | ((with_reducible refine' r_ixL ?ha ?hb ?_); (case ha => tm_at "sq"); (case hb => rfl))
  | ((with_reducible refine' r_ixT ?ha ?hb ?_); (case ha => tm_at "sq"); (case hb => rfl))
  | ((with_reducible refine' r_setL ?ha ?hb ?_); (case ha => tm_at "hs"); (case hb => rfl))
  | ((with_reducible refine' r_lenL ?ha ?_); (case ha => tm_at "sq"))
  | ((with_reducible refine' r_lenT ?ha ?_); (case ha => tm_at "sq"))
  | fail)
local macro_rules | `(tactic| tm_at "go") => `(tactic| repeat tm_at "r2")
local macro_rules | `(tactic| tm_at "fn") => `(tactic| first
  | with_reducible assumption
  | ((with_reducible refine' Same.free ?hs ?hn); (case hn => with_reducible assumption); (case hs => tm_at "sm"))
  | fail)
local macro_rules | `(tactic| tm_at "sm") => `(tactic| first
  | with_reducible assumption
  | with_reducible refine' Same.refl
  | ((with_reducible refine' Same.new ?ha ?hb); (case hb => with_reducible assumption); (case ha => tm_at "sm"))
  | ((with_reducible refine' Same.updF ?ha ?hb); (case hb => tm_at "fn"); (case ha => tm_at "sm"))
  | ((with_reducible refine' Same.bx ?ha ?hx ?hb); (case hx => with_reducible assumption); (case hb => tm_at "fn"); (case ha => tm_at "sm"))
  | ((with_reducible refine' Same.kx ?ha ?hx ?hb); (case hx => with_reducible assumption); (case hb => tm_at "fn"); (case ha => tm_at "sm"))
  | ((with_reducible refine' Same.trans ?ha ?hx); (case hx => with_reducible assumption); (case ha => tm_at "sm"))
  | fail)
local macro_rules | `(tactic| tm_at "tk") => `(tactic| first
  | with_reducible assumption
  | with_reducible refine' Tk.refl
  | ((with_reducible refine' Tk.new ?ha ?hb); (case hb => with_reducible assumption); (case ha => tm_at "tk"))
  | ((with_reducible refine' Tk.setL ?ha ?hb); (case hb => tm_at "hs"); (case ha => tm_at "tk"))
  | ((with_reducible refine' Tk.setI ?ha ?hb); (case hb => tm_at "hs"); (case ha => tm_at "tk"))
  | ((with_reducible refine' Tk.trans ?ha (Bx.tk ?hx ?hb)); (case hx => with_reducible assumption); (case hb => tm_at "bx"); (case ha => tm_at "tk"))
  | ((with_reducible refine' Tk.trans ?ha (Kx.tk ?hx ?hb)); (case hx => with_reducible assumption); (case hb => tm_at "hs"); (case ha => tm_at "tk"))
  | ((with_reducible refine' Tk.trans ?ha (Same.tk ?hx)); (case hx => with_reducible assumption); (case ha => tm_at "tk"))
  | ((with_reducible refine' Tk.trans ?ha ?hx); (case hx => with_reducible assumption); (case ha => tm_at "tk"))
  | fail)
local macro_rules | `(tactic| tm_at "bx") => `(tactic| first
  | with_reducible assumption
  | ((with_reducible refine' Bx.box ?hx); (case hx => with_reducible assumption))
  | ((with_reducible refine' BoxAt.at ?ha ?hn); (case hn => tm_at "ne"); (case ha => tm_at "bx"))
  | ((with_reducible refine' BoxAt.same ?ha ?hs); (case hs => with_reducible assumption); (case ha => tm_at "bx"))
  | exact ⟨_, _, _, by tm_at "hs"⟩
  | fail)
section
variable {P : Program} {w : World} {K : PySem.W.Frag} {mg : Str → Option Value} {base : Heap} {aGround aInv aSh : Addr}
def top (i : Nat) : Stmt := PySem.Challenge.pw_heldground_k61_shares_made.main.body.getD i (.Pass ⟨0, 0, 0, 0⟩)
abbrev s_law_box : Stmt := top 10
theorem sc_law_box : FnScope ["_law_script", "_law_k", "_law_own", "_law_cell", "_law_seed"] ["_law_script", "_law_k", "_law_own"] (defScope s_law_box) := ⟨rfl, rfl, rfl, by decide +kernel, rfl, by decide +kernel, by decide +kernel⟩
abbrev s_law_take : Stmt := top 11
theorem sc_law_take : FnScope ["_law_box_here", "_law_many", "_law_raw", "_law_wide", "_law_digit"] ["_law_box_here", "_law_many"] (defScope s_law_take) := ⟨rfl, rfl, rfl, by decide +kernel, rfl, by decide +kernel, by decide +kernel⟩
abbrev s_law_pick : Stmt := top 12
theorem sc_law_pick : FnScope ["_law_box_here", "_law_items"] ["_law_box_here", "_law_items"] (defScope s_law_pick) := ⟨rfl, rfl, rfl, by decide +kernel, rfl, by decide +kernel, by decide +kernel⟩
abbrev s_law_number : Stmt := top 13
theorem sc_law_number : FnScope ["_law_box_here", "_law_most"] ["_law_box_here"] (defScope s_law_number) := ⟨rfl, rfl, rfl, by decide +kernel, rfl, by decide +kernel, by decide +kernel⟩
abbrev s_law_is : Stmt := top 14
theorem sc_law_is : FnScope ["_law_made", "_law_over_it", "_law_under", "_law_p"] ["_law_made", "_law_over_it", "_law_under"] (defScope s_law_is) := ⟨rfl, rfl, rfl, by decide +kernel, rfl, by decide +kernel, by decide +kernel⟩
abbrev s_law_refused : Stmt := top 15
theorem sc_law_refused : FnScope ["_law_found", "e"] [] (defScope s_law_refused) := ⟨rfl, rfl, rfl, by decide +kernel, rfl, by decide +kernel, by decide +kernel⟩
abbrev s_law_signs_right : Stmt := top 16
theorem sc_law_signs_right : FnScope ["_law_one", "_law_two", "_law_a", "_law_b", "_law_pairs", "_law_c", "_law_d", "_law_made", "_law_over_it", "_law_under"] ["_law_one", "_law_two", "_law_a", "_law_b"] (defScope s_law_signs_right) := ⟨rfl, rfl, rfl, by decide +kernel, rfl, by decide +kernel, by decide +kernel⟩
abbrev s_law : Stmt := top 17
theorem sc_law : FnScope ["_law_script", "_law_k", "_law_box_here", "_law_turn", "_law_less", "_law_same", "_law_found", "_law_under", "_law_sides", "_law_held", "_law_a", "_law_b", "_law_one", "_law_two", "_law_side"] ["_law_script"] (defScope s_law) := ⟨rfl, rfl, rfl, by decide +kernel, rfl, by decide +kernel, by decide +kernel⟩
abbrev s_greatest_common : Stmt := top 4
theorem sc_greatest_common : FnScope ["one", "other", "first", "second"] ["one", "other"] (defScope s_greatest_common) := ⟨rfl, rfl, rfl, by decide +kernel, rfl, by decide +kernel, by decide +kernel⟩
abbrev s_in_lowest_terms : Stmt := top 6
theorem sc_in_lowest_terms : FnScope ["part", "whole", "common", "sign"] ["part", "whole"] (defScope s_in_lowest_terms) := ⟨rfl, rfl, rfl, by decide +kernel, rfl, by decide +kernel, by decide +kernel⟩
abbrev s_pair_of : Stmt := top 7
theorem sc_pair_of : FnScope ["value"] ["value"] (defScope s_pair_of) := ⟨rfl, rfl, rfl, by decide +kernel, rfl, by decide +kernel, by decide +kernel⟩
abbrev s_Share__init : Stmt := inClass (top 8) 0
theorem sc_Share__init : FnScope ["self", "part", "whole"] ["self", "part", "whole"] (defScope s_Share__init) := ⟨rfl, rfl, rfl, by decide +kernel, rfl, by decide +kernel, by decide +kernel⟩
abbrev s_Share__str : Stmt := inClass (top 8) 2
theorem sc_Share__str : FnScope ["self"] ["self"] (defScope s_Share__str) := ⟨rfl, rfl, rfl, by decide +kernel, rfl, by decide +kernel, by decide +kernel⟩
abbrev s_Share__add : Stmt := inClass (top 8) 3
theorem sc_Share__add : FnScope ["self", "other", "part", "whole"] ["self", "other"] (defScope s_Share__add) := ⟨rfl, rfl, rfl, by decide +kernel, rfl, by decide +kernel, by decide +kernel⟩
abbrev s_Share__radd : Stmt := inClass (top 8) 4
theorem sc_Share__radd : FnScope ["self", "other", "part", "whole"] ["self", "other"] (defScope s_Share__radd) := ⟨rfl, rfl, rfl, by decide +kernel, rfl, by decide +kernel, by decide +kernel⟩
abbrev s_Share__sub : Stmt := inClass (top 8) 5
theorem sc_Share__sub : FnScope ["self", "other", "part", "whole"] ["self", "other"] (defScope s_Share__sub) := ⟨rfl, rfl, rfl, by decide +kernel, rfl, by decide +kernel, by decide +kernel⟩
abbrev s_Share__rsub : Stmt := inClass (top 8) 6
theorem sc_Share__rsub : FnScope ["self", "other", "part", "whole"] ["self", "other"] (defScope s_Share__rsub) := ⟨rfl, rfl, rfl, by decide +kernel, rfl, by decide +kernel, by decide +kernel⟩
abbrev s_Share__mul : Stmt := inClass (top 8) 7
theorem sc_Share__mul : FnScope ["self", "other", "part", "whole"] ["self", "other"] (defScope s_Share__mul) := ⟨rfl, rfl, rfl, by decide +kernel, rfl, by decide +kernel, by decide +kernel⟩
abbrev s_Share__rmul : Stmt := inClass (top 8) 8
theorem sc_Share__rmul : FnScope ["self", "other", "part", "whole"] ["self", "other"] (defScope s_Share__rmul) := ⟨rfl, rfl, rfl, by decide +kernel, rfl, by decide +kernel, by decide +kernel⟩
abbrev s_Share__neg : Stmt := inClass (top 8) 9
theorem sc_Share__neg : FnScope ["self"] ["self"] (defScope s_Share__neg) := ⟨rfl, rfl, rfl, by decide +kernel, rfl, by decide +kernel, by decide +kernel⟩
abbrev s_Share__eq : Stmt := inClass (top 8) 10
theorem sc_Share__eq : FnScope ["self", "other"] ["self", "other"] (defScope s_Share__eq) := ⟨rfl, rfl, rfl, by decide +kernel, rfl, by decide +kernel, by decide +kernel⟩
abbrev s_Share__lt : Stmt := inClass (top 8) 11
theorem sc_Share__lt : FnScope ["self", "other", "part", "whole"] ["self", "other"] (defScope s_Share__lt) := ⟨rfl, rfl, rfl, by decide +kernel, rfl, by decide +kernel, by decide +kernel⟩
abbrev s_Share__le : Stmt := inClass (top 8) 12
theorem sc_Share__le : FnScope ["self", "other", "part", "whole"] ["self", "other"] (defScope s_Share__le) := ⟨rfl, rfl, rfl, by decide +kernel, rfl, by decide +kernel, by decide +kernel⟩
abbrev s_Share__gt : Stmt := inClass (top 8) 13
theorem sc_Share__gt : FnScope ["self", "other", "part", "whole"] ["self", "other"] (defScope s_Share__gt) := ⟨rfl, rfl, rfl, by decide +kernel, rfl, by decide +kernel, by decide +kernel⟩
abbrev s_Share__ge : Stmt := inClass (top 8) 14
theorem sc_Share__ge : FnScope ["self", "other", "part", "whole"] ["self", "other"] (defScope s_Share__ge) := ⟨rfl, rfl, rfl, by decide +kernel, rfl, by decide +kernel, by decide +kernel⟩
abbrev s_InvalidNumbers__init : Stmt := inClass (top 2) 0
theorem sc_InvalidNumbers__init : FnScope ["self", "word"] ["self", "word"] (defScope s_InvalidNumbers__init) := ⟨rfl, rfl, rfl, by decide +kernel, rfl, by decide +kernel, by decide +kernel⟩
structure Txt (K : PySem.W.Frag) (mg : Str → Option Value) (aGround aInv aSh : Addr) : Prop where
  m_GroundError : mg "GroundError" = some (.ref aGround)
  b_GroundError : BaseInit K aGround
  m_InvalidNumbers : mg "InvalidNumbers" = some (.ref aInv)
  clS : Cls K aSh
  nP : NoAttr K aSh "part"
  nW : NoAttr K aSh "whole"
  xw : PySem.W.findIn K (.ref aInv) "word" = some none
  xf : XfC K aInv
  exm : PySem.W.exmOne K (.ref aInv) (.ref aInv) = some true
  m_Share : mg "Share" = some (.ref aSh)
  tyS : ∀ (H : Hp) (e : Addr) (dx : Addr) (fs : List (Str × V)), H e = some (.ins aSh dx fs) → TyX K H (.ref e) (.ref aSh)
  kitN : PySem.W.kitOne K (.type "int") (.ref aSh) = some false
  ib : IntB K aSh
  g_add : ∃ g : Addr, PySem.W.findIn K (.ref aSh) "__add__" = some (some (.ref g))
  g_sub : ∃ g : Addr, PySem.W.findIn K (.ref aSh) "__sub__" = some (some (.ref g))
  g_mul : ∃ g : Addr, PySem.W.findIn K (.ref aSh) "__mul__" = some (some (.ref g))
  g_radd : ∃ g : Addr, PySem.W.findIn K (.ref aSh) "__radd__" = some (some (.ref g))
  g_rsub : ∃ g : Addr, PySem.W.findIn K (.ref aSh) "__rsub__" = some (some (.ref g))
  g_rmul : ∃ g : Addr, PySem.W.findIn K (.ref aSh) "__rmul__" = some (some (.ref g))
  ni_add : noIp K aSh "add" = true
  ni_sub : noIp K aSh "sub" = true
  ni_mul : noIp K aSh "mul" = true
  ne_Share : PySem.W.findIn K (.ref aSh) "__ne__" = some (some (.builtin "object.__ne__"))
  ob_Share : PySem.W.mroIn K aSh (.type "object") = some true
  n_int : mg "int" = none
  n_len : mg "len" = none
  n_abs : mg "abs" = none
  n_repr : mg "repr" = none
  n_range : mg "range" = none
  n_min : mg "min" = none
  n_max : mg "max" = none
  n_str : mg "str" = none
  n_isinstance : mg "isinstance" = none
theorem divw {a m : Int} (h1 : 1 ≤ m) (h2 : m < 100000000000000000000) : CDivW a m := by
  refine ⟨by omega, ?_⟩
  have e : m.natAbs ≠ 0 := by omega
  refine (Nat.log2_lt e).mpr (Nat.lt_of_lt_of_le (m := 100000000000000000000) (by omega) ?_)
  exact Nat.le_trans (Nat.le_of_ble_eq_true (by decide +kernel) : 100000000000000000000 ≤ 2 ^ 100) (Nat.pow_le_pow_right (by decide) (by decide))
theorem ok_take (F : DefAt K mg "_law_take" s_law_take) (T : Txt K mg aGround aInv aSh) : DefOk P w K mg base CX0 1 "_law_take" ["_law_box_here", "_law_many"] spTake := by
  refine F.ok sc_law_take (fun _ _ _ _ _ _ us hl => match us, hl with | [_, _], _ => rfl) (fun vs H Q E h => ?_) (fun f cdv A outer s H vs Q E hr h => ?_)
  · obtain ⟨b, m, rfl, _⟩ := h
    rfl
  · obtain ⟨b, m, rfl, ⟨x, y, z, hb⟩, m1, m2, k⟩ := h
    refine ⟨_, (pss_cons (ps_if (pt_cmpR o_gt (pe_ix (ix_u K) (pv 0) pe_int (fun _ _ => rfl)) pe_int (nomark _)) (pss_cons (ps_set (i := 4) sc_law_take.nd rfl (Or.inl rfl) (pe_op o_mod (pe_callTy c_int (by rfl) T.n_int (by decide +kernel) (pa_cons (pe_ix (ix_u K) (pv 0) pe_int (fun _ _ => rfl)) pa_nil)) (pv 1)))
  (pss_cons (ps_asg (pe_op o_div (pe_ix (ix_u K) (pv 0) pe_int (fun _ _ => rfl)) (pv 1)) (pg_sub (pv 0) pe_int set_list))
  (pss_one (ps_ret (pv 4)))))
  pss_nil)
  (pss_cons (ps_asg (pe_op (o_add K) (pe_ix (ix_u K) (pv 0) pe_int (fun _ _ => rfl)) pe_int) (pg_sub (pv 0) pe_int set_list))
  (pss_cons (ps_set (i := 2) sc_law_take.nd rfl (Or.inl rfl) (pe_op o_mod (pe_callTy c_int (by rfl) T.n_int (by decide +kernel) (pa_cons (pe_op o_mul (pe_op (o_add K) (pe_ix (ix_u K) (pv 0) pe_int (fun _ _ => rfl)) (pe_op o_mul pe_int (pe_ix (ix_u K) (pv 0) pe_int (fun _ _ => rfl)))) pe_int) pa_nil)) pe_int))
  (pss_cons (ps_asg (pe_op (o_add K) (pe_op o_mod (pe_callTy c_int (by rfl) T.n_int (by decide +kernel) (pa_cons (pe_op (o_add K) (pe_op o_mul (pv 2) pe_int) pe_int) pa_nil)) pe_int) pe_int) (pg_sub (pv 0) pe_int set_list))
  (pss_cons (ps_if (pt_cmpR o_lt (pv 1) (pe_op o_pow pe_int pe_int) (nomark _)) (pss_one (ps_ret (pe_op o_mod (pe_callTy c_int (by rfl) T.n_int (by decide +kernel) (pa_cons (pe_op o_div (pe_op (o_add K) (pe_op o_mul (pv 2) pe_int) (pe_ix (ix_u K) (pv 0) pe_int (fun _ _ => rfl))) pe_int) pa_nil)) (pv 1))))
  pss_nil)
  (pss_cons (ps_set (i := 3) sc_law_take.nd rfl (Or.inl rfl) (pe_op o_mul (pe_op (o_add K) (pe_op o_mul (pv 2) pe_int) (pe_ix (ix_u K) (pv 0) pe_int (fun _ _ => rfl))) (pe_op o_pow pe_int pe_int)))
  (pss_one (ps_ret (pe_op o_mod (pe_callTy c_int (by rfl) T.n_int (by decide +kernel) (pa_cons (pe_op (o_add K) (pe_op (o_add K) (pv 3) (pe_op o_mul (pe_op o_pow (pe_ix (ix_u K) (pv 0) pe_int (fun _ _ => rfl)) pe_int) pe_int)) (pv 2)) pa_nil)) (pv 1)))))))))), ?_⟩
    tm_at "go"
    refine r_id (fun h0 => ?_) (fun h0 => ?_)
    · tm_at "go"
      refine r_mod (by omega) ?_
      tm_at "go"
      refine r_divW (divw m1 m2) ?_
      tm_at "go"
      exact k _ _ (Int.emod_nonneg _ (by omega)) (Int.emod_lt_of_pos _ (by omega)) ((Bx.refl ⟨_, _, _, hb⟩).set _ _ _)
    · tm_at "go"
      have b1 : ∀ x : Int, 0 ≤ x % 2147483629 + 1 ∧ x % 2147483629 + 1 < 2 ^ 31 := fun x => by
        have := Int.emod_nonneg x (b := 2147483629) (by decide)
        have := Int.emod_lt_of_pos x (b := 2147483629) (by decide)
        omega
      have b2 : ∀ x : Int, 0 ≤ x % 2147483647 ∧ x % 2147483647 < 2 ^ 31 := fun x => by
        have := Int.emod_nonneg x (b := 2147483647) (by decide)
        have := Int.emod_lt_of_pos x (b := 2147483647) (by decide)
        omega
      refine r_id (fun _ => ?_) (fun _ => ?_)
      · tm_at "go"
        refine r_div (by decide) (by decide) ?_
        tm_at "go"
        refine r_mod (by omega) ?_
        tm_at "go"
        exact k _ _ (Int.emod_nonneg _ (by omega)) (Int.emod_lt_of_pos _ (by omega)) (((Bx.refl ⟨_, _, _, hb⟩).set _ _ _).set _ _ _)
      · tm_at "go"
        have c2 := b2 ((y + 104729 * (z + 1)) * 69623)
        have c1 := b1 ((y + 104729 * (z + 1)) * 69623 % 2147483647 * 48271 + 30103)
        generalize (y + 104729 * (z + 1)) * 69623 % 2147483647 = raw at c1 c2 ⊢
        generalize (raw * 48271 + 30103) % 2147483629 + 1 = seed at c1 ⊢
        refine r_mul (cmulL ⟨by omega, by omega⟩) ?_
        tm_at "go"
        refine r_pow ⟨by decide, by decide, by omega⟩ ?_
        tm_at "go"
        refine r_mod (by omega) ?_
        tm_at "go"
        exact k _ _ (Int.emod_nonneg _ (by omega)) (Int.emod_lt_of_pos _ (by omega)) (((Bx.refl ⟨_, _, _, hb⟩).set _ _ _).set _ _ _)
theorem ok_pick (F : DefAt K mg "_law_pick" s_law_pick) (T : Txt K mg aGround aInv aSh) (D_law_take : DefOk P w K mg base CX0 1 "_law_take" ["_law_box_here", "_law_many"] spTake) :
    DefOk P w K mg base CX0 2 "_law_pick" ["_law_box_here", "_law_items"] (spPick K) := by
  refine F.ok sc_law_pick (fun _ _ _ _ _ _ us hl => match us, hl with | [_, _], _ => rfl) (fun vs H Q E h => ?_) (fun f cdv A outer s H vs Q E hr h => ?_)
  · obtain ⟨b, l, xs, rfl, _⟩ := h
    rfl
  · obtain ⟨b, l, xs, rfl, hb, hl, nl, m1, m2, k⟩ := h
    refine ⟨_, (pss_one (ps_ret (pe_ix (ix_u K) (pv 1) (pe_callD D_law_take (hr.mono (by decide)) pass0 rfl (pa_cons (pv 0) (pa_cons (pe_callB (c_len K) (by rfl) T.n_len (by decide +kernel) (pa_cons (pv 1) pa_nil)) pa_nil))) (fun _ _ => rfl)))), ?_⟩
    have fin : ∀ (d : Int) (H' : Hp), 0 ≤ d → d < (xs.length : Nat) → Bx b H H' → rIx K (.ref l) (.int d) H' Q := fun d H' h0 h1 hx => by
      obtain ⟨j, rfl⟩ : ∃ j : Nat, d = j := ⟨d.toNat, by omega⟩
      have hj : j < xs.length := by omega
      have e : xs[j]? = some xs[j] := List.getElem?_eq_getElem hj
      rcases hl with hl | hl
      · exact r_ixL (Bx.seqL hx nl hl) (atI_nat e) (k _ _ (List.getElem_mem hj) hx)
      · exact r_ixT (Bx.seqT hx nl hl) (atI_nat e) (k _ _ (List.getElem_mem hj) hx)
    tm_at "go"
    have ln : ∀ {Q' : VK}, Q' (.int (xs.length : Nat)) H → uLen K [.ref l] H Q' := fun q => by
      rcases hl with hl | hl
      · exact r_lenL hl q
      · exact r_lenT hl q
    refine ln ?_
    tm_at "go"
    exact ⟨b, _, rfl, hb, by omega, by omega, fin⟩
theorem ok_box (F : DefAt K mg "_law_box" s_law_box) (T : Txt K mg aGround aInv aSh) : DefOk P w K mg base CX0 1 "_law_box" ["_law_script", "_law_k", "_law_own"] (spBox K) := by
  refine F.ok sc_law_box (fun _ _ _ _ _ _ us hl => match us, hl with | [_, _, _], _ => rfl) (fun vs H Q E h => ?_) (fun f cdv A outer s H vs Q E hr h => ?_)
  · obtain ⟨a, ns, k, c, rfl, _⟩ := h
    rfl
  · obtain ⟨a, ns, k, c, rfl, hS, k0, k1, c0, c1, nl, q⟩ := h
    refine ⟨_, (pss_cons (ps_set (i := 3) sc_law_box.nd rfl (Or.inl rfl) (pe_op (o_add K) (pe_op (o_add K) (pe_op o_mul pe_int (pv 1)) (pe_op o_mul pe_int (pv 2))) pe_int))
  (pss_cons (ps_if (pt_cmpR o_lt (pv 1) (pe_callB (c_len K) (by rfl) T.n_len (by decide +kernel) (pa_cons (pv 0) pa_nil)) (nomark _)) (pss_one (ps_set (i := 3) sc_law_box.nd rfl (Or.inl rfl) (pe_callB c_abs (by rfl) T.n_abs (by decide +kernel) (pa_cons (pe_ix (ix_u K) (pv 0) (pv 1) (fun _ _ => rfl)) pa_nil))))
  (pss_one (ps_if (pt_cmpR o_gt (pe_callB (c_len K) (by rfl) T.n_len (by decide +kernel) (pa_cons (pv 0) pa_nil)) pe_int (nomark _)) (pss_one (ps_set (i := 3) sc_law_box.nd rfl (Or.inl rfl) (pe_op (o_add K) (pv 3) (pe_op o_mul (pe_op o_mod (pe_callTy c_int (by rfl) T.n_int (by decide +kernel) (pa_cons (pe_callB c_abs (by rfl) T.n_abs (by decide +kernel) (pa_cons (pe_ix (ix_u K) (pv 0) (pe_op o_mod (pe_callTy c_int (by rfl) T.n_int (by decide +kernel) (pa_cons (pv 1) pa_nil)) (pe_callB (c_len K) (by rfl) T.n_len (by decide +kernel) (pa_cons (pv 0) pa_nil))) (fun _ _ => rfl)) pa_nil)) pa_nil)) pe_int) pe_int))))
  pss_nil)))
  (pss_cons (ps_set (i := 4) sc_law_box.nd rfl (Or.inl rfl) (pe_op (o_add K) (pe_op o_mod (pe_callTy c_int (by rfl) T.n_int (by decide +kernel) (pa_cons (pe_op (o_add K) (pe_op o_mul (pe_op o_mod (pe_callTy c_int (by rfl) T.n_int (by decide +kernel) (pa_cons (pv 3) pa_nil)) pe_int) pe_int) (pe_op o_mul pe_int (pe_op (o_add K) (pv 1) (pe_op o_mul pe_int (pv 2))))) pa_nil)) pe_int) pe_int))
  (pss_one (ps_ret (pe_lst (pa_cons (pe_ix (ix_u K) (pe_lst (pa_cons pe_int (pa_cons (pv 3) pa_nil))) (pe_callTy c_int (by rfl) T.n_int (by decide +kernel) (pa_cons (pe_cmpR o_ge (pv 3) (pe_op o_pow pe_int pe_int) (nomark _)) pa_nil)) (fun _ _ => rfl)) (pa_cons (pv 4) (pa_cons pe_int pa_nil))))))))), ?_⟩
    have at_ : ∀ j : Nat, j < ns.length → ∃ n : Int, atI (ns.map V.int) (j : Int) = some (.int n) := fun j hj => ⟨ns[j], atI_nat (by simp [hj])⟩
    obtain ⟨j, rfl⟩ : ∃ j : Nat, k = j := ⟨k.toNat, by omega⟩
    tm_at "go"
    have done : ∀ (cell v seed : Int) (p p2 : Addr), H p = none → upd H p (.lst [.int 0, .int cell]) p2 = none →
        Q (.ref p2) (upd (upd H p (.lst [.int 0, .int cell])) p2 (.lst [.int v, .int seed, .int 0])) := fun cell v seed p p2 hp h2 => by
      obtain ⟨f2, _⟩ := free_upd h2
      refine q p2 _ f2 ⟨fun x o n e => ?_, v, seed, 0, upd_same⟩
      exact at_upd n (at_upd (ne_of_none e hp) e)
    have ix : ∀ (cell : Int) (p : Addr) (Q1 : VK), (∀ v : Int, Q1 (.int v) (upd H p (.lst [.int 0, .int cell]))) →
        rIx K (.ref p) (.int (if decide (10 ^ Int.toNat 18 ≤ cell) then 1 else 0)) (upd H p (.lst [.int 0, .int cell])) Q1 := fun cell p Q1 k => by
      refine r_ixL (v := .int (if decide (10 ^ Int.toNat 18 ≤ cell) then cell else 0)) (SqL.of upd_same) ?_ (k _)
      split <;> rfl
    have lenE : (List.map V.int ns).length = ns.length := List.length_map ..
    refine r_id (fun h0 => ?_) (fun h0 => ?_)
    · obtain ⟨n, hn⟩ := at_ j (by omega)
      tm_at "go"
      refine r_ixL hS hn ?_
      tm_at "go"
      refine ⟨szl rfl, fun p hp => ?_⟩
      tm_at "go"
      refine ix _ p _ fun v => ?_
      tm_at "go"
      exact ⟨szl rfl, fun p2 h2 => done _ _ _ _ _ hp h2⟩
    · tm_at "go"
      refine r_id (fun h1 => ?_) (fun h1 => ?_)
      · have hj : j % ns.length < ns.length := Nat.mod_lt _ (by omega)
        obtain ⟨n, hn⟩ := at_ _ hj
        tm_at "go"
        refine r_mod (by omega) ?_
        refine r_ixL hS (by rw [lenE, ← Int.natCast_emod]; exact hn) ?_
        tm_at "go"
        refine ⟨szl rfl, fun p hp => ?_⟩
        tm_at "go"
        refine ix _ p _ fun v => ?_
        tm_at "go"
        exact ⟨szl rfl, fun p2 h2 => done _ _ _ _ _ hp h2⟩
      · tm_at "go"
        refine ⟨szl rfl, fun p hp => ?_⟩
        tm_at "go"
        refine ix _ p _ fun v => ?_
        tm_at "go"
        exact ⟨szl rfl, fun p2 h2 => done _ _ _ _ _ hp h2⟩
/-- lowest terms, the second one above 0 -/
structure Low (n d : Int) : Prop where
  pos : 1 ≤ d
  cop : Nat.gcd n.natAbs d.natAbs = 1
theorem Low.uniq {n d m e : Int} (h : Low n d) (g : Low m e) (q : n * e = m * d) : n = m ∧ d = e := by
  have q2 : n.natAbs * e.natAbs = m.natAbs * d.natAbs := by rw [← Int.natAbs_mul, ← Int.natAbs_mul, q]
  have h1 := h.pos
  have h2 := g.pos
  have d1 : d.natAbs ∣ e.natAbs := by
    have : d.natAbs ∣ n.natAbs * e.natAbs := q2 ▸ Nat.dvd_mul_left ..
    exact Nat.Coprime.dvd_of_dvd_mul_left (Nat.Coprime.symm h.cop) this
  have d2 : e.natAbs ∣ d.natAbs := by
    have : e.natAbs ∣ m.natAbs * d.natAbs := q2 ▸ Nat.dvd_mul_left ..
    exact Nat.Coprime.dvd_of_dvd_mul_left (Nat.Coprime.symm g.cop) this
  have e1 := Nat.dvd_antisymm d1 d2
  have e2 : d = e := by omega
  subst e2
  exact ⟨Int.eq_of_mul_eq_mul_right (by omega) q, rfl⟩
def sgn (w : Int) : Int := if 0 < w then 1 else -1
theorem low_of {p w : Int} (hw : w ≠ 0) : ∀ g : Nat, g = Nat.gcd w.natAbs p.natAbs → 1 ≤ g ∧ Low (sgn w * p / (g : Int)) ((w.natAbs : Int) / (g : Int)) ∧ sgn w * p / (g : Int) * w = p * ((w.natAbs : Int) / (g : Int)) ∧
    ((w.natAbs : Int) / (g : Int)).natAbs ≤ w.natAbs ∧ (sgn w * p / (g : Int)).natAbs ≤ p.natAbs := by
  intro g hg
  have g1 : 1 ≤ g := by
    rw [hg]
    exact Nat.gcd_pos_of_pos_left _ (by omega)
  obtain ⟨a, ha⟩ : g ∣ w.natAbs := hg ▸ Nat.gcd_dvd_left ..
  obtain ⟨b, hb⟩ : g ∣ p.natAbs := hg ▸ Nat.gcd_dvd_right ..
  have cop : Nat.gcd a b = 1 := by
    have := Nat.gcd_mul_left g a b
    rw [← ha, ← hb, ← hg] at this
    have h2 : g * 1 = g * Nat.gcd a b := by omega
    exact (Nat.eq_of_mul_eq_mul_left (by omega) h2).symm
  have a1 : 1 ≤ a := by
    rcases Nat.eq_zero_or_pos a with z | z
    · subst z; omega
    · exact z
  have ed : (w.natAbs : Int) / (g : Int) = a := by
    rw [ha, Int.natCast_mul]
    exact Int.mul_ediv_cancel_left _ (by omega)
  obtain ⟨c, hc, hcb⟩ : ∃ c : Int, sgn w * p = (g : Int) * c ∧ c.natAbs = b := by
    have hp : (p.natAbs : Int) = g * b := by rw [hb, Int.natCast_mul]
    unfold sgn
    rcases Int.natAbs_eq p with z | z <;> by_cases hs : 0 < w
    · exact ⟨b, by rw [if_pos hs, z, hp]; omega, by omega⟩
    · exact ⟨-b, by rw [if_neg hs, z, hp, Int.mul_neg]; omega, by omega⟩
    · exact ⟨-b, by rw [if_pos hs, z, hp, Int.one_mul, Int.mul_neg], by omega⟩
    · exact ⟨b, by rw [if_neg hs, z, hp]; omega, by omega⟩
  have en : sgn w * p / (g : Int) = c := by
    rw [hc]
    exact Int.mul_ediv_cancel_left _ (by omega)
  have hp : p = sgn w * ((g : Int) * c) := by
    rw [← hc]
    unfold sgn
    split <;> omega
  have hww : w = sgn w * ((g : Int) * a) := by
    have : (w.natAbs : Int) = g * a := by rw [ha, Int.natCast_mul]
    rw [← this]
    unfold sgn
    split <;> omega
  rw [ed, en]
  refine ⟨g1, ⟨by omega, ?_⟩, ?_, ?_, ?_⟩
  · rw [hcb, Int.natAbs_natCast, Nat.gcd_comm]
    exact cop
  · conv => lhs; rw [hww]
    conv => rhs; rw [hp]
    simp only [Int.mul_assoc, Int.mul_comm, Int.mul_left_comm]
  · rw [Int.natAbs_natCast, ha]
    exact Nat.le_mul_of_pos_left _ (by omega)
  · rw [hcb, hb]
    exact Nat.le_mul_of_pos_left _ (by omega)
theorem Low.no_common {n d q : Int} (h : Low n d) (q2 : 2 ≤ q) (h1 : n % q = 0) (h2 : d % q = 0) : False := by
  have d1 : q.natAbs ∣ n.natAbs := Int.natAbs_dvd_natAbs.mpr (Int.dvd_of_emod_eq_zero h1)
  have d2 : q.natAbs ∣ d.natAbs := Int.natAbs_dvd_natAbs.mpr (Int.dvd_of_emod_eq_zero h2)
  have := Nat.dvd_gcd d1 d2
  rw [h.cop] at this
  have := Nat.dvd_one.mp this
  omega
theorem Low.zero {d : Int} (h : Low 0 d) : d = 1 := by
  have := h.cop
  have := h.pos
  simp at *
  omega
theorem Low.int (i : Int) : Low i 1 := ⟨Int.le_refl _, by simp⟩
/-- the fields of a share -/
def shF (n d : Int) : List (Str × V) := putF "whole" (.int d) (putF "part" (.int n) [])
theorem shF_part (n d : Int) : (shF n d).lookup ("part" : Str) = some (.int n) := by
  unfold shF
  rw [lookup_putF, if_neg (by decide +kernel), lookup_putF, if_pos rfl]
theorem shF_whole (n d : Int) : (shF n d).lookup ("whole" : Str) = some (.int d) := by
  unfold shF
  rw [lookup_putF, if_pos rfl]
def ShAt (aSh : Addr) (H : Hp) (x : Addr) (n d : Int) : Prop := (∃ dx, H x = some (.ins aSh dx (shF n d))) ∧ Low n d
theorem ShAt.mono {aSh : Addr} {H H' : Hp} {x : Addr} {n d : Int} (e : Same H H') (h : ShAt aSh H x n d) : ShAt aSh H' x n d := ⟨let ⟨dx, q⟩ := h.1; ⟨dx, e _ _ q⟩, h.2⟩
/-- a share or an int -/
def Opd (aSh : Addr) (H : Hp) (y : V) (m e : Int) : Prop := (∃ q, y = .ref q ∧ ShAt aSh H q m e) ∨ (y = .int m ∧ e = 1)
theorem Opd.low {aSh : Addr} {H : Hp} {y : V} {m e : Int} (h : Opd aSh H y m e) : Low m e := by
  rcases h with ⟨q, _, h⟩ | ⟨_, rfl⟩
  · exact h.2
  · exact Low.int _
theorem Opd.mono {aSh : Addr} {H H' : Hp} {y : V} {m e : Int} (s : Same H H') (h : Opd aSh H y m e) : Opd aSh H' y m e := by
  rcases h with ⟨q, e, h⟩ | h
  · exact .inl ⟨q, e, h.mono s⟩
  · exact .inr h

def spGcd : Sp := fun vs H Q _ => ∃ a b : Nat, vs = [.int (a : Int), .int (b : Int)] ∧ Q (.int ((Nat.gcd a b : Nat) : Int)) H
def spLow : Sp := fun vs H Q _ => ∃ p w : Int, vs = [.int p, .int w] ∧ w ≠ 0 ∧ w.natAbs < 10000000000000000000 ∧ ∀ (n d : Int) (t : Addr) (H' : Hp), Low n d → n * w = p * d → d.natAbs ≤ w.natAbs → n.natAbs ≤ p.natAbs → Same H H' → H' t = some (.tup [.int n, .int d]) → Q (.ref t) H'
def spPair (aSh : Addr) : Sp := fun vs H Q _ => ∃ y m e, vs = [y] ∧ Opd aSh H y m e ∧ ∀ t H', Same H H' → H' t = some (.tup [.int m, .int e]) → Q (.ref t) H'
def spShI (aSh aInv : Addr) : Sp := fun vs H Q E => ∃ x dx p w, vs = [.ref x, .int p, .int w] ∧ H x = some (.ins aSh dx []) ∧ w.natAbs < 10000000000000000000 ∧
  (w = 0 → ∀ (d : Addr), H d = none → E (.ref aInv) (some d) (upd H d (.xd [("word", .str "whole")]))) ∧
  (w ≠ 0 → ∀ (n d : Int) (H' : Hp), Low n d → n * w = p * d → d.natAbs ≤ w.natAbs → n.natAbs ≤ p.natAbs → Kx x H H' → H' x = some (.ins aSh dx (shF n d)) → Q .non H')
/-- a op b gives the share f / (d * e) -/
def spOp (aSh : Addr) (f : Int → Int → Int → Int → Int) : Sp := fun vs H Q _ => ∃ x y n d m e, vs = [.ref x, y] ∧ ShAt aSh H x n d ∧ Opd aSh H y m e ∧ d < 10000000000000000000 ∧ e < 10000000000000000000 ∧ d * e < 10000000000000000000 ∧ m.natAbs < 10000000000000000000 ∧
  ∀ (z : Addr) (a b : Int) (H' : Hp), a * (d * e) = f n d m e * b → b.natAbs ≤ (d * e).natAbs → a.natAbs ≤ (f n d m e).natAbs → Same H H' → H z = none → ShAt aSh H' z a b → Q (.ref z) H'
def spNeg (aSh : Addr) : Sp := fun vs H Q _ => ∃ x n d, vs = [.ref x] ∧ ShAt aSh H x n d ∧ d < 10000000000000000000 ∧ ∀ (z : Addr) (a b : Int) (H' : Hp), a * d = -n * b → b.natAbs ≤ d.natAbs → Same H H' → H z = none → ShAt aSh H' z a b → Q (.ref z) H'
def spCmp (aSh : Addr) (r : Int → Int → Bool) : Sp := fun vs H Q _ => ∃ x y n d m e, vs = [.ref x, y] ∧ ShAt aSh H x n d ∧ Opd aSh H y m e ∧ d < 10000000000000000000 ∧ e < 10000000000000000000 ∧ ∀ H', Same H H' → Q (.bl (r (n * e) (m * d))) H'
def eqSh (n d : Int) (y : V) (m e : Int) : Bool := match y with | .ref _ => decide (n = m ∧ d = e) | _ => false
def spEqS (aSh : Addr) : Sp := fun vs H Q _ => ∃ x y n d m e, vs = [.ref x, y] ∧ ShAt aSh H x n d ∧ Opd aSh H y m e ∧ ∀ H', Same H H' → Q (.bl (eqSh n d y m e)) H'
theorem r_share {aSh aInv : Addr} {H : Hp} {Q : Addr → Hp → Prop} {E : XK} {p w : Int} (w0 : w ≠ 0) (hw : w.natAbs < 10000000000000000000)
    (k : ∀ (x : Addr) (n d : Int) (H' : Hp), n * w = p * d → d.natAbs ≤ w.natAbs → n.natAbs ≤ p.natAbs → Same H H' → H x = none → ShAt aSh H' x n d → Q x H') :
    ∀ x dx, H x = none → H dx = none → dx ≠ x → spShI aSh aInv [.ref x, .int p, .int w] (upd (upd H dx (.own x)) x (.ins aSh dx [])) (fun v H2 => v = .non ∧ Q x H2) E := by
  intro x dx hx hdx hne
  have n2 : upd H dx (.own x) x = none := (upd_ne (Ne.symm hne)).trans hx
  have sm : Same H (upd (upd H dx (.own x)) x (.ins aSh dx [])) := Same.new (Same.new Same.refl hdx) n2
  exact ⟨x, dx, p, w, rfl, upd_same, hw, fun z => absurd z w0, fun _ n d H' lo e b1 b2 kx hx' => ⟨rfl, k x n d H' e b1 b2 (Same.kx sm kx hx) hx ⟨⟨dx, hx'⟩, lo⟩⟩⟩
section
variable {K : PySem.W.Frag}
theorem ok_InvalidNumbers (F : ErrAt K mg "InvalidNumbers" "InvalidNumbers.__init__" s_InvalidNumbers__init aInv) (T : Txt K mg aGround aInv aSh) : ErrOk P w K mg base 1 "InvalidNumbers" aInv ["self", "word"] (spInitF K aInv "word") := by
  refine F.ok sc_InvalidNumbers__init (fun _ _ _ _ _ _ us hl => match us, hl with | [_, _], _ => rfl) (fun vs H Q E h => ?_) (fun f cdv A outer s H vs Q E hr h => ?_)
  · obtain ⟨a, x, rfl, _⟩ := h
    rfl
  · obtain ⟨a, x, rfl, oc, hno, ha, k⟩ := h
    refine ⟨_, (pss_cons (ps_expr (pe_ginit rfl T.m_GroundError T.b_GroundError (pa_cons (pv 0) (pa_cons pe_str pa_nil))))
  (pss_one (ps_ost (pv 0) (pv 1)))), ?_⟩
    tm_at "go"
    refine ⟨a, aInv, _, rfl, Nat.le_of_ble_eq_true rfl, oc, ha, ?_⟩
    refine ⟨x, rfl, .ref a, rfl, a, aInv, rfl, oc, hno, .inl ⟨ha, fun dx h1 h2 => ?_⟩⟩
    exact k dx h1 h2
theorem ok_gcd (F : DefAt K mg "greatest_common" s_greatest_common) (T : Txt K mg aGround aInv aSh) : DefOk P w K mg base CX0 1 "greatest_common" ["one", "other"] spGcd := by
  refine F.ok sc_greatest_common (fun _ _ _ _ _ _ us hl => match us, hl with | [_, _], _ => rfl) (fun vs H Q E h => ?_) (fun f cdv A outer s H vs Q E hr h => ?_)
  · obtain ⟨a, b, rfl, _⟩ := h
    rfl
  · obtain ⟨a, b, rfl, k⟩ := h
    refine ⟨_, (pss_cons (ps_par (i := 2) (j := 3) (by rfl) sc_greatest_common.nd rfl rfl (by decide) rfl rfl (pa_cons (pv 0) (pa_cons (pv 1) pa_nil)) (by rfl))
  (pss_cons (ps_while PassesOwn.never (pt_cmpR o_gt (pv 3) pe_int (nomark _))
  (pss_one (ps_par (i := 2) (j := 3) (by rfl) sc_greatest_common.nd rfl rfl (by decide) rfl rfl (pa_cons (pv 3) (pa_cons (pe_op o_mod (pe_callTy c_int (by rfl) T.n_int (by decide +kernel) (pa_cons (pv 2) pa_nil)) (pv 3)) pa_nil)) (by rfl))))
  (pss_one (ps_ret (pv 2))))), ?_⟩
    tm_at "go"
    refine ⟨fun m σ' H' => H' = H ∧ ∃ x y : Nat, σ' = [some (.int (a : Int)), some (.int (b : Int)), some (.int (x : Int)), some (.int (y : Int))] ∧ Nat.gcd x y = Nat.gcd a b ∧ m = y, ⟨b, rfl, a, b, rfl, rfl, rfl⟩, ?_⟩
    rintro m σ' H' ⟨hH, x, y, rfl, e, hm⟩
    subst hH hm
    tm_at "go"
    refine r_id (fun h => ?_) (fun h => ?_)
    · refine ⟨fun σ' H1 => ∃ m', m' < m ∧ (H1 = H' ∧ ∃ x y : Nat, σ' = [some (.int (a : Int)), some (.int (b : Int)), some (.int (x : Int)), some (.int (y : Int))] ∧ Nat.gcd x y = Nat.gcd a b ∧ m' = y), fun σ' H' q => q, ?_⟩
      have y0 : 0 < m := by omega
      tm_at "go"
      refine r_mod (by omega) ?_
      tm_at "go"
      refine ⟨x % m, Nat.mod_lt _ y0, rfl, m, x % m, by rw [Int.natCast_emod]; rfl, ?_, rfl⟩
      rw [← e, Nat.gcd_comm x m, Nat.gcd_rec m x, Nat.gcd_comm]
    · tm_at "go"
      have : m = 0 := by omega
      subst this
      rw [Nat.gcd_zero_right] at e
      subst e
      exact k
theorem ok_low (F : DefAt K mg "in_lowest_terms" s_in_lowest_terms) (T : Txt K mg aGround aInv aSh) (D_greatest_common : DefOk P w K mg base CX0 1 "greatest_common" ["one", "other"] spGcd) : DefOk P w K mg base CX0 2 "in_lowest_terms" ["part", "whole"] spLow := by
  refine F.ok sc_in_lowest_terms (fun _ _ _ _ _ _ us hl => match us, hl with | [_, _], _ => rfl) (fun vs H Q E h => ?_) (fun f cdv A outer s H vs Q E hr h => ?_)
  · obtain ⟨a, b, rfl, _⟩ := h
    rfl
  · obtain ⟨p, w, rfl, w0, wb, k⟩ := h
    refine ⟨_, (pss_cons (ps_set (i := 2) sc_in_lowest_terms.nd rfl (Or.inl rfl) (pe_callD D_greatest_common (hr.mono (by decide)) pass0 rfl (pa_cons (pe_callB c_abs (by rfl) T.n_abs (by decide +kernel) (pa_cons (pv 1) pa_nil)) (pa_cons (pe_callB c_abs (by rfl) T.n_abs (by decide +kernel) (pa_cons (pv 0) pa_nil)) pa_nil))))
  (pss_cons (ps_set (i := 3) sc_in_lowest_terms.nd rfl (Or.inl rfl) (pe_ifExp (pt_cmpR o_gt (pv 1) pe_int (nomark _)) pe_int (pe_un un_neg pe_int)))
  (pss_one (ps_ret (pe_tup (pa_cons (pe_op o_div (pe_op o_mul (pv 3) (pv 0)) (pv 2)) (pa_cons (pe_op o_div (pe_callB c_abs (by rfl) T.n_abs (by decide +kernel) (pa_cons (pv 1) pa_nil)) (pv 2)) pa_nil))))))), ?_⟩
    tm_at "go"
    have na : ∀ i : Int, (if i < 0 then -i else i) = (i.natAbs : Int) := fun i => by split <;> omega
    rw [na w, na p]
    refine ⟨w.natAbs, p.natAbs, rfl, ?_⟩
    obtain ⟨g1, lo, e, b1, b2⟩ := low_of (p := p) w0 _ rfl
    have gb : Nat.gcd w.natAbs p.natAbs ≤ w.natAbs := Nat.gcd_le_left _ (by omega)
    generalize Nat.gcd w.natAbs p.natAbs = g at g1 lo e b1 b2 gb ⊢
    tm_at "go"
    have fin : ∀ (σ : St) (H1 : Hp), True := fun _ _ => trivial
    refine r_id (fun h => ?_) (fun h => ?_)
    · have es : sgn w = 1 := if_pos h
      rw [es] at lo e b2
      tm_at "go"
      refine r_divW (divw (by omega) (by omega)) ?_
      tm_at "go"
      rw [na w]
      refine r_divW (divw (by omega) (by omega)) ?_
      tm_at "go"
      exact ⟨szl rfl, fun t ht => k _ _ t _ lo e b1 b2 (same_new ht) upd_same⟩
    · have es : sgn w = -1 := if_neg h
      rw [es] at lo e b2
      tm_at "go"
      refine r_divW (divw (by omega) (by omega)) ?_
      tm_at "go"
      rw [na w]
      refine r_divW (divw (by omega) (by omega)) ?_
      tm_at "go"
      exact ⟨szl rfl, fun t ht => k _ _ t _ lo e b1 b2 (same_new ht) upd_same⟩
theorem ok_pair (F : DefAt K mg "pair_of" s_pair_of) (T : Txt K mg aGround aInv aSh) : DefOk P w K mg base CX0 1 "pair_of" ["value"] (spPair aSh) := by
  refine F.ok sc_pair_of (fun _ _ _ _ _ _ us hl => match us, hl with | [_], _ => rfl) (fun vs H Q E h => ?_) (fun f cdv A outer s H vs Q E hr h => ?_)
  · obtain ⟨y, _, _, rfl, _⟩ := h
    rfl
  · obtain ⟨y, m, e, rfl, hy, k⟩ := h
    refine ⟨_, (pss_one (ps_ret (pe_ifExp (pt_tr K (pe_callB (c_isi K) (by rfl) T.n_isinstance (by decide +kernel) (pa_cons (pv 0) (pa_cons (pe_gR rfl T.m_Share) pa_nil)))) (pe_tup (pa_cons (pe_fl K (pv 0)) (pa_cons (pe_fl K (pv 0)) pa_nil))) (pe_tup (pa_cons (pv 0) (pa_cons pe_int pa_nil)))))), ?_⟩
    rcases hy with ⟨q, rfl, ⟨dx, hq⟩, lo⟩ | ⟨rfl, rfl⟩
    · tm_at "go"
      refine r_isi (.own aSh) (T.tyS _ _ _ _ hq) (if_pos (beq_self_eq_true _)) ?_
      tm_at "go"
      refine r_get hq T.clS T.nP (shF_part _ _) ?_
      tm_at "go"
      refine r_get hq T.clS T.nW (shF_whole _ _) ?_
      tm_at "go"
      exact ⟨szl rfl, fun t ht => k t _ (same_new ht) upd_same⟩
    · tm_at "go"
      refine r_isi (.own aSh) (.base (.int _)) T.kitN ?_
      tm_at "go"
      exact ⟨szl rfl, fun t ht => k t _ (same_new ht) upd_same⟩
theorem ok_Share {aI : Addr} {fdI : FuncData} {dvs : List V} (F : FunD K "__init__" "Share.__init__" (defArgs s_Share__init) (defBody s_Share__init) (defScope s_Share__init) dvs [] aI fdI) (T : Txt K mg aGround aInv aSh)
    (D_in_lowest_terms : DefOk P w K mg base CX0 2 "in_lowest_terms" ["part", "whole"] spLow) (R_InvalidNumbers : ErrOk P w K mg base 1 "InvalidNumbers" aInv ["self", "word"] (spInitF K aInv "word")) :
    FnOk P w K mg base (L2.CX P w) 3 aI fdI ["self", "part", "whole"] (spShI aSh aInv) := by
  refine F.ok sc_Share__init (fun vs H Q E h => ?_) (fun cdv A outer s H vs Q E hr h => ?_)
  · obtain ⟨x, dx, p, w, rfl, _⟩ := h
    rfl
  · obtain ⟨x, dx, p, w, rfl, hx, wb, kN, kY⟩ := h
    refine ⟨_, (pss_cons (ps_if (pt_cmpR (o_eq K hr.units) (pv 2) pe_int (nomark _)) (pss_one (ps_raise rfl (takes_of rfl rfl rfl rfl) (pmkF R_InvalidNumbers (hr.mono (by decide)) rfl (pa_cons pe_str pa_nil))))
  pss_nil)
  (pss_one (ps_asg (pe_callD D_in_lowest_terms (hr.mono (by decide)) pass0 rfl (pa_cons (pv 1) (pa_cons (pv 2) pa_nil))) (pg_t (n := 2) K rfl (pgs_cons (pg_fld K (pv 0)) (pgs_cons (pg_fld K (pv 0)) pgs_nil)))))), ?_⟩
    have RI := R_InvalidNumbers.2.1
    tm_at "go"
    refine r_eq rfl ?_
    tm_at "go"
    refine r_id (fun h => ?_) (fun h => ?_)
    · tm_at "go"
      refine r_mkF (x := .str "whole") RI T.xw ⟨.str "whole", rfl, fun d hd => ?_⟩ fun hh h => hh _ _ h
      exact kN (by simpa using h) d hd
    · have w0 : w ≠ 0 := fun z => h (by rw [z])
      tm_at "go"
      refine ⟨p, w, rfl, w0, wb, fun n d t H' lo e b1 b2 sm ht => ?_⟩
      tm_at "go"
      refine r_gT (SqT.of ht) rfl ?_
      tm_at "go"
      refine r_putG (sm _ _ hx) T.clS T.nP (by decide) ?_
      tm_at "go"
      refine r_putG upd_same T.clS T.nW (Nat.lt_of_le_of_lt (putF_len _) (by decide)) ?_
      tm_at "go"
      refine kY w0 n d _ lo e b1 b2 ?_ upd_same
      exact Kx.set (Kx.set ((Kx.refl).same sm))
end
section
variable {K : PySem.W.Frag}
theorem ok_add (F : MetAt K aSh "__add__" "Share.__add__" s_Share__add) (T : Txt K mg aGround aInv aSh) (D_pair_of : DefOk P w K mg base CX0 1 "pair_of" ["value"] (spPair aSh)) (M_Share : MakeOk P w K mg base (L2.CX P w) 3 "Share" aSh ["self", "part", "whole"] [] (spShI aSh aInv)) : MetOk P w K mg base CX0 5 aSh "__add__" ["self", "other"] (spOp aSh fun n d m e => n * e + m * d) := by
  refine F.ok sc_Share__add (fun _ _ _ _ _ _ us hl => match us, hl with | [_, _], _ => rfl) (fun vs H Q E h => ?_) (fun f cdv A outer s H vs Q E hr h => ?_)
  · obtain ⟨x, y, _, _, _, _, rfl, _⟩ := h
    rfl
  · obtain ⟨x, y, n, d, m, e, rfl, hx, hy, d1, e1, de, mb, k⟩ := h
    have d0 := hx.2.pos
    have e0 := hy.low.pos
    have de0 : 0 < d * e := Int.mul_pos (by omega) (by omega)
    refine ⟨_, (pss_cons (ps_asg (pe_callD D_pair_of (hr.mono (by decide)) pass0 rfl (pa_cons (pv 1) pa_nil)) (pg_t (n := 2) K rfl (pgs_cons (pg_name (i := 2) sc_Share__add.nd rfl (Or.inl rfl)) (pgs_cons (pg_name (i := 3) sc_Share__add.nd rfl (Or.inl rfl)) pgs_nil))))
  (pss_one (ps_ret (pe_makeD M_Share (hr.mono (by decide)) passF rfl (pa_cons (pe_op (o_add K) (pe_op o_mul (pe_fl K (pv 0)) (pv 3)) (pe_op o_mul (pv 2) (pe_fl K (pv 0)))) (pa_cons (pe_op o_mul (pe_fl K (pv 0)) (pv 3)) pa_nil)))))), ?_⟩
    tm_at "go"
    refine ⟨y, m, e, rfl, hy, fun t H1 s1 ht => ?_⟩
    tm_at "go"
    refine r_gT (SqT.of ht) rfl ?_
    obtain ⟨dx, hx'⟩ := (hx.mono s1).1
    repeat first
      | tm_at "r2"
      | refine r_get hx' T.clS T.nP (shF_part _ _) ?_
      | refine r_get hx' T.clS T.nW (shF_whole _ _) ?_
      | refine r_mul (cmulR ⟨by omega, by omega⟩) ?_
      | fail
    refine r_share (by omega) (by omega) fun x n' d' H' eq b1 b2 s2 hn sh => ?_
    tm_at "go"
    exact k x n' d' H' eq b1 b2 (s1.trans s2) (Same.free s1 hn) sh
theorem ok_radd (F : MetAt K aSh "__radd__" "Share.__radd__" s_Share__radd) (T : Txt K mg aGround aInv aSh) (D_pair_of : DefOk P w K mg base CX0 1 "pair_of" ["value"] (spPair aSh)) (M_Share : MakeOk P w K mg base (L2.CX P w) 3 "Share" aSh ["self", "part", "whole"] [] (spShI aSh aInv)) : MetOk P w K mg base CX0 5 aSh "__radd__" ["self", "other"] (spOp aSh fun n d m e => n * e + m * d) := by
  refine F.ok sc_Share__radd (fun _ _ _ _ _ _ us hl => match us, hl with | [_, _], _ => rfl) (fun vs H Q E h => ?_) (fun f cdv A outer s H vs Q E hr h => ?_)
  · obtain ⟨x, y, _, _, _, _, rfl, _⟩ := h
    rfl
  · obtain ⟨x, y, n, d, m, e, rfl, hx, hy, d1, e1, de, mb, k⟩ := h
    have d0 := hx.2.pos
    have e0 := hy.low.pos
    have de0 : 0 < d * e := Int.mul_pos (by omega) (by omega)
    refine ⟨_, (pss_cons (ps_asg (pe_callD D_pair_of (hr.mono (by decide)) pass0 rfl (pa_cons (pv 1) pa_nil)) (pg_t (n := 2) K rfl (pgs_cons (pg_name (i := 2) sc_Share__radd.nd rfl (Or.inl rfl)) (pgs_cons (pg_name (i := 3) sc_Share__radd.nd rfl (Or.inl rfl)) pgs_nil))))
  (pss_one (ps_ret (pe_makeD M_Share (hr.mono (by decide)) passF rfl (pa_cons (pe_op (o_add K) (pe_op o_mul (pe_fl K (pv 0)) (pv 3)) (pe_op o_mul (pv 2) (pe_fl K (pv 0)))) (pa_cons (pe_op o_mul (pe_fl K (pv 0)) (pv 3)) pa_nil)))))), ?_⟩
    tm_at "go"
    refine ⟨y, m, e, rfl, hy, fun t H1 s1 ht => ?_⟩
    tm_at "go"
    refine r_gT (SqT.of ht) rfl ?_
    obtain ⟨dx, hx'⟩ := (hx.mono s1).1
    repeat first
      | tm_at "r2"
      | refine r_get hx' T.clS T.nP (shF_part _ _) ?_
      | refine r_get hx' T.clS T.nW (shF_whole _ _) ?_
      | refine r_mul (cmulR ⟨by omega, by omega⟩) ?_
      | fail
    refine r_share (by omega) (by omega) fun x n' d' H' eq b1 b2 s2 hn sh => ?_
    tm_at "go"
    exact k x n' d' H' eq b1 b2 (s1.trans s2) (Same.free s1 hn) sh
theorem ok_sub (F : MetAt K aSh "__sub__" "Share.__sub__" s_Share__sub) (T : Txt K mg aGround aInv aSh) (D_pair_of : DefOk P w K mg base CX0 1 "pair_of" ["value"] (spPair aSh)) (M_Share : MakeOk P w K mg base (L2.CX P w) 3 "Share" aSh ["self", "part", "whole"] [] (spShI aSh aInv)) : MetOk P w K mg base CX0 5 aSh "__sub__" ["self", "other"] (spOp aSh fun n d m e => n * e - m * d) := by
  refine F.ok sc_Share__sub (fun _ _ _ _ _ _ us hl => match us, hl with | [_, _], _ => rfl) (fun vs H Q E h => ?_) (fun f cdv A outer s H vs Q E hr h => ?_)
  · obtain ⟨x, y, _, _, _, _, rfl, _⟩ := h
    rfl
  · obtain ⟨x, y, n, d, m, e, rfl, hx, hy, d1, e1, de, mb, k⟩ := h
    have d0 := hx.2.pos
    have e0 := hy.low.pos
    have de0 : 0 < d * e := Int.mul_pos (by omega) (by omega)
    refine ⟨_, (pss_cons (ps_asg (pe_callD D_pair_of (hr.mono (by decide)) pass0 rfl (pa_cons (pv 1) pa_nil)) (pg_t (n := 2) K rfl (pgs_cons (pg_name (i := 2) sc_Share__sub.nd rfl (Or.inl rfl)) (pgs_cons (pg_name (i := 3) sc_Share__sub.nd rfl (Or.inl rfl)) pgs_nil))))
  (pss_one (ps_ret (pe_makeD M_Share (hr.mono (by decide)) passF rfl (pa_cons (pe_op o_sub (pe_op o_mul (pe_fl K (pv 0)) (pv 3)) (pe_op o_mul (pv 2) (pe_fl K (pv 0)))) (pa_cons (pe_op o_mul (pe_fl K (pv 0)) (pv 3)) pa_nil)))))), ?_⟩
    tm_at "go"
    refine ⟨y, m, e, rfl, hy, fun t H1 s1 ht => ?_⟩
    tm_at "go"
    refine r_gT (SqT.of ht) rfl ?_
    obtain ⟨dx, hx'⟩ := (hx.mono s1).1
    repeat first
      | tm_at "r2"
      | refine r_get hx' T.clS T.nP (shF_part _ _) ?_
      | refine r_get hx' T.clS T.nW (shF_whole _ _) ?_
      | refine r_mul (cmulR ⟨by omega, by omega⟩) ?_
      | fail
    refine r_share (by omega) (by omega) fun x n' d' H' eq b1 b2 s2 hn sh => ?_
    tm_at "go"
    exact k x n' d' H' eq b1 b2 (s1.trans s2) (Same.free s1 hn) sh
theorem ok_rsub (F : MetAt K aSh "__rsub__" "Share.__rsub__" s_Share__rsub) (T : Txt K mg aGround aInv aSh) (D_pair_of : DefOk P w K mg base CX0 1 "pair_of" ["value"] (spPair aSh)) (M_Share : MakeOk P w K mg base (L2.CX P w) 3 "Share" aSh ["self", "part", "whole"] [] (spShI aSh aInv)) : MetOk P w K mg base CX0 5 aSh "__rsub__" ["self", "other"] (spOp aSh fun n d m e => m * d - n * e) := by
  refine F.ok sc_Share__rsub (fun _ _ _ _ _ _ us hl => match us, hl with | [_, _], _ => rfl) (fun vs H Q E h => ?_) (fun f cdv A outer s H vs Q E hr h => ?_)
  · obtain ⟨x, y, _, _, _, _, rfl, _⟩ := h
    rfl
  · obtain ⟨x, y, n, d, m, e, rfl, hx, hy, d1, e1, de, mb, k⟩ := h
    have d0 := hx.2.pos
    have e0 := hy.low.pos
    have de0 : 0 < d * e := Int.mul_pos (by omega) (by omega)
    refine ⟨_, (pss_cons (ps_asg (pe_callD D_pair_of (hr.mono (by decide)) pass0 rfl (pa_cons (pv 1) pa_nil)) (pg_t (n := 2) K rfl (pgs_cons (pg_name (i := 2) sc_Share__rsub.nd rfl (Or.inl rfl)) (pgs_cons (pg_name (i := 3) sc_Share__rsub.nd rfl (Or.inl rfl)) pgs_nil))))
  (pss_one (ps_ret (pe_makeD M_Share (hr.mono (by decide)) passF rfl (pa_cons (pe_op o_sub (pe_op o_mul (pv 2) (pe_fl K (pv 0))) (pe_op o_mul (pe_fl K (pv 0)) (pv 3))) (pa_cons (pe_op o_mul (pe_fl K (pv 0)) (pv 3)) pa_nil)))))), ?_⟩
    tm_at "go"
    refine ⟨y, m, e, rfl, hy, fun t H1 s1 ht => ?_⟩
    tm_at "go"
    refine r_gT (SqT.of ht) rfl ?_
    obtain ⟨dx, hx'⟩ := (hx.mono s1).1
    repeat first
      | tm_at "r2"
      | refine r_get hx' T.clS T.nP (shF_part _ _) ?_
      | refine r_get hx' T.clS T.nW (shF_whole _ _) ?_
      | refine r_mul (cmulR ⟨by omega, by omega⟩) ?_
      | fail
    refine r_share (by omega) (by omega) fun x n' d' H' eq b1 b2 s2 hn sh => ?_
    tm_at "go"
    exact k x n' d' H' eq b1 b2 (s1.trans s2) (Same.free s1 hn) sh
theorem ok_mul (F : MetAt K aSh "__mul__" "Share.__mul__" s_Share__mul) (T : Txt K mg aGround aInv aSh) (D_pair_of : DefOk P w K mg base CX0 1 "pair_of" ["value"] (spPair aSh)) (M_Share : MakeOk P w K mg base (L2.CX P w) 3 "Share" aSh ["self", "part", "whole"] [] (spShI aSh aInv)) : MetOk P w K mg base CX0 5 aSh "__mul__" ["self", "other"] (spOp aSh fun n d m e => n * m) := by
  refine F.ok sc_Share__mul (fun _ _ _ _ _ _ us hl => match us, hl with | [_, _], _ => rfl) (fun vs H Q E h => ?_) (fun f cdv A outer s H vs Q E hr h => ?_)
  · obtain ⟨x, y, _, _, _, _, rfl, _⟩ := h
    rfl
  · obtain ⟨x, y, n, d, m, e, rfl, hx, hy, d1, e1, de, mb, k⟩ := h
    have d0 := hx.2.pos
    have e0 := hy.low.pos
    have de0 : 0 < d * e := Int.mul_pos (by omega) (by omega)
    refine ⟨_, (pss_cons (ps_asg (pe_callD D_pair_of (hr.mono (by decide)) pass0 rfl (pa_cons (pv 1) pa_nil)) (pg_t (n := 2) K rfl (pgs_cons (pg_name (i := 2) sc_Share__mul.nd rfl (Or.inl rfl)) (pgs_cons (pg_name (i := 3) sc_Share__mul.nd rfl (Or.inl rfl)) pgs_nil))))
  (pss_one (ps_ret (pe_makeD M_Share (hr.mono (by decide)) passF rfl (pa_cons (pe_op o_mul (pe_fl K (pv 0)) (pv 2)) (pa_cons (pe_op o_mul (pe_fl K (pv 0)) (pv 3)) pa_nil)))))), ?_⟩
    tm_at "go"
    refine ⟨y, m, e, rfl, hy, fun t H1 s1 ht => ?_⟩
    tm_at "go"
    refine r_gT (SqT.of ht) rfl ?_
    obtain ⟨dx, hx'⟩ := (hx.mono s1).1
    repeat first
      | tm_at "r2"
      | refine r_get hx' T.clS T.nP (shF_part _ _) ?_
      | refine r_get hx' T.clS T.nW (shF_whole _ _) ?_
      | refine r_mul (cmulR ⟨by omega, by omega⟩) ?_
      | fail
    refine r_share (by omega) (by omega) fun x n' d' H' eq b1 b2 s2 hn sh => ?_
    tm_at "go"
    exact k x n' d' H' eq b1 b2 (s1.trans s2) (Same.free s1 hn) sh
theorem ok_rmul (F : MetAt K aSh "__rmul__" "Share.__rmul__" s_Share__rmul) (T : Txt K mg aGround aInv aSh) (D_pair_of : DefOk P w K mg base CX0 1 "pair_of" ["value"] (spPair aSh)) (M_Share : MakeOk P w K mg base (L2.CX P w) 3 "Share" aSh ["self", "part", "whole"] [] (spShI aSh aInv)) : MetOk P w K mg base CX0 5 aSh "__rmul__" ["self", "other"] (spOp aSh fun n d m e => n * m) := by
  refine F.ok sc_Share__rmul (fun _ _ _ _ _ _ us hl => match us, hl with | [_, _], _ => rfl) (fun vs H Q E h => ?_) (fun f cdv A outer s H vs Q E hr h => ?_)
  · obtain ⟨x, y, _, _, _, _, rfl, _⟩ := h
    rfl
  · obtain ⟨x, y, n, d, m, e, rfl, hx, hy, d1, e1, de, mb, k⟩ := h
    have d0 := hx.2.pos
    have e0 := hy.low.pos
    have de0 : 0 < d * e := Int.mul_pos (by omega) (by omega)
    refine ⟨_, (pss_cons (ps_asg (pe_callD D_pair_of (hr.mono (by decide)) pass0 rfl (pa_cons (pv 1) pa_nil)) (pg_t (n := 2) K rfl (pgs_cons (pg_name (i := 2) sc_Share__rmul.nd rfl (Or.inl rfl)) (pgs_cons (pg_name (i := 3) sc_Share__rmul.nd rfl (Or.inl rfl)) pgs_nil))))
  (pss_one (ps_ret (pe_makeD M_Share (hr.mono (by decide)) passF rfl (pa_cons (pe_op o_mul (pe_fl K (pv 0)) (pv 2)) (pa_cons (pe_op o_mul (pe_fl K (pv 0)) (pv 3)) pa_nil)))))), ?_⟩
    tm_at "go"
    refine ⟨y, m, e, rfl, hy, fun t H1 s1 ht => ?_⟩
    tm_at "go"
    refine r_gT (SqT.of ht) rfl ?_
    obtain ⟨dx, hx'⟩ := (hx.mono s1).1
    repeat first
      | tm_at "r2"
      | refine r_get hx' T.clS T.nP (shF_part _ _) ?_
      | refine r_get hx' T.clS T.nW (shF_whole _ _) ?_
      | refine r_mul (cmulR ⟨by omega, by omega⟩) ?_
      | fail
    refine r_share (by omega) (by omega) fun x n' d' H' eq b1 b2 s2 hn sh => ?_
    tm_at "go"
    exact k x n' d' H' eq b1 b2 (s1.trans s2) (Same.free s1 hn) sh
theorem ok_lt (F : MetAt K aSh "__lt__" "Share.__lt__" s_Share__lt) (T : Txt K mg aGround aInv aSh) (D_pair_of : DefOk P w K mg base CX0 1 "pair_of" ["value"] (spPair aSh)) : MetOk P w K mg base CX0 2 aSh "__lt__" ["self", "other"] (spCmp aSh fun a b => decide (a < b)) := by
  refine F.ok sc_Share__lt (fun _ _ _ _ _ _ us hl => match us, hl with | [_, _], _ => rfl) (fun vs H Q E h => ?_) (fun f cdv A outer s H vs Q E hr h => ?_)
  · obtain ⟨x, y, _, _, _, _, rfl, _⟩ := h
    rfl
  · obtain ⟨x, y, n, d, m, e, rfl, hx, hy, d1, e1, k⟩ := h
    have d0 := hx.2.pos
    have e0 := hy.low.pos
    refine ⟨_, (pss_cons (ps_asg (pe_callD D_pair_of (hr.mono (by decide)) pass0 rfl (pa_cons (pv 1) pa_nil)) (pg_t (n := 2) K rfl (pgs_cons (pg_name (i := 2) sc_Share__lt.nd rfl (Or.inl rfl)) (pgs_cons (pg_name (i := 3) sc_Share__lt.nd rfl (Or.inl rfl)) pgs_nil))))
  (pss_one (ps_ret (pe_cmpR o_lt (pe_op o_mul (pe_fl K (pv 0)) (pv 3)) (pe_op o_mul (pv 2) (pe_fl K (pv 0))) (nomark _))))), ?_⟩
    tm_at "go"
    refine ⟨y, m, e, rfl, hy, fun t H1 s1 ht => ?_⟩
    tm_at "go"
    refine r_gT (SqT.of ht) rfl ?_
    obtain ⟨dx, hx'⟩ := (hx.mono s1).1
    repeat first
      | tm_at "r2"
      | refine r_get hx' T.clS T.nP (shF_part _ _) ?_
      | refine r_get hx' T.clS T.nW (shF_whole _ _) ?_
      | refine r_mul (cmulR ⟨by omega, by omega⟩) ?_
      | fail
    exact k H1 s1
theorem ok_le (F : MetAt K aSh "__le__" "Share.__le__" s_Share__le) (T : Txt K mg aGround aInv aSh) (D_pair_of : DefOk P w K mg base CX0 1 "pair_of" ["value"] (spPair aSh)) : MetOk P w K mg base CX0 2 aSh "__le__" ["self", "other"] (spCmp aSh fun a b => decide (a ≤ b)) := by
  refine F.ok sc_Share__le (fun _ _ _ _ _ _ us hl => match us, hl with | [_, _], _ => rfl) (fun vs H Q E h => ?_) (fun f cdv A outer s H vs Q E hr h => ?_)
  · obtain ⟨x, y, _, _, _, _, rfl, _⟩ := h
    rfl
  · obtain ⟨x, y, n, d, m, e, rfl, hx, hy, d1, e1, k⟩ := h
    have d0 := hx.2.pos
    have e0 := hy.low.pos
    refine ⟨_, (pss_cons (ps_asg (pe_callD D_pair_of (hr.mono (by decide)) pass0 rfl (pa_cons (pv 1) pa_nil)) (pg_t (n := 2) K rfl (pgs_cons (pg_name (i := 2) sc_Share__le.nd rfl (Or.inl rfl)) (pgs_cons (pg_name (i := 3) sc_Share__le.nd rfl (Or.inl rfl)) pgs_nil))))
  (pss_one (ps_ret (pe_cmpR o_le (pe_op o_mul (pe_fl K (pv 0)) (pv 3)) (pe_op o_mul (pv 2) (pe_fl K (pv 0))) (nomark _))))), ?_⟩
    tm_at "go"
    refine ⟨y, m, e, rfl, hy, fun t H1 s1 ht => ?_⟩
    tm_at "go"
    refine r_gT (SqT.of ht) rfl ?_
    obtain ⟨dx, hx'⟩ := (hx.mono s1).1
    repeat first
      | tm_at "r2"
      | refine r_get hx' T.clS T.nP (shF_part _ _) ?_
      | refine r_get hx' T.clS T.nW (shF_whole _ _) ?_
      | refine r_mul (cmulR ⟨by omega, by omega⟩) ?_
      | fail
    exact k H1 s1
theorem ok_gt (F : MetAt K aSh "__gt__" "Share.__gt__" s_Share__gt) (T : Txt K mg aGround aInv aSh) (D_pair_of : DefOk P w K mg base CX0 1 "pair_of" ["value"] (spPair aSh)) : MetOk P w K mg base CX0 2 aSh "__gt__" ["self", "other"] (spCmp aSh fun a b => decide (a > b)) := by
  refine F.ok sc_Share__gt (fun _ _ _ _ _ _ us hl => match us, hl with | [_, _], _ => rfl) (fun vs H Q E h => ?_) (fun f cdv A outer s H vs Q E hr h => ?_)
  · obtain ⟨x, y, _, _, _, _, rfl, _⟩ := h
    rfl
  · obtain ⟨x, y, n, d, m, e, rfl, hx, hy, d1, e1, k⟩ := h
    have d0 := hx.2.pos
    have e0 := hy.low.pos
    refine ⟨_, (pss_cons (ps_asg (pe_callD D_pair_of (hr.mono (by decide)) pass0 rfl (pa_cons (pv 1) pa_nil)) (pg_t (n := 2) K rfl (pgs_cons (pg_name (i := 2) sc_Share__gt.nd rfl (Or.inl rfl)) (pgs_cons (pg_name (i := 3) sc_Share__gt.nd rfl (Or.inl rfl)) pgs_nil))))
  (pss_one (ps_ret (pe_cmpR o_gt (pe_op o_mul (pe_fl K (pv 0)) (pv 3)) (pe_op o_mul (pv 2) (pe_fl K (pv 0))) (nomark _))))), ?_⟩
    tm_at "go"
    refine ⟨y, m, e, rfl, hy, fun t H1 s1 ht => ?_⟩
    tm_at "go"
    refine r_gT (SqT.of ht) rfl ?_
    obtain ⟨dx, hx'⟩ := (hx.mono s1).1
    repeat first
      | tm_at "r2"
      | refine r_get hx' T.clS T.nP (shF_part _ _) ?_
      | refine r_get hx' T.clS T.nW (shF_whole _ _) ?_
      | refine r_mul (cmulR ⟨by omega, by omega⟩) ?_
      | fail
    exact k H1 s1
theorem ok_ge (F : MetAt K aSh "__ge__" "Share.__ge__" s_Share__ge) (T : Txt K mg aGround aInv aSh) (D_pair_of : DefOk P w K mg base CX0 1 "pair_of" ["value"] (spPair aSh)) : MetOk P w K mg base CX0 2 aSh "__ge__" ["self", "other"] (spCmp aSh fun a b => decide (a ≥ b)) := by
  refine F.ok sc_Share__ge (fun _ _ _ _ _ _ us hl => match us, hl with | [_, _], _ => rfl) (fun vs H Q E h => ?_) (fun f cdv A outer s H vs Q E hr h => ?_)
  · obtain ⟨x, y, _, _, _, _, rfl, _⟩ := h
    rfl
  · obtain ⟨x, y, n, d, m, e, rfl, hx, hy, d1, e1, k⟩ := h
    have d0 := hx.2.pos
    have e0 := hy.low.pos
    refine ⟨_, (pss_cons (ps_asg (pe_callD D_pair_of (hr.mono (by decide)) pass0 rfl (pa_cons (pv 1) pa_nil)) (pg_t (n := 2) K rfl (pgs_cons (pg_name (i := 2) sc_Share__ge.nd rfl (Or.inl rfl)) (pgs_cons (pg_name (i := 3) sc_Share__ge.nd rfl (Or.inl rfl)) pgs_nil))))
  (pss_one (ps_ret (pe_cmpR o_ge (pe_op o_mul (pe_fl K (pv 0)) (pv 3)) (pe_op o_mul (pv 2) (pe_fl K (pv 0))) (nomark _))))), ?_⟩
    tm_at "go"
    refine ⟨y, m, e, rfl, hy, fun t H1 s1 ht => ?_⟩
    tm_at "go"
    refine r_gT (SqT.of ht) rfl ?_
    obtain ⟨dx, hx'⟩ := (hx.mono s1).1
    repeat first
      | tm_at "r2"
      | refine r_get hx' T.clS T.nP (shF_part _ _) ?_
      | refine r_get hx' T.clS T.nW (shF_whole _ _) ?_
      | refine r_mul (cmulR ⟨by omega, by omega⟩) ?_
      | fail
    exact k H1 s1
theorem ok_neg (F : MetAt K aSh "__neg__" "Share.__neg__" s_Share__neg) (T : Txt K mg aGround aInv aSh) (M_Share : MakeOk P w K mg base (L2.CX P w) 3 "Share" aSh ["self", "part", "whole"] [] (spShI aSh aInv)) : MetOk P w K mg base CX0 5 aSh "__neg__" ["self"] (spNeg aSh) := by
  refine F.ok sc_Share__neg (fun _ _ _ _ _ _ us hl => match us, hl with | [_], _ => rfl) (fun vs H Q E h => ?_) (fun f cdv A outer s H vs Q E hr h => ?_)
  · obtain ⟨x, _, _, rfl, _⟩ := h
    rfl
  · obtain ⟨x, n, d, rfl, hx, d1, k⟩ := h
    have d0 := hx.2.pos
    refine ⟨_, (pss_one (ps_ret (pe_makeD M_Share (hr.mono (by decide)) passF rfl (pa_cons (pe_un un_neg (pe_fl K (pv 0))) (pa_cons (pe_fl K (pv 0)) pa_nil))))), ?_⟩
    obtain ⟨dx, hx'⟩ := hx.1
    repeat first
      | tm_at "r2"
      | refine r_get hx' T.clS T.nP (shF_part _ _) ?_
      | refine r_get hx' T.clS T.nW (shF_whole _ _) ?_
      | refine r_mul (cmulR ⟨by omega, by omega⟩) ?_
      | fail
    refine r_share (by omega) (by omega) fun x n' d' H' eq b1 b2 s2 hn sh => ?_
    tm_at "go"
    exact k x n' d' H' eq b1 s2 hn sh
theorem eqv_ii (n d m e : Int) : PyData.eqv (.tuple [.int n, .int d]) (.tuple [.int m, .int e]) = decide (n = m ∧ d = e) := by
  simp [PyData.eqv, PyData.eqvAll]
  rfl
theorem shp_ii (n d : Int) : SeqAt.shaped (.tuple [.int n, .int d]) = true := by
  unfold SeqAt.shaped
  simp [PyData.canLay0, PyData.canLayAll0, PyData.depth, PyData.depthAll]
theorem ok_eq (F : MetAt K aSh "__eq__" "Share.__eq__" s_Share__eq) (T : Txt K mg aGround aInv aSh) : MetOk P w K mg base CX0 1 aSh "__eq__" ["self", "other"] (spEqS aSh) := by
  refine F.ok sc_Share__eq (fun _ _ _ _ _ _ us hl => match us, hl with | [_, _], _ => rfl) (fun vs H Q E h => ?_) (fun f cdv A outer s H vs Q E hr h => ?_)
  · obtain ⟨x, y, _, _, _, _, rfl, _⟩ := h
    rfl
  · obtain ⟨x, y, n, d, m, e, rfl, hx, hy, k⟩ := h
    refine ⟨_, (pss_one (ps_ret (pe_and (pe_callB (c_isi K) (by rfl) T.n_isinstance (by decide +kernel) (pa_cons (pv 1) (pa_cons (pe_gR rfl T.m_Share) pa_nil))) (pe_one (pe_cmpR (o_eq K hr.units) (pe_tup (pa_cons (pe_fl K (pv 0)) (pa_cons (pe_fl K (pv 0)) pa_nil))) (pe_tup (pa_cons (pe_fl K (pv 1)) (pa_cons (pe_fl K (pv 1)) pa_nil))) (nomark _)))))), ?_⟩
    obtain ⟨dx, hx'⟩ := hx.1
    tm_at "go"
    rcases hy with ⟨q, rfl, ⟨dy, hq⟩, lo⟩ | ⟨rfl, rfl⟩
    · refine r_isi (.own aSh) (T.tyS _ _ _ _ hq) (if_pos (beq_self_eq_true _)) ?_
      repeat first
        | tm_at "r2"
        | refine r_get hx' T.clS T.nP (shF_part _ _) ?_
        | refine r_get hx' T.clS T.nW (shF_whole _ _) ?_
        | fail
      refine ⟨szl rfl, fun t ht => ?_⟩
      have s1 : Same H (upd H t (.tup [.int n, .int d])) := same_new ht
      have ht1 : (upd H t (.tup [.int n, .int d])) t = some (.tup [.int n, .int d]) := upd_same
      generalize upd H t (.tup [.int n, .int d]) = H1 at s1 ht1 ⊢
      have hq1 := s1 _ _ hq
      repeat first
        | tm_at "r2"
        | refine r_get hq1 T.clS T.nP (shF_part _ _) ?_
        | refine r_get hq1 T.clS T.nW (shF_whole _ _) ?_
        | fail
      refine ⟨szl rfl, fun t2 ht2 => ?_⟩
      have s2 : Same H1 (upd H1 t2 (.tup [.int m, .int e])) := same_new ht2
      refine r_eqD (.tup (SqT.of (s2 _ _ ht1)) (.cons (.int n) (.cons (.int d) .nil))) (.tup (SqT.of upd_same) (.cons (.int m) (.cons (.int e) .nil))) (shp_ii _ _) (shp_ii _ _) ?_
      tm_at "go"
      rw [eqv_ii]
      exact k _ (s1.trans s2)
    · refine r_isi (.own aSh) (.base (.int _)) T.kitN ?_
      tm_at "go"
      exact k _ Same.refl
def numT (i : Int) : Str := toString i
theorem lg30 {i : Int} (h : i.natAbs < 10 ^ 30) : i.natAbs.log2 < 1920 := by
  by_cases h0 : i.natAbs = 0
  · rw [h0]; decide
  · refine (Nat.log2_lt h0).mpr (Nat.lt_trans h (by decide +kernel))
theorem numT_len {i : Int} (h : i.natAbs < 10 ^ 30) : (numT i).length ≤ 40 := by
  have e := int_text_length_le10 (k := 30) (by decide) h
  refine Nat.le_trans ?_ (Nat.le_trans e (by decide))
  exact Nat.le_of_eq (PySem.ofString_length _)
theorem app_len (a b : Str) : (a ++ b).length = a.length + b.length := by
  rw [TL.len_tl, TL.len_tl, TL.len_tl, TL.tl_append, List.length_append]
theorem empty_app (x : Str) : Str.empty ++ x = x := by
  cases x
  show Str.mk _ = _
  simp [Str.empty]
def shS (n d : Int) : Str := if d = 1 then numT n else numT n ++ "/" ++ numT d
def spStrS (aSh : Addr) : Sp := fun vs H Q _ => ∃ x n d, vs = [.ref x] ∧ ShAt aSh H x n d ∧ n.natAbs < 10 ^ 30 ∧ d.natAbs < 10 ^ 30 ∧ Q (.str (shS n d)) H
theorem ok_str (F : MetAt K aSh "__str__" "Share.__str__" s_Share__str) (T : Txt K mg aGround aInv aSh) : MetOk P w K mg base CX0 1 aSh "__str__" ["self"] (spStrS aSh) := by
  refine F.ok sc_Share__str (fun _ _ _ _ _ _ us hl => match us, hl with | [_], _ => rfl) (fun vs H Q E h => ?_) (fun f cdv A outer s H vs Q E hr h => ?_)
  · obtain ⟨x, _, _, rfl, _⟩ := h
    rfl
  · obtain ⟨x, n, d, rfl, hx, nb, db, k⟩ := h
    refine ⟨_, (pss_cons (ps_if (pt_cmpR (o_eq K hr.units) (pe_fl K (pv 0)) pe_int (nomark _)) (pss_one (ps_ret (pe_joined1 (pe_fmt (pe_fl K (pv 0))))))
  pss_nil)
  (pss_one (ps_ret (pe_fs (.cons (pe_fmt (pe_fl K (pv 0))) (.cons pe_str (.cons (pe_fmt (pe_fl K (pv 0))) .nil))))))), ?_⟩
    obtain ⟨dx, hx'⟩ := hx.1
    repeat first
      | tm_at "r2"
      | refine r_get hx' T.clS T.nP (shF_part _ _) ?_
      | refine r_get hx' T.clS T.nW (shF_whole _ _) ?_
      | refine r_mul (cmulR ⟨by omega, by omega⟩) ?_
      | fail
    refine r_eq rfl ?_
    tm_at "go"
    have z1 := numT_len nb
    have z2 := numT_len db
    by_cases d1 : d = 1
    · rw [show shS n d = numT n from if_pos d1] at k
      refine r_Td (by rw [d1]) ?_
      tm_at "go"
      refine r_get hx' T.clS T.nP (shF_part _ _) ?_
      exact r_fmI (lg30 nb) k
    · rw [show shS n d = numT n ++ "/" ++ numT d from if_neg d1] at k
      refine r_Fd (fun z => d1 (V.int.inj z)) ?_
      tm_at "go"
      refine r_get hx' T.clS T.nP (shF_part _ _) ?_
      refine r_fmI (lg30 nb) ?_
      have e0 : Str.empty.length = 0 := by decide +kernel
      have e1 : ("/" : Str).length = 1 := by decide +kernel
      refine r_jy (y := numT n) (by rw [app_len, e0]; exact sz (by omega)) ?_
      tm_at "go"
      refine r_jy (by rw [app_len, app_len, e0, e1]; exact sz (by omega)) ?_
      tm_at "go"
      refine r_get hx' T.clS T.nW (shF_whole _ _) ?_
      refine r_fmI (lg30 db) ?_
      refine r_jy (y := numT d) (by rw [app_len, app_len, app_len, e0, e1]; exact sz (by omega)) ?_
      tm_at "go"
      rw [empty_app]
      exact k
end
theorem neSelf (v : V) : (!decide (v = v)) = false := by rw [decide_eq_true rfl]; rfl
section
variable {H : Hp} {Q : VK} {E : XK} {f : Int → Int → Int → Int → Int} {x y : Addr} {n d m e i : Int}
abbrev KOp (aSh : Addr) (H : Hp) (Q : VK) (f : Int → Int → Int → Int → Int) (n d m e : Int) : Prop := ∀ (z : Addr) (a b : Int) (H' : Hp), a * (d * e) = f n d m e * b → b.natAbs ≤ (d * e).natAbs → a.natAbs ≤ (f n d m e).natAbs → Same H H' → H z = none → ShAt aSh H' z a b → Q (.ref z) H'
theorem r_opB (hX : ShAt aSh H x n d) (hY : ShAt aSh H y m e) (d1 : d < 10000000000000000000) (e1 : e < 10000000000000000000) (de : d * e < 10000000000000000000) (mb : m.natAbs < 10000000000000000000) (k : KOp aSh H Q f n d m e) : rOwn aSh (spOp aSh f) E (.ref x) (.ref y) H Q :=
  let ⟨dx, hx⟩ := hX.1
  let ⟨dy, hy⟩ := hY.1
  r_ownB hx hy ⟨x, .ref y, n, d, m, e, rfl, hX, .inl ⟨y, rfl, hY⟩, d1, e1, de, mb, k⟩
theorem r_opI (hX : ShAt aSh H x n d) (d1 : d < 10000000000000000000) (mb : i.natAbs < 10000000000000000000) (k : KOp aSh H Q f n d i 1) : rOwnI aSh (spOp aSh f) E (.ref x) (.int i) H Q :=
  let ⟨dx, hx⟩ := hX.1
  r_ownI hx ⟨x, .int i, n, d, i, 1, rfl, hX, .inr ⟨rfl, rfl⟩, d1, by decide, by omega, mb, k⟩
theorem r_iop (hX : ShAt aSh H x n d) (d1 : d < 10000000000000000000) (mb : i.natAbs < 10000000000000000000) (k : KOp aSh H Q f n d i 1) : rIOwn aSh (spOp aSh f) E (.int i) (.ref x) H Q :=
  let ⟨dx, hx⟩ := hX.1
  r_iOwn hx ⟨x, .int i, n, d, i, 1, rfl, hX, .inr ⟨rfl, rfl⟩, d1, by decide, by omega, mb, k⟩
theorem r_opN (hX : ShAt aSh H x n d) (d1 : d < 10000000000000000000) (k : ∀ (z : Addr) (a b : Int) (H' : Hp), a * d = -n * b → b.natAbs ≤ d.natAbs → Same H H' → H z = none → ShAt aSh H' z a b → Q (.ref z) H') : rUnOwn aSh (spNeg aSh) E (.ref x) H Q :=
  let ⟨dx, hx⟩ := hX.1
  r_unOwn hx ⟨x, n, d, rfl, hX, d1, k⟩
theorem r_cmpB {r : Int → Int → Bool} {K : PySem.W.Frag} (hX : ShAt aSh H x n d) (hY : ShAt aSh H y m e) (ty : ∀ (H : Hp) (e : Addr) (dx : Addr) (fs : List (Str × V)), H e = some (.ins aSh dx fs) → TyX K H (.ref e) (.ref aSh)) (d1 : d < 10000000000000000000) (e1 : e < 10000000000000000000)
    (k : ∀ H', Same H H' → Q (.bl (r (n * e) (m * d))) H') : rCmpA K aSh (spCmp aSh r) E (.ref x) (.ref y) H Q :=
  let ⟨dx, hx⟩ := hX.1
  let ⟨dy, hy⟩ := hY.1
  r_cmpA hx (ty _ _ _ _ hy) nf_self ⟨x, .ref y, n, d, m, e, rfl, hX, .inl ⟨y, rfl, hY⟩, d1, e1, k⟩
theorem r_cmpI {r : Int → Int → Bool} {K : PySem.W.Frag} (hX : ShAt aSh H x n d) (s1 : PySem.W.subIn K (.type "int") (.ref aSh) = some false) (d1 : d < 10000000000000000000)
    (k : ∀ H', Same H H' → Q (.bl (r (n * 1) (i * d))) H') : rCmpA K aSh (spCmp aSh r) E (.ref x) (.int i) H Q :=
  let ⟨dx, hx⟩ := hX.1
  r_cmpA hx (.base (.int _)) (nf_ty s1) ⟨x, .int i, n, d, i, 1, rfl, hX, .inr ⟨rfl, rfl⟩, d1, by decide, k⟩
theorem r_icmp {r : Int → Int → Bool} (hX : ShAt aSh H x n d) (d1 : d < 10000000000000000000) (k : ∀ H', Same H H' → Q (.bl (r (n * 1) (i * d))) H') : rIOwn aSh (spCmp aSh r) E (.int i) (.ref x) H Q :=
  let ⟨dx, hx⟩ := hX.1
  r_iOwn hx ⟨x, .int i, n, d, i, 1, rfl, hX, .inr ⟨rfl, rfl⟩, d1, by decide, k⟩
theorem r_eqB {K : PySem.W.Frag} (hX : ShAt aSh H x n d) (hY : ShAt aSh H y m e) (ty : ∀ (H : Hp) (e : Addr) (dx : Addr) (fs : List (Str × V)), H e = some (.ins aSh dx fs) → TyX K H (.ref e) (.ref aSh))
    (k : ∀ H', Same H H' → Q (.bl (decide (n = m ∧ d = e))) H') : rCmpA K aSh (spEqS aSh) E (.ref x) (.ref y) H Q :=
  let ⟨dx, hx⟩ := hX.1
  let ⟨dy, hy⟩ := hY.1
  r_cmpA hx (ty _ _ _ _ hy) nf_self ⟨x, .ref y, n, d, m, e, rfl, hX, .inl ⟨y, rfl, hY⟩, k⟩
theorem r_eqI {K : PySem.W.Frag} (hX : ShAt aSh H x n d) (s1 : PySem.W.subIn K (.type "int") (.ref aSh) = some false)
    (k : ∀ H', Same H H' → Q (.bl false) H') : rCmpA K aSh (spEqS aSh) E (.ref x) (.int i) H Q :=
  let ⟨dx, hx⟩ := hX.1
  r_cmpA hx (.base (.int _)) (nf_ty s1) ⟨x, .int i, n, d, i, 1, rfl, hX, .inr ⟨rfl, rfl⟩, k⟩
end
/-- a share made, a numerator, a denominator -/
def PairOk (aSh : Addr) (H : Hp) (v : V) : Prop := ∃ (t z : Addr) (n d o u : Int), v = .ref t ∧ H t = some (.tup [.ref z, .int o, .int u]) ∧ ShAt aSh H z n d ∧ n * u = o * d ∧ u.natAbs < 10000000000000000000 ∧ d < 10000000000000000000
theorem PairOk.mono {H H' : Hp} {v : V} (s : Same H H') (h : PairOk aSh H v) : PairOk aSh H' v := by
  obtain ⟨t, z, n, d, o, u, e, h1, h2, h3⟩ := h
  exact ⟨t, z, n, d, o, u, e, s _ _ h1, h2.mono s, h3⟩
theorem PairOk.setL {H : Hp} {l : Addr} {xs : List V} {o : HO} {v : V} (hl : H l = some (.lst xs)) (h : PairOk aSh H v) : PairOk aSh (upd H l o) v := by
  obtain ⟨t, z, n, d, o, u, e, h1, ⟨⟨dx, h2⟩, lo⟩, h3⟩ := h
  exact ⟨t, z, n, d, o, u, e, at_upd (ne_kind h1 hl fun z => nomatch z) h1, ⟨⟨dx, at_upd (ne_kind h2 hl fun z => nomatch z) h2⟩, lo⟩, h3⟩
def spNumber : Sp := fun vs H Q _ => ∃ b, vs = [.ref b] ∧ BoxAt H b ∧ ∀ (i : Int) (H' : Hp), -1000000 < i → i < 1000000 → Bx b H H' → Q (.int i) H'
def spIs (aSh : Addr) : Sp := fun vs H Q _ => ∃ (x : Addr) (n d o u : Int), vs = [.ref x, .int o, .int u] ∧ ShAt aSh H x n d ∧ n * u = o * d ∧ u.natAbs < 10000000000000000000 ∧ d < 10000000000000000000 ∧ ∀ H', Same H H' → Q (.bl true) H'
def spRef : Sp := fun vs H Q _ => vs = [] ∧ ∀ H', Same H H' → Q (.str "whole") H'
def spSigns (aSh : Addr) : Sp := fun vs H Q _ => ∃ (x y ta tb : Addr) (n d m e a0 a1 b0 b1 : Int), vs = [.ref x, .ref y, .ref ta, .ref tb] ∧ ShAt aSh H x n d ∧ ShAt aSh H y m e ∧ H ta = some (.tup [.int a0, .int a1]) ∧ H tb = some (.tup [.int b0, .int b1]) ∧
  n * a1 = a0 * d ∧ m * b1 = b0 * e ∧ d.natAbs ≤ a1.natAbs ∧ e.natAbs ≤ b1.natAbs ∧ n.natAbs ≤ a0.natAbs ∧ m.natAbs ≤ b0.natAbs ∧ a0.natAbs < 1000000 ∧ a1.natAbs < 1000000 ∧ b0.natAbs < 1000000 ∧ b1.natAbs < 1000000 ∧ ∀ H', Same H H' → Q (.bl true) H'
theorem mulb {a b : Int} {k l : Nat} (h : a.natAbs < k) (g : b.natAbs < l) : (a * b).natAbs < k * l := by
  rw [Int.natAbs_mul]
  exact Nat.mul_lt_mul'' h g
section
variable {K : PySem.W.Frag}
theorem ok_number (F : DefAt K mg "_law_number" s_law_number) (T : Txt K mg aGround aInv aSh) (D_law_take : DefOk P w K mg base CX0 1 "_law_take" ["_law_box_here", "_law_many"] spTake) : DefOk P w K mg base CX0 2 "_law_number" ["_law_box_here"] spNumber := by
  refine F.ok sc_law_number (fun _ _ _ _ _ _ us hl => match us, hl with | [_], _ => rfl) (fun vs H Q E h => ?_) (fun f cdv A outer s H vs Q E hr h => ?_)
  · obtain ⟨b, rfl, _⟩ := h
    rfl
  · obtain ⟨b, rfl, hb, k⟩ := h
    refine ⟨_, (pss_cons (ps_set (i := 1) sc_law_number.nd rfl (Or.inl rfl) (pe_ix (ix_u K) (pe_lst (pa_cons pe_int (pa_cons pe_int (pa_cons pe_int pa_nil)))) (pe_callD D_law_take (hr.mono (by decide)) pass0 rfl (pa_cons (pv 0) (pa_cons pe_int pa_nil))) (fun _ _ => rfl)))
  (pss_one (ps_ret (pe_op o_sub (pe_callD D_law_take (hr.mono (by decide)) pass0 rfl (pa_cons (pv 0) (pa_cons (pe_op o_mul pe_int (pv 1)) pa_nil))) (pv 1))))), ?_⟩
    tm_at "go"
    refine ⟨szl rfl, fun p hp => ?_⟩
    have hb1 := hb.at (o := .lst [.int 4, .int 30, .int 999999]) (hb.fresh hp)
    have nb := hb.fresh hp
    have hp1 : upd H p (.lst [.int 4, .int 30, .int 999999]) p = some (.lst [.int 4, .int 30, .int 999999]) := upd_same
    have bx0 : Bx b H (upd H p (.lst [.int 4, .int 30, .int 999999])) := (Bx.refl hb).upd hp
    generalize upd H p (.lst [.int 4, .int 30, .int 999999]) = H0 at hb1 hp1 bx0 ⊢
    tm_at "go"
    refine r_take hb1 (by decide) (by decide) fun j H1 h0 h1 hx => ?_
    have hp2 := hx.keep _ _ (Ne.symm nb) hp1
    have : ∃ q : Int, atI [V.int 4, V.int 30, V.int 999999] j = some (.int q) ∧ 4 ≤ q ∧ q ≤ 999999 := by
      have : j = 0 ∨ j = 1 ∨ j = 2 := by omega
      rcases this with rfl | rfl | rfl
      · exact ⟨4, rfl, by decide, by decide⟩
      · exact ⟨30, rfl, by decide, by decide⟩
      · exact ⟨999999, rfl, by decide, by decide⟩
    obtain ⟨q, hq, q1, q2⟩ := this
    refine r_ixL (SqL.of hp2) hq ?_
    tm_at "go"
    refine r_take hx.box (by omega) (by omega) fun i H2 i0 i1 hx2 => ?_
    tm_at "go"
    exact k _ H2 (by omega) (by omega) (bx0.trans (hx.trans hx2))
theorem ok_is (F : DefAt K mg "_law_is" s_law_is) (T : Txt K mg aGround aInv aSh) : DefOk P w K mg base CX0 1 "_law_is" ["_law_made", "_law_over_it", "_law_under"] (spIs aSh) := by
  refine F.ok sc_law_is (fun _ _ _ _ _ _ us hl => match us, hl with | [_, _, _], _ => rfl) (fun vs H Q E h => ?_) (fun f cdv A outer s H vs Q E hr h => ?_)
  · obtain ⟨x, _, _, _, _, rfl, _⟩ := h
    rfl
  · obtain ⟨x, n, d, o, u, rfl, hX, eq, ub, db, k⟩ := h
    have d0 := hX.2.pos
    have lo := hX.2
    refine ⟨_, (pss_cons (ps_if (PW.pt (pw_or (pt_cmpR (o_ne K hr.units) (pe_op o_mul (pe_fl K (pv 0)) (pv 2)) (pe_op o_mul (pv 1) (pe_fl K (pv 0))) (nomark _)) (pw_or1 (pt_cmpR o_lt (pe_fl K (pv 0)) pe_int (nomark _))))) (pss_one (ps_ret pe_bl))
  pss_nil)
  (pss_cons (ps_if (pt_cmpR (o_ne K hr.units) (pe_lc (own := [("_law_p", 3)]) (g := (gName 3)) rfl sc_law_is.nd (pi_t K (pe_tup (pa_cons pe_int (pa_cons pe_int (pa_cons pe_int (pa_cons pe_int (pa_cons pe_int (pa_cons pe_int pa_nil)))))))) (blkOk_by (own := [("_law_p", 3)]) (N := ["_law_made", "_law_over_it", "_law_under", "_law_p"]) (sc := defScope s_law_is) (by decide +kernel)) (fun _ _ _ _ _ => (pg_name (i := 3) sc_law_is.nd rfl (Or.inl rfl) (Or.inr rfl))) (fun _ _ _ _ _ => (pts_one (PW.pt (pw_and (pt_cmpR (o_eq K hr.units) (pe_op o_mod (pe_fl K (pv 0)) (pv 3)) pe_int (nomark _)) (pw_and (pt_cmpR (o_eq K hr.units) (pe_op o_mod (pe_fl K (pv 0)) (pv 3)) pe_int (nomark _)) (pw_and1 (pt_cmpR (o_ne K hr.units) (pe_fl K (pv 0)) pe_int (nomark _)))))))) (fun _ _ _ _ _ => (pv 3))) (pe_lst pa_nil) (nomark _)) (pss_one (ps_ret pe_bl))
  pss_nil)
  (pss_one (ps_ret (pe_or (pe_cmpR (o_ne K hr.units) (pe_fl K (pv 0)) pe_int (nomark _)) (pe_one (pe_cmpR (o_eq K hr.units) (pe_fl K (pv 0)) pe_int (nomark _)))))))), ?_⟩
    obtain ⟨dx, hx⟩ := hX.1
    repeat first
      | tm_at "r2"
      | refine r_get hx T.clS T.nP (shF_part _ _) ?_
      | refine r_get hx T.clS T.nW (shF_whole _ _) ?_
      | refine r_mul (cmulR ⟨by omega, by omega⟩) ?_
      | fail
    refine r_ne rfl ?_
    rw [eq, neSelf]
    repeat first
      | tm_at "r2"
      | refine r_get hx T.clS T.nW (shF_whole _ _) ?_
      | fail
    refine r_Fd (by omega) ?_
    tm_at "go"
    refine ⟨szl rfl, fun tq htq => ?_⟩
    have hq : upd H tq (.tup [.int 2, .int 3, .int 5, .int 7, .int 11, .int 13]) tq = some (.tup [.int 2, .int 3, .int 5, .int 7, .int 11, .int 13]) := upd_same
    have s0 : Same H (upd H tq (.tup [.int 2, .int 3, .int 5, .int 7, .int 11, .int 13])) := same_new htq
    generalize upd H tq (.tup [.int 2, .int 3, .int 5, .int 7, .int 11, .int 13]) = H0 at hq s0 ⊢
    refine ⟨tq, rfl, ⟨_, SqT.of hq⟩, fun D hD => ?_⟩
    refine lc_it (walk_tup (xs := [.int 2, .int 3, .int 5, .int 7, .int 11, .int 13])) (fun i H' => Same H0 H' ∧ H' D = some (.lst [])) ⟨same_new hD, upd_same⟩ (fun i H' _ p => SqT.of (p.1 _ _ hq)) ?_ ?_
    · rintro i y H1 H2 hi ⟨sm, hl⟩ ⟨rfl, hy⟩
      obtain ⟨q, rfl, q2⟩ : ∃ q : Int, y = .int q ∧ 2 ≤ q := by
        have : y ∈ [V.int 2, V.int 3, V.int 5, V.int 7, V.int 11, V.int 13] := List.mem_of_getElem? hy
        simp at this
        rcases this with rfl | rfl | rfl | rfl | rfl | rfl <;> exact ⟨_, rfl, by decide⟩
      have hx1 := sm _ _ (s0 _ _ hx)
      tm_at "go"
      refine ⟨rfl, ?_⟩
      repeat first
        | tm_at "r2"
        | refine r_get hx1 T.clS T.nP (shF_part _ _) ?_
        | fail
      refine r_mod (by omega) ?_
      tm_at "go"
      refine r_eq rfl ?_
      tm_at "go"
      refine r_id (fun c1 => ?_) (fun c1 => ?_)
      · repeat first
          | tm_at "r2"
          | refine r_get hx1 T.clS T.nW (shF_whole _ _) ?_
          | fail
        refine r_mod (by omega) ?_
        tm_at "go"
        refine r_eq rfl ?_
        tm_at "go"
        refine r_id (fun c2 => ?_) (fun c2 => ?_)
        · exact (lo.no_common q2 (V.int.inj c1) (V.int.inj c2)).elim
        · tm_at "go"
          exact ⟨sm, hl⟩
      · tm_at "go"
        exact ⟨sm, hl⟩
    · rintro H1 ⟨sm, hl⟩
      have hx1 := sm _ _ (s0 _ _ hx)
      tm_at "go"
      refine ⟨szl rfl, fun p hp => ?_⟩
      have s2 : Same H1 (upd H1 p (.lst [])) := same_new hp
      have hx2 := s2 _ _ hx1
      refine r_neD (.lst (SqL.of (s2 _ _ hl)) .nil) (.lst (SqL.of upd_same) .nil) rfl rfl ?_
      generalize upd H1 p (.lst []) = H3 at s2 hx2 ⊢
      rw [show (!PyData.eqv (.list []) (.list [])) = false from rfl]
      repeat first
        | tm_at "r2"
        | refine r_get hx2 T.clS T.nP (shF_part _ _) ?_
        | fail
      refine r_ne rfl ?_
      tm_at "go"
      have sm3 := (s0.trans sm).trans s2
      by_cases n0 : n = 0
      · subst n0
        have := lo.zero
        subst this
        rw [neSelf]
        repeat first
          | tm_at "r2"
          | refine r_get hx2 T.clS T.nW (shF_whole _ _) ?_
          | fail
        refine r_eq rfl ?_
        tm_at "go"
        rw [decide_eq_true rfl]
        exact k _ sm3
      · rw [decide_eq_false (fun z => n0 (V.int.inj z))]
        tm_at "go"
        exact k _ sm3
theorem ok_refused (F : DefAt K mg "_law_refused" s_law_refused) (T : Txt K mg aGround aInv aSh) (M_Share : MakeOk P w K mg base (L2.CX P w) 3 "Share" aSh ["self", "part", "whole"] [] (spShI aSh aInv)) : DefOk P w K mg base CX0 5 "_law_refused" [] spRef := by
  refine F.ok sc_law_refused (fun _ _ _ _ _ _ us hl => match us, hl with | [], _ => rfl) (fun vs H Q E h => ?_) (fun f cdv A outer s H vs Q E hr h => ?_)
  · obtain ⟨rfl, _⟩ := h
    rfl
  · obtain ⟨rfl, k⟩ := h
    refine ⟨_, (pss_cons (ps_set (i := 0) sc_law_refused.nd rfl (Or.inl rfl) pe_non)
  (pss_cons (ps_try_as (i := 1) rfl rfl sc_law_refused.nd rfl rfl ⟨rfl, by decide, .inl T.m_InvalidNumbers⟩ takes0
  (fun W pn xe tk po => (pss_one (ps_expr (pe_makeDS M_Share (hr.mono (by decide)) (fun σ => passAt tk σ) rfl (pa_cons pe_int (pa_cons pe_int pa_nil))))))
  (fun a oe cls d pn hz hf => (pss_one (ps_set (i := 0) sc_law_refused.nd rfl (Or.inl rfl) (pe_xf T.xf T.xw hz hf (pv 1))))))
  (pss_one (ps_ret (pv 0))))), ?_⟩
    tm_at "go"
    intro x dx hx hdx hne
    have n2 : upd H dx (.own x) x = none := (upd_ne (Ne.symm hne)).trans hx
    have sm : Same H (upd (upd H dx (.own x)) x (.ins aSh dx [])) := Same.new (Same.new Same.refl hdx) n2
    refine ⟨x, dx, 3, 0, rfl, upd_same, by decide, fun _ d hd => ?_, fun z => absurd rfl z⟩
    refine ⟨true, T.exm, fun _ e he => ?_, fun q => Bool.noConfusion q⟩
    tm_at "go"
    refine ⟨rfl, d, _, .str "whole", rfl, upd_same, rfl, ?_⟩
    tm_at "go"
    exact k _ (Same.new sm hd)
theorem q_1 {a b n d m e a0 a1 b0 b1 : Int} (h : a * (d * e) = (n * e + m * d) * b) (h1 : n * a1 = a0 * d) (h2 : m * b1 = b0 * e) : a * (a1 * b1) * (d * e) = (a0 * b1 + b0 * a1) * b * (d * e) := by grind
theorem q_2 {a b n d m e a0 a1 b0 b1 : Int} (h : a * (d * e) = (n * e - m * d) * b) (h1 : n * a1 = a0 * d) (h2 : m * b1 = b0 * e) : a * (a1 * b1) * (d * e) = (a0 * b1 - b0 * a1) * b * (d * e) := by grind
theorem q_3 {a b n d m e a0 a1 b0 b1 : Int} (h : a * (d * e) = (n * m) * b) (h1 : n * a1 = a0 * d) (h2 : m * b1 = b0 * e) : a * (a1 * b1) * (d * e) = (a0 * b0) * b * (d * e) := by grind
theorem q_4 {a b n d a0 a1 b0 : Int} (h : a * (d * 1) = (n * 1 + b0 * d) * b) (h1 : n * a1 = a0 * d) : a * (a1) * d = (a0 + b0 * a1) * b * d := by grind
theorem q_5 {a b n d a0 a1 b0 : Int} (h : a * (d * 1) = (n * 1 + b0 * d) * b) (h1 : n * a1 = a0 * d) : a * (a1) * d = (a0 + b0 * a1) * b * d := by grind
theorem q_6 {a b n d a0 a1 b0 : Int} (h : a * (d * 1) = (n * 1 - b0 * d) * b) (h1 : n * a1 = a0 * d) : a * (a1) * d = (a0 - b0 * a1) * b * d := by grind
theorem q_7 {a b n d a0 a1 b0 : Int} (h : a * (d * 1) = (b0 * d - n * 1) * b) (h1 : n * a1 = a0 * d) : a * (a1) * d = (b0 * a1 - a0) * b * d := by grind
theorem q_8 {a b n d a0 a1 b0 : Int} (h : a * (d * 1) = (n * b0) * b) (h1 : n * a1 = a0 * d) : a * (a1) * d = (b0 * a0) * b * d := by grind
theorem q_9 {a b n d a0 a1 b0 : Int} (h : a * (d * 1) = (n * b0) * b) (h1 : n * a1 = a0 * d) : a * (a1) * d = (b0 * a0) * b * d := by grind
theorem q_10 {a b n d a0 a1 : Int} (h : a * d = -n * b) (h1 : n * a1 = a0 * d) : a * (a1) * d = (-a0) * b * d := by grind
set_option maxHeartbeats 4000000 in
theorem ok_signs (F : DefAt K mg "_law_signs_right" s_law_signs_right) (T : Txt K mg aGround aInv aSh) (D_law_is : DefOk P w K mg base CX0 1 "_law_is" ["_law_made", "_law_over_it", "_law_under"] (spIs aSh))
    (M_Share__add : MetOk P w K mg base CX0 5 aSh "__add__" ["self", "other"] (spOp aSh fun n d m e => n * e + m * d)) (M_Share__radd : MetOk P w K mg base CX0 5 aSh "__radd__" ["self", "other"] (spOp aSh fun n d m e => n * e + m * d)) (M_Share__sub : MetOk P w K mg base CX0 5 aSh "__sub__" ["self", "other"] (spOp aSh fun n d m e => n * e - m * d)) (M_Share__rsub : MetOk P w K mg base CX0 5 aSh "__rsub__" ["self", "other"] (spOp aSh fun n d m e => m * d - n * e)) (M_Share__mul : MetOk P w K mg base CX0 5 aSh "__mul__" ["self", "other"] (spOp aSh fun n d m e => n * m)) (M_Share__rmul : MetOk P w K mg base CX0 5 aSh "__rmul__" ["self", "other"] (spOp aSh fun n d m e => n * m)) (M_Share__neg : MetOk P w K mg base CX0 5 aSh "__neg__" ["self"] (spNeg aSh)) : DefOk P w K mg base CX0 6 "_law_signs_right" ["_law_one", "_law_two", "_law_a", "_law_b"] (spSigns aSh) := by
  refine F.ok sc_law_signs_right (fun _ _ _ _ _ _ us hl => match us, hl with | [_, _, _, _], _ => rfl) (fun vs H Q E h => ?_) (fun f cdv A outer s H vs Q E hr h => ?_)
  · obtain ⟨x, y, ta, tb, _, _, _, _, _, _, _, _, rfl, _⟩ := h
    rfl
  · obtain ⟨x, y, ta, tb, n, d, m, e, a0, a1, b0, b1, rfl, hX, hY, hta, htb, E1, E2, d1, e1, n1, m1, l0, l1, l2, l3, k⟩ := h
    have d0 := hX.2.pos
    have e0 := hY.2.pos
    have de0 : 0 < d * e := Int.mul_pos (by omega) (by omega)
    have de : (d * e).natAbs < 1000000 * 1000000 := mulb (by omega) (by omega)
    have ab : (a1 * b1).natAbs < 1000000 * 1000000 := mulb l1 l3
    refine ⟨_, (pss_cons (ps_par (i := 5) (j := 6) (by rfl) sc_law_signs_right.nd rfl rfl (by decide) rfl rfl (pa_cons (pe_ix (ix_u K) (pv 3) pe_int (fun _ _ => rfl)) (pa_cons (pe_op o_mul (pe_ix (ix_u K) (pv 2) pe_int (fun _ _ => rfl)) (pe_ix (ix_u K) (pv 3) pe_int (fun _ _ => rfl))) pa_nil)) (by rfl))
  (pss_cons (ps_set (i := 4) sc_law_signs_right.nd rfl (Or.inl rfl) (pe_lst (pa_cons (pe_tup (pa_cons (pe_op (o_own M_Share__add T.ib.sf (hr.mono (by decide)) pass0) (pv 0) (pv 1)) (pa_cons (pe_op (o_add K) (pe_op o_mul (pe_ix (ix_u K) (pv 2) pe_int (fun _ _ => rfl)) (pe_ix (ix_u K) (pv 3) pe_int (fun _ _ => rfl))) (pe_op o_mul (pe_ix (ix_u K) (pv 3) pe_int (fun _ _ => rfl)) (pe_ix (ix_u K) (pv 2) pe_int (fun _ _ => rfl)))) (pa_cons (pv 6) pa_nil)))) (pa_cons (pe_tup (pa_cons (pe_op (o_own M_Share__sub T.ib.sf (hr.mono (by decide)) pass0) (pv 0) (pv 1)) (pa_cons (pe_op o_sub (pe_op o_mul (pe_ix (ix_u K) (pv 2) pe_int (fun _ _ => rfl)) (pe_ix (ix_u K) (pv 3) pe_int (fun _ _ => rfl))) (pe_op o_mul (pe_ix (ix_u K) (pv 3) pe_int (fun _ _ => rfl)) (pe_ix (ix_u K) (pv 2) pe_int (fun _ _ => rfl)))) (pa_cons (pv 6) pa_nil)))) pa_nil))))
  (pss_cons (ps_expr (pe_bm PySem.F.plainAttrs_list PySem.F.slot_list_extend PySem.F.type_list_extend mt_extend (pv 4) (pa_cons (pe_lst (pa_cons (pe_tup (pa_cons (pe_op (o_own M_Share__mul T.ib.sf (hr.mono (by decide)) pass0) (pv 0) (pv 1)) (pa_cons (pe_op o_mul (pe_ix (ix_u K) (pv 2) pe_int (fun _ _ => rfl)) (pe_ix (ix_u K) (pv 3) pe_int (fun _ _ => rfl))) (pa_cons (pv 6) pa_nil)))) (pa_cons (pe_tup (pa_cons (pe_op (o_ownI' M_Share__add T.ib T.g_radd (hr.mono (by decide)) pass0) (pv 0) (pv 5)) (pa_cons (pe_op (o_add K) (pe_ix (ix_u K) (pv 2) pe_int (fun _ _ => rfl)) (pe_op o_mul (pv 5) (pe_ix (ix_u K) (pv 2) pe_int (fun _ _ => rfl)))) (pa_cons (pe_ix (ix_u K) (pv 2) pe_int (fun _ _ => rfl)) pa_nil)))) pa_nil))) pa_nil)))
  (pss_cons (ps_expr (pe_bm PySem.F.plainAttrs_list PySem.F.slot_list_extend PySem.F.type_list_extend mt_extend (pv 4) (pa_cons (pe_lst (pa_cons (pe_tup (pa_cons (pe_op (o_iOwn' M_Share__radd T.ib T.g_add (hr.mono (by decide)) pass0 PySem.F.fills_int_add PySem.F.slot_int_add PySem.F.entry_int_add PySem.F.args_int_add_2 rfl) (pv 5) (pv 0)) (pa_cons (pe_op (o_add K) (pe_ix (ix_u K) (pv 2) pe_int (fun _ _ => rfl)) (pe_op o_mul (pv 5) (pe_ix (ix_u K) (pv 2) pe_int (fun _ _ => rfl)))) (pa_cons (pe_ix (ix_u K) (pv 2) pe_int (fun _ _ => rfl)) pa_nil)))) (pa_cons (pe_tup (pa_cons (pe_op (o_ownI' M_Share__sub T.ib T.g_rsub (hr.mono (by decide)) pass0) (pv 0) (pv 5)) (pa_cons (pe_op o_sub (pe_ix (ix_u K) (pv 2) pe_int (fun _ _ => rfl)) (pe_op o_mul (pv 5) (pe_ix (ix_u K) (pv 2) pe_int (fun _ _ => rfl)))) (pa_cons (pe_ix (ix_u K) (pv 2) pe_int (fun _ _ => rfl)) pa_nil)))) pa_nil))) pa_nil)))
  (pss_cons (ps_expr (pe_bm PySem.F.plainAttrs_list PySem.F.slot_list_extend PySem.F.type_list_extend mt_extend (pv 4) (pa_cons (pe_lst (pa_cons (pe_tup (pa_cons (pe_op (o_iOwn' M_Share__rsub T.ib T.g_sub (hr.mono (by decide)) pass0 PySem.F.fills_int_sub PySem.F.slot_int_sub PySem.F.entry_int_sub PySem.F.args_int_sub_2 rfl) (pv 5) (pv 0)) (pa_cons (pe_op o_sub (pe_op o_mul (pv 5) (pe_ix (ix_u K) (pv 2) pe_int (fun _ _ => rfl))) (pe_ix (ix_u K) (pv 2) pe_int (fun _ _ => rfl))) (pa_cons (pe_ix (ix_u K) (pv 2) pe_int (fun _ _ => rfl)) pa_nil)))) (pa_cons (pe_tup (pa_cons (pe_op (o_iOwn' M_Share__rmul T.ib T.g_mul (hr.mono (by decide)) pass0 PySem.F.fills_int_mul PySem.F.slot_int_mul PySem.F.entry_int_mul PySem.F.args_int_mul_2 rfl) (pv 5) (pv 0)) (pa_cons (pe_op o_mul (pv 5) (pe_ix (ix_u K) (pv 2) pe_int (fun _ _ => rfl))) (pa_cons (pe_ix (ix_u K) (pv 2) pe_int (fun _ _ => rfl)) pa_nil)))) pa_nil))) pa_nil)))
  (pss_cons (ps_expr (pe_bm PySem.F.plainAttrs_list PySem.F.slot_list_extend PySem.F.type_list_extend mt_extend (pv 4) (pa_cons (pe_lst (pa_cons (pe_tup (pa_cons (pe_op (o_ownI' M_Share__mul T.ib T.g_rmul (hr.mono (by decide)) pass0) (pv 0) (pv 5)) (pa_cons (pe_op o_mul (pv 5) (pe_ix (ix_u K) (pv 2) pe_int (fun _ _ => rfl))) (pa_cons (pe_ix (ix_u K) (pv 2) pe_int (fun _ _ => rfl)) pa_nil)))) (pa_cons (pe_tup (pa_cons (pe_un (un_negOwn M_Share__neg (hr.mono (by decide)) pass0) (pv 0)) (pa_cons (pe_un un_neg (pe_ix (ix_u K) (pv 2) pe_int (fun _ _ => rfl))) (pa_cons (pe_ix (ix_u K) (pv 2) pe_int (fun _ _ => rfl)) pa_nil)))) pa_nil))) pa_nil)))
  (pss_one (ps_ret (pe_cmpR (o_eq K hr.units) (pe_lc (own := [("_law_made", 7), ("_law_over_it", 8), ("_law_under", 9)]) (g := (gTup K 3 (gCons (gName 7) (gCons (gName 8) (gCons (gName 9) gNil))))) rfl sc_law_signs_right.nd (pi_l K (pv 4)) (blkOk_by (own := [("_law_made", 7), ("_law_over_it", 8), ("_law_under", 9)]) (N := ["_law_one", "_law_two", "_law_a", "_law_b", "_law_pairs", "_law_c", "_law_d", "_law_made", "_law_over_it", "_law_under"]) (sc := defScope s_law_signs_right) (by decide +kernel)) (fun _ _ _ _ _ => (pg_t (n := 3) K rfl (pgs_cons (pg_name (i := 7) sc_law_signs_right.nd rfl (Or.inl rfl) (Or.inr rfl)) (pgs_cons (pg_name (i := 8) sc_law_signs_right.nd rfl (Or.inl rfl) (Or.inr rfl)) (pgs_cons (pg_name (i := 9) sc_law_signs_right.nd rfl (Or.inl rfl) (Or.inr rfl)) pgs_nil))))) (fun _ _ _ _ _ => (pts_one (pt_not (pt_tr K (pe_callD D_law_is (hr.mono (by decide)) pass0 rfl (pa_cons (pv 7) (pa_cons (pv 8) (pa_cons (pv 9) pa_nil)))))))) (fun _ _ _ _ _ => pe_int)) (pe_lst pa_nil) (nomark _)))))))))), ?_⟩
    have hta0 := hta
    have htb0 := htb
    repeat first
      | tm_at "r2"
      | refine r_mul (cmulR ⟨by omega, by omega⟩) ?_
      | fail
    refine r_opB hX hY (by omega) (by omega) (by omega) (by omega) fun z a b G eq q1 q2 sg hz hZ => ?_
    repeat first
      | tm_at "r2"
      | refine r_mul (cmulR ⟨by omega, by omega⟩) ?_
      | fail
    refine ⟨szl rfl, fun t1 ht => ?_⟩
    replace eq : a * (d * e) = (n * e + m * d) * b := eq
    have P1 : PairOk aSh (upd G t1 (.tup [.ref z, .int (a0 * b1 + b0 * a1), .int (a1 * b1)])) (.ref t1) := ⟨t1, z, a, b, a0 * b1 + b0 * a1, a1 * b1, rfl, upd_same, hZ.mono (same_new ht), Int.eq_of_mul_eq_mul_right (a := (d * e)) (by omega) (q_1 eq E1 E2), by omega, by omega⟩
    have sJ : Same H (upd G t1 (.tup [.ref z, .int (a0 * b1 + b0 * a1), .int (a1 * b1)])) := sg.trans (same_new ht)
    have sI := sJ
    generalize upd G t1 (.tup [.ref z, .int (a0 * b1 + b0 * a1), .int (a1 * b1)]) = G1 at P1 sI sJ ⊢
    clear ht hZ hz q1 sg eq q2 z a b G
    clear sJ hta htb
    have hta := sI _ _ hta0
    have htb := sI _ _ htb0
    repeat first
      | tm_at "r2"
      | refine r_mul (cmulR ⟨by omega, by omega⟩) ?_
      | fail
    refine r_opB (hX.mono sI) (hY.mono sI) (by omega) (by omega) (by omega) (by omega) fun z a b G eq q1 q2 sg hz hZ => ?_
    repeat first
      | tm_at "r2"
      | refine r_mul (cmulR ⟨by omega, by omega⟩) ?_
      | fail
    refine ⟨szl rfl, fun t2 ht => ?_⟩
    replace eq : a * (d * e) = (n * e - m * d) * b := eq
    have P2 : PairOk aSh (upd G t2 (.tup [.ref z, .int (a0 * b1 - b0 * a1), .int (a1 * b1)])) (.ref t2) := ⟨t2, z, a, b, a0 * b1 - b0 * a1, a1 * b1, rfl, upd_same, hZ.mono (same_new ht), Int.eq_of_mul_eq_mul_right (a := (d * e)) (by omega) (q_2 eq E1 E2), by omega, by omega⟩
    have sJ : Same G1 (upd G t2 (.tup [.ref z, .int (a0 * b1 - b0 * a1), .int (a1 * b1)])) := sg.trans (same_new ht)
    replace sI := sI.trans sJ
    generalize upd G t2 (.tup [.ref z, .int (a0 * b1 - b0 * a1), .int (a1 * b1)]) = G2 at P2 sI sJ ⊢
    clear ht hZ hz q1 sg eq q2 z a b G
    replace P1 := P1.mono sJ
    clear sJ hta htb
    have hta := sI _ _ hta0
    have htb := sI _ _ htb0
    repeat first
      | tm_at "r2"
      | refine r_mul (cmulR ⟨by omega, by omega⟩) ?_
      | fail
    refine ⟨szl rfl, fun l hl0 => ?_⟩
    have hHl : H l = Option.none := Same.free sI hl0
    have ok : ∀ v ∈ [V.ref t1, .ref t2], PairOk aSh (upd G2 l (.lst [.ref t1, .ref t2])) v := by
      intro v hv
      rcases List.mem_cons.mp hv with rfl | hv
      · exact P1.mono (same_new hl0)
      · rw [List.mem_singleton.mp hv]
        exact P2.mono (same_new hl0)
    replace sI := sI.trans (same_new hl0 (o := .lst [.ref t1, .ref t2]))
    have hl : upd G2 l (.lst [.ref t1, .ref t2]) l = some (.lst [.ref t1, .ref t2]) := upd_same
    clear hta htb P1 P2 hl0
    generalize upd G2 l (.lst [.ref t1, .ref t2]) = K0 at ok sI hl ⊢
    obtain ⟨xs, exs⟩ : ∃ xs, xs = [V.ref t1, .ref t2] := ⟨_, rfl⟩
    have xl : xs.length = 2 := by rw [exs]; rfl
    rw [← exs] at ok hl
    clear exs
    have hta := sI _ _ hta0
    have htb := sI _ _ htb0
    repeat first
      | tm_at "r2"
      | refine r_mul (cmulR ⟨by omega, by omega⟩) ?_
      | fail
    refine ⟨.inl ⟨rfl, _, SqL.of hl⟩, ?_⟩
    repeat first
      | tm_at "r2"
      | refine r_mul (cmulR ⟨by omega, by omega⟩) ?_
      | fail
    refine r_opB (hX.mono sI) (hY.mono sI) (by omega) (by omega) (by omega) (by omega) fun z a b G eq q1 q2 sg hz hZ => ?_
    repeat first
      | tm_at "r2"
      | refine r_mul (cmulR ⟨by omega, by omega⟩) ?_
      | fail
    refine ⟨szl rfl, fun t3 ht => ?_⟩
    replace eq : a * (d * e) = (n * m) * b := eq
    have P3 : PairOk aSh (upd G t3 (.tup [.ref z, .int (a0 * b0), .int (a1 * b1)])) (.ref t3) := ⟨t3, z, a, b, a0 * b0, a1 * b1, rfl, upd_same, hZ.mono (same_new ht), Int.eq_of_mul_eq_mul_right (a := (d * e)) (by omega) (q_3 eq E1 E2), by omega, by omega⟩
    have sJ : Same K0 (upd G t3 (.tup [.ref z, .int (a0 * b0), .int (a1 * b1)])) := sg.trans (same_new ht)
    replace sI := sI.trans sJ
    generalize upd G t3 (.tup [.ref z, .int (a0 * b0), .int (a1 * b1)]) = A0 at P3 sI sJ ⊢
    clear ht hZ hz q1 sg eq q2 z a b G
    replace ok : ∀ v ∈ xs, PairOk aSh A0 v := fun v hv => (ok v hv).mono sJ
    replace hl := sJ _ _ hl
    clear sJ hta htb
    have hta := sI _ _ hta0
    have htb := sI _ _ htb0
    repeat first
      | tm_at "r2"
      | refine r_mul (cmulR ⟨by omega, by omega⟩) ?_
      | fail
    refine r_opI (hX.mono sI) (by omega) (by omega) fun z a b G eq q1 q2 sg hz hZ => ?_
    repeat first
      | tm_at "r2"
      | refine r_mul (cmulR ⟨by omega, by omega⟩) ?_
      | fail
    refine ⟨szl rfl, fun t4 ht => ?_⟩
    replace eq : a * (d * 1) = (n * 1 + b0 * d) * b := eq
    have P4 : PairOk aSh (upd G t4 (.tup [.ref z, .int (a0 + b0 * a1), .int (a1)])) (.ref t4) := ⟨t4, z, a, b, a0 + b0 * a1, a1, rfl, upd_same, hZ.mono (same_new ht), Int.eq_of_mul_eq_mul_right (a := d) (by omega) (q_4 eq E1), by omega, by omega⟩
    have sJ : Same A0 (upd G t4 (.tup [.ref z, .int (a0 + b0 * a1), .int (a1)])) := sg.trans (same_new ht)
    replace sI := sI.trans sJ
    generalize upd G t4 (.tup [.ref z, .int (a0 + b0 * a1), .int (a1)]) = B0 at P4 sI sJ ⊢
    clear ht hZ hz q1 sg eq q2 z a b G
    replace P3 := P3.mono sJ
    replace ok : ∀ v ∈ xs, PairOk aSh B0 v := fun v hv => (ok v hv).mono sJ
    replace hl := sJ _ _ hl
    clear sJ hta htb
    have hta := sI _ _ hta0
    have htb := sI _ _ htb0
    repeat first
      | tm_at "r2"
      | refine r_mul (cmulR ⟨by omega, by omega⟩) ?_
      | fail
    refine ⟨szl rfl, fun q hq0 => ?_⟩
    have sq : Same B0 (upd B0 q (.lst [.ref t3, .ref t4])) := same_new hq0
    have hq : upd B0 q (.lst [.ref t3, .ref t4]) q = some (.lst [.ref t3, .ref t4]) := upd_same
    replace hl := sq _ _ hl
    replace sI := sI.trans sq
    have ok2 : ∀ v ∈ xs ++ [V.ref t3, .ref t4], PairOk aSh (upd B0 q (.lst [.ref t3, .ref t4])) v := by
      intro v hv
      rcases List.mem_append.mp hv with hv | hv
      · exact (ok v hv).mono sq
      · rcases List.mem_cons.mp hv with rfl | hv
        · exact P3.mono sq
        · rw [List.mem_singleton.mp hv]
          exact P4.mono sq
    clear hta htb P3 P4 hq0 sq ok
    generalize upd B0 q (.lst [.ref t3, .ref t4]) = C0 at ok2 sI hl hq ⊢
    obtain ⟨zs, ezs⟩ : ∃ zs, zs = [V.ref t3, .ref t4] := ⟨_, rfl⟩
    have zl : zs.length = 2 := by rw [ezs]; rfl
    rw [← ezs] at ok2 hq
    tm_at "go"
    refine ⟨l, q, xs, zs, rfl, rfl, hl, hq, szl (Nat.ble_eq_true_of_le (by omega)), ?_⟩
    have ok : ∀ v ∈ xs ++ zs, PairOk aSh (upd C0 l (.lst (xs ++ zs))) v := fun v hv => (ok2 v hv).setL hl
    replace sI := Same.updF sI hHl (o := .lst (xs ++ zs))
    replace hl : upd C0 l (.lst (xs ++ zs)) l = some (.lst (xs ++ zs)) := upd_same
    have xl' : (xs ++ zs).length = 4 := by rw [List.length_append]; omega
    clear ezs hq ok2
    generalize upd C0 l (.lst (xs ++ zs)) = K1 at ok sI hl ⊢
    generalize xs ++ zs = xs1 at ok hl xl' ⊢
    clear zl xl
    clear zs
    clear xs
    have xl := xl'
    clear xl'
    have hta := sI _ _ hta0
    have htb := sI _ _ htb0
    repeat first
      | tm_at "r2"
      | refine r_mul (cmulR ⟨by omega, by omega⟩) ?_
      | fail
    refine ⟨.inl ⟨rfl, _, SqL.of hl⟩, ?_⟩
    repeat first
      | tm_at "r2"
      | refine r_mul (cmulR ⟨by omega, by omega⟩) ?_
      | fail
    refine r_iop (hX.mono sI) (by omega) (by omega) fun z a b G eq q1 q2 sg hz hZ => ?_
    repeat first
      | tm_at "r2"
      | refine r_mul (cmulR ⟨by omega, by omega⟩) ?_
      | fail
    refine ⟨szl rfl, fun t5 ht => ?_⟩
    replace eq : a * (d * 1) = (n * 1 + b0 * d) * b := eq
    have P5 : PairOk aSh (upd G t5 (.tup [.ref z, .int (a0 + b0 * a1), .int (a1)])) (.ref t5) := ⟨t5, z, a, b, a0 + b0 * a1, a1, rfl, upd_same, hZ.mono (same_new ht), Int.eq_of_mul_eq_mul_right (a := d) (by omega) (q_5 eq E1), by omega, by omega⟩
    have sJ : Same K1 (upd G t5 (.tup [.ref z, .int (a0 + b0 * a1), .int (a1)])) := sg.trans (same_new ht)
    replace sI := sI.trans sJ
    generalize upd G t5 (.tup [.ref z, .int (a0 + b0 * a1), .int (a1)]) = A1 at P5 sI sJ ⊢
    clear ht hZ hz q1 sg eq q2 z a b G
    replace ok : ∀ v ∈ xs1, PairOk aSh A1 v := fun v hv => (ok v hv).mono sJ
    replace hl := sJ _ _ hl
    clear sJ hta htb
    have hta := sI _ _ hta0
    have htb := sI _ _ htb0
    repeat first
      | tm_at "r2"
      | refine r_mul (cmulR ⟨by omega, by omega⟩) ?_
      | fail
    refine r_opI (hX.mono sI) (by omega) (by omega) fun z a b G eq q1 q2 sg hz hZ => ?_
    repeat first
      | tm_at "r2"
      | refine r_mul (cmulR ⟨by omega, by omega⟩) ?_
      | fail
    refine ⟨szl rfl, fun t6 ht => ?_⟩
    replace eq : a * (d * 1) = (n * 1 - b0 * d) * b := eq
    have P6 : PairOk aSh (upd G t6 (.tup [.ref z, .int (a0 - b0 * a1), .int (a1)])) (.ref t6) := ⟨t6, z, a, b, a0 - b0 * a1, a1, rfl, upd_same, hZ.mono (same_new ht), Int.eq_of_mul_eq_mul_right (a := d) (by omega) (q_6 eq E1), by omega, by omega⟩
    have sJ : Same A1 (upd G t6 (.tup [.ref z, .int (a0 - b0 * a1), .int (a1)])) := sg.trans (same_new ht)
    replace sI := sI.trans sJ
    generalize upd G t6 (.tup [.ref z, .int (a0 - b0 * a1), .int (a1)]) = B1 at P6 sI sJ ⊢
    clear ht hZ hz q1 sg eq q2 z a b G
    replace P5 := P5.mono sJ
    replace ok : ∀ v ∈ xs1, PairOk aSh B1 v := fun v hv => (ok v hv).mono sJ
    replace hl := sJ _ _ hl
    clear sJ hta htb
    have hta := sI _ _ hta0
    have htb := sI _ _ htb0
    repeat first
      | tm_at "r2"
      | refine r_mul (cmulR ⟨by omega, by omega⟩) ?_
      | fail
    refine ⟨szl rfl, fun q hq0 => ?_⟩
    have sq : Same B1 (upd B1 q (.lst [.ref t5, .ref t6])) := same_new hq0
    have hq : upd B1 q (.lst [.ref t5, .ref t6]) q = some (.lst [.ref t5, .ref t6]) := upd_same
    replace hl := sq _ _ hl
    replace sI := sI.trans sq
    have ok2 : ∀ v ∈ xs1 ++ [V.ref t5, .ref t6], PairOk aSh (upd B1 q (.lst [.ref t5, .ref t6])) v := by
      intro v hv
      rcases List.mem_append.mp hv with hv | hv
      · exact (ok v hv).mono sq
      · rcases List.mem_cons.mp hv with rfl | hv
        · exact P5.mono sq
        · rw [List.mem_singleton.mp hv]
          exact P6.mono sq
    clear hta htb P5 P6 hq0 sq ok
    generalize upd B1 q (.lst [.ref t5, .ref t6]) = C1 at ok2 sI hl hq ⊢
    obtain ⟨zs, ezs⟩ : ∃ zs, zs = [V.ref t5, .ref t6] := ⟨_, rfl⟩
    have zl : zs.length = 2 := by rw [ezs]; rfl
    rw [← ezs] at ok2 hq
    tm_at "go"
    refine ⟨l, q, xs1, zs, rfl, rfl, hl, hq, szl (Nat.ble_eq_true_of_le (by omega)), ?_⟩
    have ok : ∀ v ∈ xs1 ++ zs, PairOk aSh (upd C1 l (.lst (xs1 ++ zs))) v := fun v hv => (ok2 v hv).setL hl
    replace sI := Same.updF sI hHl (o := .lst (xs1 ++ zs))
    replace hl : upd C1 l (.lst (xs1 ++ zs)) l = some (.lst (xs1 ++ zs)) := upd_same
    have xl' : (xs1 ++ zs).length = 6 := by rw [List.length_append]; omega
    clear ezs hq ok2
    generalize upd C1 l (.lst (xs1 ++ zs)) = K2 at ok sI hl ⊢
    generalize xs1 ++ zs = xs2 at ok hl xl' ⊢
    clear zl xl
    clear zs
    clear xs1
    have xl := xl'
    clear xl'
    have hta := sI _ _ hta0
    have htb := sI _ _ htb0
    repeat first
      | tm_at "r2"
      | refine r_mul (cmulR ⟨by omega, by omega⟩) ?_
      | fail
    refine ⟨.inl ⟨rfl, _, SqL.of hl⟩, ?_⟩
    repeat first
      | tm_at "r2"
      | refine r_mul (cmulR ⟨by omega, by omega⟩) ?_
      | fail
    refine r_iop (hX.mono sI) (by omega) (by omega) fun z a b G eq q1 q2 sg hz hZ => ?_
    repeat first
      | tm_at "r2"
      | refine r_mul (cmulR ⟨by omega, by omega⟩) ?_
      | fail
    refine ⟨szl rfl, fun t7 ht => ?_⟩
    replace eq : a * (d * 1) = (b0 * d - n * 1) * b := eq
    have P7 : PairOk aSh (upd G t7 (.tup [.ref z, .int (b0 * a1 - a0), .int (a1)])) (.ref t7) := ⟨t7, z, a, b, b0 * a1 - a0, a1, rfl, upd_same, hZ.mono (same_new ht), Int.eq_of_mul_eq_mul_right (a := d) (by omega) (q_7 eq E1), by omega, by omega⟩
    have sJ : Same K2 (upd G t7 (.tup [.ref z, .int (b0 * a1 - a0), .int (a1)])) := sg.trans (same_new ht)
    replace sI := sI.trans sJ
    generalize upd G t7 (.tup [.ref z, .int (b0 * a1 - a0), .int (a1)]) = A2 at P7 sI sJ ⊢
    clear ht hZ hz q1 sg eq q2 z a b G
    replace ok : ∀ v ∈ xs2, PairOk aSh A2 v := fun v hv => (ok v hv).mono sJ
    replace hl := sJ _ _ hl
    clear sJ hta htb
    have hta := sI _ _ hta0
    have htb := sI _ _ htb0
    repeat first
      | tm_at "r2"
      | refine r_mul (cmulR ⟨by omega, by omega⟩) ?_
      | fail
    refine r_iop (hX.mono sI) (by omega) (by omega) fun z a b G eq q1 q2 sg hz hZ => ?_
    repeat first
      | tm_at "r2"
      | refine r_mul (cmulR ⟨by omega, by omega⟩) ?_
      | fail
    refine ⟨szl rfl, fun t8 ht => ?_⟩
    replace eq : a * (d * 1) = (n * b0) * b := eq
    have P8 : PairOk aSh (upd G t8 (.tup [.ref z, .int (b0 * a0), .int (a1)])) (.ref t8) := ⟨t8, z, a, b, b0 * a0, a1, rfl, upd_same, hZ.mono (same_new ht), Int.eq_of_mul_eq_mul_right (a := d) (by omega) (q_8 eq E1), by omega, by omega⟩
    have sJ : Same A2 (upd G t8 (.tup [.ref z, .int (b0 * a0), .int (a1)])) := sg.trans (same_new ht)
    replace sI := sI.trans sJ
    generalize upd G t8 (.tup [.ref z, .int (b0 * a0), .int (a1)]) = B2 at P8 sI sJ ⊢
    clear ht hZ hz q1 sg eq q2 z a b G
    replace P7 := P7.mono sJ
    replace ok : ∀ v ∈ xs2, PairOk aSh B2 v := fun v hv => (ok v hv).mono sJ
    replace hl := sJ _ _ hl
    clear sJ hta htb
    have hta := sI _ _ hta0
    have htb := sI _ _ htb0
    repeat first
      | tm_at "r2"
      | refine r_mul (cmulR ⟨by omega, by omega⟩) ?_
      | fail
    refine ⟨szl rfl, fun q hq0 => ?_⟩
    have sq : Same B2 (upd B2 q (.lst [.ref t7, .ref t8])) := same_new hq0
    have hq : upd B2 q (.lst [.ref t7, .ref t8]) q = some (.lst [.ref t7, .ref t8]) := upd_same
    replace hl := sq _ _ hl
    replace sI := sI.trans sq
    have ok2 : ∀ v ∈ xs2 ++ [V.ref t7, .ref t8], PairOk aSh (upd B2 q (.lst [.ref t7, .ref t8])) v := by
      intro v hv
      rcases List.mem_append.mp hv with hv | hv
      · exact (ok v hv).mono sq
      · rcases List.mem_cons.mp hv with rfl | hv
        · exact P7.mono sq
        · rw [List.mem_singleton.mp hv]
          exact P8.mono sq
    clear hta htb P7 P8 hq0 sq ok
    generalize upd B2 q (.lst [.ref t7, .ref t8]) = C2 at ok2 sI hl hq ⊢
    obtain ⟨zs, ezs⟩ : ∃ zs, zs = [V.ref t7, .ref t8] := ⟨_, rfl⟩
    have zl : zs.length = 2 := by rw [ezs]; rfl
    rw [← ezs] at ok2 hq
    tm_at "go"
    refine ⟨l, q, xs2, zs, rfl, rfl, hl, hq, szl (Nat.ble_eq_true_of_le (by omega)), ?_⟩
    have ok : ∀ v ∈ xs2 ++ zs, PairOk aSh (upd C2 l (.lst (xs2 ++ zs))) v := fun v hv => (ok2 v hv).setL hl
    replace sI := Same.updF sI hHl (o := .lst (xs2 ++ zs))
    replace hl : upd C2 l (.lst (xs2 ++ zs)) l = some (.lst (xs2 ++ zs)) := upd_same
    have xl' : (xs2 ++ zs).length = 8 := by rw [List.length_append]; omega
    clear ezs hq ok2
    generalize upd C2 l (.lst (xs2 ++ zs)) = K3 at ok sI hl ⊢
    generalize xs2 ++ zs = xs3 at ok hl xl' ⊢
    clear zl xl
    clear zs
    clear xs2
    have xl := xl'
    clear xl'
    have hta := sI _ _ hta0
    have htb := sI _ _ htb0
    repeat first
      | tm_at "r2"
      | refine r_mul (cmulR ⟨by omega, by omega⟩) ?_
      | fail
    refine ⟨.inl ⟨rfl, _, SqL.of hl⟩, ?_⟩
    repeat first
      | tm_at "r2"
      | refine r_mul (cmulR ⟨by omega, by omega⟩) ?_
      | fail
    refine r_opI (hX.mono sI) (by omega) (by omega) fun z a b G eq q1 q2 sg hz hZ => ?_
    repeat first
      | tm_at "r2"
      | refine r_mul (cmulR ⟨by omega, by omega⟩) ?_
      | fail
    refine ⟨szl rfl, fun t9 ht => ?_⟩
    replace eq : a * (d * 1) = (n * b0) * b := eq
    have P9 : PairOk aSh (upd G t9 (.tup [.ref z, .int (b0 * a0), .int (a1)])) (.ref t9) := ⟨t9, z, a, b, b0 * a0, a1, rfl, upd_same, hZ.mono (same_new ht), Int.eq_of_mul_eq_mul_right (a := d) (by omega) (q_9 eq E1), by omega, by omega⟩
    have sJ : Same K3 (upd G t9 (.tup [.ref z, .int (b0 * a0), .int (a1)])) := sg.trans (same_new ht)
    replace sI := sI.trans sJ
    generalize upd G t9 (.tup [.ref z, .int (b0 * a0), .int (a1)]) = A3 at P9 sI sJ ⊢
    clear ht hZ hz q1 sg eq q2 z a b G
    replace ok : ∀ v ∈ xs3, PairOk aSh A3 v := fun v hv => (ok v hv).mono sJ
    replace hl := sJ _ _ hl
    clear sJ hta htb
    have hta := sI _ _ hta0
    have htb := sI _ _ htb0
    repeat first
      | tm_at "r2"
      | refine r_mul (cmulR ⟨by omega, by omega⟩) ?_
      | fail
    refine r_opN (hX.mono sI) (by omega) fun z a b G eq q1 sg hz hZ => ?_
    repeat first
      | tm_at "r2"
      | refine r_mul (cmulR ⟨by omega, by omega⟩) ?_
      | fail
    refine ⟨szl rfl, fun t10 ht => ?_⟩
    replace eq : a * d = -n * b := eq
    have P10 : PairOk aSh (upd G t10 (.tup [.ref z, .int (-a0), .int (a1)])) (.ref t10) := ⟨t10, z, a, b, -a0, a1, rfl, upd_same, hZ.mono (same_new ht), Int.eq_of_mul_eq_mul_right (a := d) (by omega) (q_10 eq E1), by omega, by omega⟩
    have sJ : Same A3 (upd G t10 (.tup [.ref z, .int (-a0), .int (a1)])) := sg.trans (same_new ht)
    replace sI := sI.trans sJ
    generalize upd G t10 (.tup [.ref z, .int (-a0), .int (a1)]) = B3 at P10 sI sJ ⊢
    clear ht hZ hz q1 sg eq z a b G
    replace P9 := P9.mono sJ
    replace ok : ∀ v ∈ xs3, PairOk aSh B3 v := fun v hv => (ok v hv).mono sJ
    replace hl := sJ _ _ hl
    clear sJ hta htb
    have hta := sI _ _ hta0
    have htb := sI _ _ htb0
    repeat first
      | tm_at "r2"
      | refine r_mul (cmulR ⟨by omega, by omega⟩) ?_
      | fail
    refine ⟨szl rfl, fun q hq0 => ?_⟩
    have sq : Same B3 (upd B3 q (.lst [.ref t9, .ref t10])) := same_new hq0
    have hq : upd B3 q (.lst [.ref t9, .ref t10]) q = some (.lst [.ref t9, .ref t10]) := upd_same
    replace hl := sq _ _ hl
    replace sI := sI.trans sq
    have ok2 : ∀ v ∈ xs3 ++ [V.ref t9, .ref t10], PairOk aSh (upd B3 q (.lst [.ref t9, .ref t10])) v := by
      intro v hv
      rcases List.mem_append.mp hv with hv | hv
      · exact (ok v hv).mono sq
      · rcases List.mem_cons.mp hv with rfl | hv
        · exact P9.mono sq
        · rw [List.mem_singleton.mp hv]
          exact P10.mono sq
    clear hta htb P9 P10 hq0 sq ok
    generalize upd B3 q (.lst [.ref t9, .ref t10]) = C3 at ok2 sI hl hq ⊢
    obtain ⟨zs, ezs⟩ : ∃ zs, zs = [V.ref t9, .ref t10] := ⟨_, rfl⟩
    have zl : zs.length = 2 := by rw [ezs]; rfl
    rw [← ezs] at ok2 hq
    tm_at "go"
    refine ⟨l, q, xs3, zs, rfl, rfl, hl, hq, szl (Nat.ble_eq_true_of_le (by omega)), ?_⟩
    have ok : ∀ v ∈ xs3 ++ zs, PairOk aSh (upd C3 l (.lst (xs3 ++ zs))) v := fun v hv => (ok2 v hv).setL hl
    replace sI := Same.updF sI hHl (o := .lst (xs3 ++ zs))
    replace hl : upd C3 l (.lst (xs3 ++ zs)) l = some (.lst (xs3 ++ zs)) := upd_same
    have xl' : (xs3 ++ zs).length = 10 := by rw [List.length_append]; omega
    clear ezs hq ok2
    generalize upd C3 l (.lst (xs3 ++ zs)) = K4 at ok sI hl ⊢
    generalize xs3 ++ zs = xs4 at ok hl xl' ⊢
    clear zl xl
    clear zs
    clear xs3
    have xl := xl'
    clear xl'
    tm_at "go"
    refine ⟨l, rfl, ⟨_, SqL.of hl⟩, fun D hD => ?_⟩
    refine lc_it (walk_list (xs := xs4)) (fun i H' => Same K4 H' ∧ H' D = some (.lst [])) ⟨same_new hD, upd_same⟩ (fun i H' _ p => SqL.of (p.1 _ _ hl)) ?_ ?_
    · rintro i y H1 H2 hi ⟨sm, hl1⟩ ⟨rfl, hy⟩
      obtain ⟨t, z, n', d', o, u, rfl, ht, hz, eq, ub, db⟩ := (ok y (List.mem_of_getElem? hy)).mono sm
      tm_at "go"
      refine r_gT (SqT.of ht) rfl ?_
      tm_at "go"
      refine ⟨rfl, ?_⟩
      tm_at "go"
      refine ⟨z, n', d', o, u, rfl, hz, eq, ub, db, fun H3 s3 => ?_⟩
      tm_at "go"
      exact ⟨sm.trans s3, s3 _ _ hl1⟩
    · rintro H1 ⟨sm, hl1⟩
      tm_at "go"
      refine ⟨szl rfl, fun p hp => ?_⟩
      refine r_eqD (.lst (SqL.of ((same_new hp) _ _ hl1)) .nil) (.lst (SqL.of upd_same) .nil) rfl rfl ?_
      exact k _ ((sI.trans sm).trans (same_new hp))
end
/-! ### the numbers of k61 -/
theorem posmul {q : Int} (h : 0 < q) (Y : Int) : (0 < Y * q ↔ 0 < Y) ∧ (Y * q < 0 ↔ Y < 0) ∧ (Y * q = 0 ↔ Y = 0) := by
  rcases Int.lt_trichotomy Y 0 with z | z | z
  · have := Int.mul_neg_of_neg_of_pos z h
    omega
  · subst z
    omega
  · have := Int.mul_pos z h
    omega
theorem cross {n d m e a0 a1 b0 b1 : Int} (h1 : n * a1 = a0 * d) (h2 : m * b1 = b0 * e) : (a0 * b1 - b0 * a1) * (d * e) = (n * e - m * d) * (a1 * b1) := by grind
theorem key2 {X Y Z W V : Int} (key : (0 < V ∧ ((X < Y) ↔ (Z < W)) ∧ ((X = Y) ↔ (Z = W))) ∨ (V < 0 ∧ ((X < Y) ↔ (W < Z)) ∧ ((X = Y) ↔ (Z = W)))) :
    decide (X < Y) = ((decide (Z < W) == decide (0 < V)) && !decide (Z = W)) ∧ decide (X = Y) = decide (Z = W) := by
  by_cases c1 : X < Y <;> by_cases c2 : Z < W <;> by_cases c3 : 0 < V <;> by_cases c4 : Z = W <;> by_cases c5 : X = Y <;> first | (exfalso; omega) | ((first | rw [decide_eq_true c1] | rw [decide_eq_false c1]); (first | rw [decide_eq_true c2] | rw [decide_eq_false c2]); (first | rw [decide_eq_true c3] | rw [decide_eq_false c3]); (first | rw [decide_eq_true c4] | rw [decide_eq_false c4]); (first | rw [decide_eq_true c5] | rw [decide_eq_false c5]); exact ⟨rfl, rfl⟩)
theorem less_eq {n d m e a0 a1 b0 b1 : Int} (h1 : n * a1 = a0 * d) (h2 : m * b1 = b0 * e) (d0 : 1 ≤ d) (e0 : 1 ≤ e) (a : a1 ≠ 0) (b : b1 ≠ 0) :
    decide (n * e < m * d) = ((decide (a0 * b1 < b0 * a1) == decide (0 < a1 * b1)) && !decide (a0 * b1 = b0 * a1)) ∧ decide (n * e = m * d) = decide (a0 * b1 = b0 * a1) := by
  have q := cross h1 h2
  have de : 0 < d * e := Int.mul_pos (by omega) (by omega)
  have ab : a1 * b1 ≠ 0 := Int.mul_ne_zero a b
  obtain ⟨p1, p2, p3⟩ := posmul de (a0 * b1 - b0 * a1)
  rw [q] at p1 p2 p3
  have key : (0 < a1 * b1 ∧ ((n * e < m * d) ↔ (a0 * b1 < b0 * a1)) ∧ ((n * e = m * d) ↔ (a0 * b1 = b0 * a1))) ∨ (a1 * b1 < 0 ∧ ((n * e < m * d) ↔ (b0 * a1 < a0 * b1)) ∧ ((n * e = m * d) ↔ (a0 * b1 = b0 * a1))) := by
    rcases Int.lt_or_gt_of_ne ab with z | z
    · obtain ⟨r1, r2, r3⟩ := posmul (q := -(a1 * b1)) (by omega) (n * e - m * d)
      rw [Int.mul_neg] at r1 r2 r3
      exact .inr ⟨z, by omega, by omega⟩
    · obtain ⟨r1, r2, r3⟩ := posmul z (n * e - m * d)
      exact .inl ⟨z, by omega, by omega⟩
  exact key2 key
theorem six {X Y : Int} : decide (X ≤ Y) = (decide (X < Y) || decide (X = Y)) ∧ decide (X > Y) = !(decide (X < Y) || decide (X = Y)) ∧ decide (X ≥ Y) = !decide (X < Y) := by
  by_cases c1 : X < Y <;> by_cases c5 : X = Y <;> by_cases c2 : X ≤ Y <;> by_cases c3 : X > Y <;> by_cases c4 : X ≥ Y <;> first | (exfalso; omega) | ((first | rw [decide_eq_true c1] | rw [decide_eq_false c1]); (first | rw [decide_eq_true c5] | rw [decide_eq_false c5]); (first | rw [decide_eq_true c2] | rw [decide_eq_false c2]); (first | rw [decide_eq_true c3] | rw [decide_eq_false c3]); (first | rw [decide_eq_true c4] | rw [decide_eq_false c4]); exact ⟨rfl, rfl, rfl⟩)
theorem Low.eqB {n d m e : Int} (h : Low n d) (g : Low m e) : decide (n = m ∧ d = e) = decide (n * e = m * d) := by
  by_cases z : n * e = m * d
  · rw [decide_eq_true z, decide_eq_true (h.uniq g z)]
  · rw [decide_eq_false z, decide_eq_false]
    rintro ⟨rfl, rfl⟩
    exact z rfl
theorem held_eq {n d m e n1 d1 n2 d2 n3 d3 n4 d4 n5 d5 : Int} (d0 : 1 ≤ d) (e0 : 1 ≤ e) (L1 : Low n1 d1) (L2 : Low n2 d2) (L3 : Low n3 d3) (L4 : Low n4 d4) (L5 : Low n5 d5)
    (E1 : n1 * (d * e) = (n * e + m * d) * d1) (E2 : n2 * (d1 * 1) = (n1 * 2) * d2) (E3 : n3 * (d2 * d) = (n2 * d - n * d2) * d3) (E4 : n4 * (d * e) = (n * e + m * d) * d4) (E5 : n5 * (d4 * e) = (n4 * e + m * d4) * d5) : n3 = n5 ∧ d3 = d5 := by
  have l1 := L1.pos
  have l2 := L2.pos
  have l4 := L4.pos
  have de : 0 < d * e := Int.mul_pos (by omega) (by omega)
  have A1 : n2 * (d * e) = 2 * (n * e + m * d) * d2 := Int.eq_of_mul_eq_mul_right (a := d1) (by omega) (by clear de l1 l2 l4 L1 L2 L3 L4 L5 E3 E4 E5; grind)
  have A : n3 * (d * e) = (n * e + 2 * m * d) * d3 := Int.eq_of_mul_eq_mul_right (a := d2) (by omega) (by clear de l1 l2 l4 L1 L2 L3 L4 L5 E1 E2 E4 E5; grind)
  have B : n5 * (d * e) = (n * e + 2 * m * d) * d5 := Int.eq_of_mul_eq_mul_right (a := d4) (by omega) (by clear de l1 l2 l4 L1 L2 L3 L4 L5 E1 E2 E3 A A1; grind)
  exact L3.uniq L5 (Int.eq_of_mul_eq_mul_right (a := d * e) (by omega) (by clear de l1 l2 l4 L1 L2 L3 L4 L5 E1 E2 E3 E4 E5 A1; grind))
theorem boolsD (bs : List Bool) : ∀ {K : PySem.W.Frag} {H : Hp}, Paired (fun v d => Sh K H v d 0 10) (bs.map V.bl) (bs.map PyData.bool) := by
  intro K H
  induction bs with
  | nil => exact .nil
  | cons b bs ih => exact .cons (sh_bl b) ih
theorem r_reprB {K : PySem.W.Frag} {H : Hp} {Q : VK} {l : Addr} {bs : List Bool} (h : H l = some (.lst (bs.map V.bl))) (z : bs.length ≤ 1000) (k : Q (.str (PyData.list (bs.map PyData.bool)).shown) H) : rRepr K [.ref l] H Q :=
  Sh.repr (sh_lst (SqL.of h) (boolsD bs) (m := 50000) (by rw [List.length_map]; omega)) (by decide) (by decide) k
def spLaw (K : PySem.W.Frag) : Sp := fun vs H Q _ => ∃ (a : Addr) (ns : List Int), vs = [.ref a] ∧ SqL K H a (ns.map V.int) ∧ ns.length ≤ 63 ∧ ∀ H', Q (.bl true) H'
theorem q_same {n d n' d' a p : Int} (h : n * a = p * d) (h' : n' * a = p * d') : n * d' * a = n' * d * a := by grind
theorem ltN {d : Int} {k : Nat} (h : d.natAbs < k) (g : k ≤ 10000000000000000000) : d < 10000000000000000000 := by omega
theorem ends_gen {t : TS} {D : Ends} {σ : St} {H : Hp} (h : ∀ D' : Ends, D'.nx = D.nx → D'.rt = D.rt → t D' σ H) : t D σ H := h D rfl rfl
/-- keywords whole, part -/
def gWPv {α : Type} (us its ws : List α) : List α := match ws with | [w, p] => us ++ [p, w] | _ => us ++ its ++ ws
def gWP : List V → List V → List V := fun vs zs => gWPv vs [.int 1] zs
theorem gWP_rel {vs ds zs : List V} {us its ws : List Value} (r1 : Vals vs us) (r2 : Vals ds its) (r3 : Vals zs ws) : Vals (gWPv vs ds zs) (gWPv us its ws) := by
  match zs, ws, r3 with
  | [], [], _ => exact (r1.append r2).append .nil
  | [_], [_], .cons a b => exact (r1.append r2).append (.cons a b)
  | [_, _], [_, _], .cons a (.cons b c) => exact r1.append (.cons b (.cons a c))
  | _ :: _ :: _ :: _, _ :: _ :: _ :: _, .cons a (.cons b (.cons c d)) => exact (r1.append r2).append (.cons a (.cons b (.cons c d)))
theorem r_neB {aSh : Addr} {H : Hp} {Q : VK} {x y : Addr} {n d m e : Int} (hX : ShAt aSh H x n d) (hY : ShAt aSh H y m e) (k : ∀ H', Same H H' → Q (.bl (!decide (n = m ∧ d = e))) H') :
    ∃ (a dx : Addr) (fs : List (Str × V)) (b dy : Addr) (gs : List (Str × V)), V.ref x = .ref a ∧ V.ref y = .ref b ∧ H a = some (.ins aSh dx fs) ∧ H b = some (.ins aSh dy gs) ∧ spEqS aSh [.ref x, .ref y] H (fun v H' => ∃ c, v = .bl c ∧ Q (.bl (!c)) H') E0 :=
  let ⟨dx, hx⟩ := hX.1
  let ⟨dy, hy⟩ := hY.1
  ⟨x, dx, _, y, dy, _, rfl, rfl, hx, hy, x, .ref y, n, d, m, e, rfl, hX, .inl ⟨y, rfl, hY⟩, fun H' s => ⟨_, rfl, k H' s⟩⟩
section
variable {K : PySem.W.Frag}
set_option maxHeartbeats 8000000 in
theorem ok_law (F : DefAt K mg "law" s_law) (T : Txt K mg aGround aInv aSh) (D_law_box : DefOk P w K mg base CX0 1 "_law_box" ["_law_script", "_law_k", "_law_own"] (spBox K)) (D_law_number : DefOk P w K mg base CX0 2 "_law_number" ["_law_box_here"] spNumber)
    (D_law_is : DefOk P w K mg base CX0 1 "_law_is" ["_law_made", "_law_over_it", "_law_under"] (spIs aSh)) (D_law_refused : DefOk P w K mg base CX0 5 "_law_refused" [] spRef)
    (D_law_signs_right : DefOk P w K mg base CX0 6 "_law_signs_right" ["_law_one", "_law_two", "_law_a", "_law_b"] (spSigns aSh)) (M_Share : MakeOk P w K mg base (L2.CX P w) 3 "Share" aSh ["self", "part", "whole"] [] (spShI aSh aInv))
    (M_Share_1 : MakeOk P w K mg base (L2.CX P w) 3 "Share" aSh ["self", "part", "whole"] [.int 1] (spShI aSh aInv)) (K_Share_whole_part : MakeKOk P w K mg base (L2.CX P w) 3 "Share" aSh ["self", "part", "whole"] 0 ["whole", "part"] gWP (spShI aSh aInv))
    (M_Share__add : MetOk P w K mg base CX0 5 aSh "__add__" ["self", "other"] (spOp aSh fun n d m e => n * e + m * d)) (M_Share__sub : MetOk P w K mg base CX0 5 aSh "__sub__" ["self", "other"] (spOp aSh fun n d m e => n * e - m * d))
    (M_Share__mul : MetOk P w K mg base CX0 5 aSh "__mul__" ["self", "other"] (spOp aSh fun n d m e => n * m)) (M_Share__eq : MetOk P w K mg base CX0 1 aSh "__eq__" ["self", "other"] (spEqS aSh)) (M_Share__str : MetOk P w K mg base CX0 1 aSh "__str__" ["self"] (spStrS aSh))
    (M_Share__lt : MetOk P w K mg base CX0 2 aSh "__lt__" ["self", "other"] (spCmp aSh fun a b => decide (a < b))) (M_Share__le : MetOk P w K mg base CX0 2 aSh "__le__" ["self", "other"] (spCmp aSh fun a b => decide (a ≤ b)))
    (M_Share__gt : MetOk P w K mg base CX0 2 aSh "__gt__" ["self", "other"] (spCmp aSh fun a b => decide (a > b))) (M_Share__ge : MetOk P w K mg base CX0 2 aSh "__ge__" ["self", "other"] (spCmp aSh fun a b => decide (a ≥ b))) :
    DefG P w K mg base CX0 7 "law" ["_law_script"] (spLaw K) := by
  refine F.okG sc_law (fun _ _ _ _ _ _ us hl => match us, hl with | [_], _ => rfl) (fun vs H Q E h => ?_) (fun f cdv A outer s H vs Q E hgd hr h => ?_)
  · obtain ⟨a, ns, rfl, _⟩ := h
    rfl
  · obtain ⟨a, ns, rfl, hS, nl, k⟩ := h
    refine ⟨_, (pss_cons (ps_for PassesOwn.never rfl (pi_range1 (by rfl) T.n_range (pa_cons (pe_callB (c_max2 rfl) (by rfl) T.n_max (by decide +kernel) (pa_cons pe_int (pa_cons (pe_callB (c_min2 rfl) (by rfl) T.n_min (by decide +kernel) (pa_cons pe_int (pa_cons (pe_callB (c_len K) (by rfl) T.n_len (by decide +kernel) (pa_cons (pv 0) pa_nil)) pa_nil))) pa_nil))) pa_nil)) (pg_name (i := 1) sc_law.nd rfl (Or.inl rfl))
  (pss_cons (ps_set (i := 2) sc_law.nd rfl (Or.inr rfl) (pe_callD D_law_box (hr.mono (by decide)) pass0 rfl (pa_cons (pv 0) (pa_cons (pv 1) (pa_cons pe_int pa_nil)))))
  (pss_one (ps_for PassesOwn.never rfl (pi_range1 (by rfl) T.n_range (pa_cons pe_int pa_nil)) (pg_name (i := 3) sc_law.nd rfl (Or.inl rfl))
  (pss_cons (ps_asg (pe_lc (own := [("_law_side", 14)]) (g := (gName 14)) rfl sc_law.nd (pi_range1 (by rfl) T.n_range (pa_cons pe_int pa_nil)) (blkOk_by (own := [("_law_side", 14)]) (N := ["_law_script", "_law_k", "_law_box_here", "_law_turn", "_law_less", "_law_same", "_law_found", "_law_under", "_law_sides", "_law_held", "_law_a", "_law_b", "_law_one", "_law_two", "_law_side"]) (sc := defScope s_law) (by decide +kernel)) (fun _ _ _ _ _ => (pg_name (i := 14) sc_law.nd rfl (Or.inl rfl) (Or.inr rfl))) (fun _ _ _ _ _ => pts_nil) (fun _ _ _ _ _ => (pe_tup (pa_cons (pe_callD D_law_number (hr.mono (by decide)) pass0 rfl (pa_cons (pv 2) pa_nil)) (pa_cons (pe_callD D_law_number (hr.mono (by decide)) pass0 rfl (pa_cons (pv 2) pa_nil)) pa_nil))))) (pg_l (n := 2) K rfl (pgs_cons (pg_name (i := 10) sc_law.nd rfl (Or.inl rfl)) (pgs_cons (pg_name (i := 11) sc_law.nd rfl (Or.inl rfl)) pgs_nil))))
  (pss_cons (ps_par (i := 10) (j := 11) (by rfl) sc_law.nd rfl rfl (by decide) rfl rfl (pa_cons (pe_tup (pa_cons (pe_ix (ix_u K) (pv 10) pe_int (fun _ _ => rfl)) (pa_cons (pe_cut (pe_ifExp (pt_cmpR (o_ne K hr.units) (pe_ix (ix_u K) (pv 10) pe_int (fun _ _ => rfl)) pe_int (nomark _)) (pe_ix (ix_u K) (pv 10) pe_int (fun _ _ => rfl)) pe_int)) pa_nil))) (pa_cons (pe_tup (pa_cons (pe_ix (ix_u K) (pv 11) pe_int (fun _ _ => rfl)) (pa_cons (pe_cut (pe_ifExp (pt_cmpR (o_ne K hr.units) (pe_ix (ix_u K) (pv 11) pe_int (fun _ _ => rfl)) pe_int (nomark _)) (pe_ix (ix_u K) (pv 11) pe_int (fun _ _ => rfl)) (pe_un un_neg pe_int))) pa_nil))) pa_nil)) (by rfl))
  (pss_cons (ps_par (i := 12) (j := 13) (by rfl) sc_law.nd rfl rfl (by decide) rfl rfl (pa_cons (pe_makeD M_Share (hr.mono (by decide)) passF rfl (pa_cons (pe_ix (ix_u K) (pv 10) pe_int (fun _ _ => rfl)) (pa_cons (pe_ix (ix_u K) (pv 10) pe_int (fun _ _ => rfl)) pa_nil))) (pa_cons (pe_makeKD0 K_Share_whole_part (hr.mono (by decide)) passF rfl (pk_cons (pe_ix (ix_u K) (pv 11) pe_int (fun _ _ => rfl)) (pk_cons (pe_ix (ix_u K) (pv 11) pe_int (fun _ _ => rfl)) pk_nil))) pa_nil)) (by rfl))
  (pss_cons (ps_if (PW.pt (pw_or (pt_not (pt_tr K (pe_callD D_law_is (hr.mono (by decide)) pass0 rfl (pa_cons (pv 12) (pa_cons (pe_ix (ix_u K) (pv 10) pe_int (fun _ _ => rfl)) (pa_cons (pe_ix (ix_u K) (pv 10) pe_int (fun _ _ => rfl)) pa_nil)))))) (pw_or1 (pt_not (pt_tr K (pe_callD D_law_is (hr.mono (by decide)) pass0 rfl (pa_cons (pv 13) (pa_cons (pe_ix (ix_u K) (pv 11) pe_int (fun _ _ => rfl)) (pa_cons (pe_ix (ix_u K) (pv 11) pe_int (fun _ _ => rfl)) pa_nil))))))))) (pss_one (ps_ret pe_bl))
  pss_nil)
  (pss_cons (ps_if (pt_not (pt_tr K (pe_callD D_law_signs_right (hr.mono (by decide)) pass0 rfl (pa_cons (pv 12) (pa_cons (pv 13) (pa_cons (pv 10) (pa_cons (pv 11) pa_nil))))))) (pss_one (ps_ret pe_bl))
  pss_nil)
  (pss_cons (ps_set (i := 4) sc_law.nd rfl (Or.inl rfl) (pe_cmpR (o_eq K hr.units) (pe_cmpR o_lt (pe_op o_mul (pe_ix (ix_u K) (pv 10) pe_int (fun _ _ => rfl)) (pe_ix (ix_u K) (pv 11) pe_int (fun _ _ => rfl))) (pe_op o_mul (pe_ix (ix_u K) (pv 11) pe_int (fun _ _ => rfl)) (pe_ix (ix_u K) (pv 10) pe_int (fun _ _ => rfl))) (nomark _)) (pe_cmpR o_gt (pe_op o_mul (pe_ix (ix_u K) (pv 10) pe_int (fun _ _ => rfl)) (pe_ix (ix_u K) (pv 11) pe_int (fun _ _ => rfl))) pe_int (nomark _)) (nomark _)))
  (pss_cons (ps_set (i := 5) sc_law.nd rfl (Or.inl rfl) (pe_cmpR (o_eq K hr.units) (pe_op o_mul (pe_ix (ix_u K) (pv 10) pe_int (fun _ _ => rfl)) (pe_ix (ix_u K) (pv 11) pe_int (fun _ _ => rfl))) (pe_op o_mul (pe_ix (ix_u K) (pv 11) pe_int (fun _ _ => rfl)) (pe_ix (ix_u K) (pv 10) pe_int (fun _ _ => rfl))) (nomark _)))
  (pss_cons (ps_set (i := 4) sc_law.nd rfl (Or.inl rfl) (pe_cut (pe_and (pv 4) (pe_one (pe_not (pv 5))))))
  (pss_cons (ps_set (i := 6) sc_law.nd rfl (Or.inl rfl) (pe_lst (pa_cons (pe_cmpR (o_cmpAny M_Share__lt K (hu0_of hr) (hr.mono (by decide)) pass0) (pv 12) (pv 13) (nomark _)) (pa_cons (pe_cmpR (o_cmpAny M_Share__le K (hu0_of hr) (hr.mono (by decide)) pass0) (pv 12) (pv 13) (nomark _)) (pa_cons (pe_cmpR (o_cmpAny M_Share__gt K (hu0_of hr) (hr.mono (by decide)) pass0) (pv 12) (pv 13) (nomark _)) (pa_cons (pe_cmpR (o_cmpAny M_Share__ge K (hu0_of hr) (hr.mono (by decide)) pass0) (pv 12) (pv 13) (nomark _)) (pa_cons (pe_cmpR (o_cmpAny M_Share__eq K (hu0_of hr) (hr.mono (by decide)) pass0) (pv 12) (pv 13) (nomark _)) (pa_cons (pe_cmpR (o_neOwn M_Share__eq T.ne_Share T.ob_Share hr.units (hr.mono (by decide))) (pv 12) (pv 13) (nomark _)) pa_nil))))))))
  (pss_cons (ps_if (pt_cmpR (o_ne K hr.units) (pe_callB (c_repr K hgd hr.units) (by rfl) T.n_repr (by decide +kernel) (pa_cons (pv 6) pa_nil)) (pe_callB (c_repr K hgd hr.units) (by rfl) T.n_repr (by decide +kernel) (pa_cons (pe_lst (pa_cons (pv 4) (pa_cons (pe_cut (pe_or (pv 4) (pe_one (pv 5)))) (pa_cons (pe_not (pe_cut (pe_or (pv 4) (pe_one (pv 5))))) (pa_cons (pe_not (pv 4)) (pa_cons (pv 5) (pa_cons (pe_not (pv 5)) pa_nil))))))) pa_nil)) (nomark _)) (pss_one (ps_ret pe_bl))
  pss_nil)
  (pss_cons (ps_set (i := 7) sc_law.nd rfl (Or.inl rfl) (pe_op o_div (pe_fl K (pv 12)) (pe_fl K (pv 12))))
  (pss_cons (ps_set (i := 8) sc_law.nd rfl (Or.inl rfl) (pe_lst (pa_cons (pe_cmpR (o_cmpAny M_Share__lt K (hu0_of hr) (hr.mono (by decide)) pass0) (pv 12) (pv 7) (nomark _)) (pa_cons (pe_cmpR (o_cmpAny M_Share__ge K (hu0_of hr) (hr.mono (by decide)) pass0) (pv 12) (pv 7) (nomark _)) (pa_cons (pe_cmpR (o_cmpAny M_Share__eq K (hu0_of hr) (hr.mono (by decide)) pass0) (pv 12) (pv 7) (nomark _)) pa_nil)))))
  (pss_cons (ps_if (pt_cmpR (o_ne K hr.units) (pe_callB (c_repr K hgd hr.units) (by rfl) T.n_repr (by decide +kernel) (pa_cons (pv 8) pa_nil)) pe_str (nomark _)) (pss_one (ps_ret pe_bl))
  pss_nil)
  (pss_cons (ps_if (pt_cut (PW.pt (pw_and (pt_cmpR o_lt (pv 7) pe_int (nomark _)) (pw_and1 (pt_not (pt_cmpR (o_cmpAny M_Share__lt K (hu0_of hr) (hr.mono (by decide)) pass0) (pv 12) (pe_op (o_add K) (pv 7) pe_int) (nomark _))))))) (pss_one (ps_ret pe_bl))
  pss_nil)
  (pss_cons (ps_if (pt_cmpR (o_ne K hr.units) (pe_callTy (c_strOwn M_Share__str hr.units (hr.mono (by decide))) (by rfl) T.n_str (by decide +kernel) (pa_cons (pv 12) pa_nil)) (pe_cut (pe_ifExp (pt_cmpR (o_eq K hr.units) (pe_fl K (pv 12)) pe_int (nomark _)) (pe_callTy c_str (by rfl) T.n_str (by decide +kernel) (pa_cons (pe_fl K (pv 12)) pa_nil)) (pe_op (o_add K) (pe_op (o_add K) (pe_callTy c_str (by rfl) T.n_str (by decide +kernel) (pa_cons (pe_fl K (pv 12)) pa_nil)) pe_str) (pe_callTy c_str (by rfl) T.n_str (by decide +kernel) (pa_cons (pe_fl K (pv 12)) pa_nil))))) (nomark _)) (pss_one (ps_ret pe_bl))
  pss_nil)
  (pss_cons (ps_set (i := 9) sc_law.nd rfl (Or.inl rfl) (pv 12))
  (pss_cons (ps_aug (i := 9) sc_law.nd rfl (Or.inl rfl) (pv 13) (ip_own M_Share__add T.ib.sf T.ni_add (hr.mono (by decide)) pass0))
  (pss_cons (ps_aug (i := 9) sc_law.nd rfl (Or.inl rfl) pe_int (ip_ownI' M_Share__mul T.ib T.ni_mul T.g_rmul (hr.mono (by decide)) pass0))
  (pss_cons (ps_aug (i := 9) sc_law.nd rfl (Or.inl rfl) (pv 12) (ip_own M_Share__sub T.ib.sf T.ni_sub (hr.mono (by decide)) pass0))
  (pss_one (ps_if (PW.pt (pw_or (pt_cmpR (o_neOwn M_Share__eq T.ne_Share T.ob_Share hr.units (hr.mono (by decide))) (pv 9) (pe_op (o_own M_Share__add T.ib.sf (hr.mono (by decide)) pass0) (pe_op (o_own M_Share__add T.ib.sf (hr.mono (by decide)) pass0) (pv 12) (pv 13)) (pv 13)) (nomark _)) (pw_or1 (pt_cmpR (o_neOwn M_Share__eq T.ne_Share T.ob_Share hr.units (hr.mono (by decide))) (pv 12) (pe_makeD M_Share (hr.mono (by decide)) passF rfl (pa_cons (pe_ix (ix_u K) (pv 10) pe_int (fun _ _ => rfl)) (pa_cons (pe_ix (ix_u K) (pv 10) pe_int (fun _ _ => rfl)) pa_nil))) (nomark _))))) (pss_one (ps_ret pe_bl))
  pss_nil)))))))))))))))))))))))))
  (pss_cons (ps_if (PW.pt (pw_or (pt_cmpR (o_neOwn M_Share__eq T.ne_Share T.ob_Share hr.units (hr.mono (by decide))) (pe_makeD M_Share (hr.mono (by decide)) passF rfl (pa_cons pe_int (pa_cons pe_int pa_nil))) (pe_makeD M_Share (hr.mono (by decide)) passF rfl (pa_cons pe_int (pa_cons pe_int pa_nil))) (nomark _)) (pw_or (pt_not (pt_cmpR (o_iCmp M_Share__gt T.ib (hu0_of hr) (hr.mono (by decide)) pass0 PySem.F.slot_int_lt PySem.F.entry_int_lt PySem.F.args_int_lt_2 rfl) pe_int (pe_makeD M_Share (hr.mono (by decide)) passF rfl (pa_cons pe_int (pa_cons pe_int pa_nil))) (nomark _))) (pw_or (pt_not (pt_cmpR (o_iCmp M_Share__le T.ib (hu0_of hr) (hr.mono (by decide)) pass0 PySem.F.slot_int_ge PySem.F.entry_int_ge PySem.F.args_int_ge_2 rfl) pe_int (pe_makeD M_Share (hr.mono (by decide)) passF rfl (pa_cons pe_int (pa_cons pe_int pa_nil))) (nomark _))) (pw_or1 (pt_cmpR (o_iCmp M_Share__lt T.ib (hu0_of hr) (hr.mono (by decide)) pass0 PySem.F.slot_int_gt PySem.F.entry_int_gt PySem.F.args_int_gt_2 rfl) pe_int (pe_makeD M_Share (hr.mono (by decide)) passF rfl (pa_cons pe_int (pa_cons pe_int pa_nil))) (nomark _))))))) (pss_one (ps_ret pe_bl))
  pss_nil)
  (pss_one (ps_ret (pe_and (pe_cmpR (o_eq K hr.units) (pe_callD0 D_law_refused (hr.mono (by decide)) pass0 rfl) pe_str (nomark _)) (pe_and (pe_cmpR (o_eq K hr.units) (pe_callTy (c_strOwn M_Share__str hr.units (hr.mono (by decide))) (by rfl) T.n_str (by decide +kernel) (pa_cons (pe_makeD M_Share (hr.mono (by decide)) passF rfl (pa_cons (pe_un un_neg pe_int) (pa_cons pe_int pa_nil))) pa_nil)) pe_str (nomark _)) (pe_one (pe_cmpR (o_cmpAny M_Share__eq K (hu0_of hr) (hr.mono (by decide)) pass0) (pe_makeD M_Share_1 (hr.mono (by decide)) passF rfl (pa_cons pe_int pa_nil)) (pe_makeD M_Share (hr.mono (by decide)) passF rfl (pa_cons pe_int (pa_cons pe_int pa_nil))) (nomark _))))))))), ?_⟩
    tm_at "go"
    refine ⟨_, rfl, by split <;> split <;> omega, by split <;> split <;> omega, for_range (lo := 0) (n := _)
      (fun i σ H' => (∃ o1 o2 o3 o4 o5 o6 o7 o8 o9 o10 o11 o12 o13 : Option V, σ = [some (.ref a), o1, o2, o3, o4, o5, o6, o7, o8, o9, o10, o11, o12, o13, Option.none]) ∧ Same H H') ⟨⟨_, _, _, _, _, _, _, _, _, _, _, _, _, rfl⟩, Same.refl⟩ ?_ ?_⟩
    · rintro i σ H0 hi ⟨⟨o1, o2, o3, o4, o5, o6, o7, o8, o9, o10, o11, o12, o13, rfl⟩, sm0⟩
      have hi4 : i < 64 := by
        have : (if (if (↑(List.map V.int ns).length : Int) < 3 then (↑(List.map V.int ns).length : Int) else 3) > 1 then
              if (↑(List.map V.int ns).length : Int) < 3 then (↑(List.map V.int ns).length : Int) else 3 else 1) ≤ 3 := by split <;> split <;> omega
        omega
      tm_at "go"
      refine ⟨a, ns, _, 61, rfl, Same.seqL sm0 hS, by omega, by omega, by decide, by decide, by omega, fun b H1 hb0 hx1 => ?_⟩
      have hb : H b = Option.none := Same.free sm0 hb0
      tm_at "go"
      refine ⟨_, rfl, by decide, by decide, for_range (lo := 0) (n := _)
        (fun j σ H' => (∃ o1 o3 o4 o5 o6 o7 o8 o9 o10 o11 o12 o13 : Option V, σ = [some (.ref a), o1, some (.ref b), o3, o4, o5, o6, o7, o8, o9, o10, o11, o12, o13, Option.none]) ∧ Same H H' ∧ BoxAt H' b)
        ⟨⟨_, _, _, _, _, _, _, _, _, _, _, _, rfl⟩, Same.bx sm0 hx1 hb, hx1.box⟩ ?_ ?_⟩
      · clear o1 o2 o3 o4 o5 o6 o7 o8 o9 o10 o11 o12 o13
        rintro j σ H2 hj ⟨⟨o1, o3, o4, o5, o6, o7, o8, o9, o10, o11, o12, o13, rfl⟩, sm2, bx2⟩
        clear sm0 hx1
        refine r_gName ?_
        refine ends_gen fun DD hnx _ => ?_
        tm_at "go"
        refine ⟨2, rfl, by decide, by decide, fun D hD => ?_⟩
        have nDb : D ≠ b := Ne.symm (bx2.fresh hD)
        refine lc_range (lo := 0) (fun i H' => Bx b H2 H' ∧ ∃ ts : List V, ts.length = i ∧ H' D = some (.lst ts) ∧ ∀ v ∈ ts, ∃ (t : Addr) (p q : Int), v = .ref t ∧ t ≠ b ∧ H' t = some (.tup [.int p, .int q]) ∧ -1000000 < p ∧ p < 1000000 ∧ -1000000 < q ∧ q < 1000000)
          ⟨(Bx.refl bx2).upd hD, [], rfl, upd_same, fun v hv => nomatch hv⟩ ?_ ?_
        · rintro i H3 hi ⟨hx3, ts, lts, hl, hts⟩
          tm_at "go"
          refine ⟨rfl, ?_⟩
          tm_at "go"
          refine ⟨b, rfl, hx3.box, fun p H4 p0 p1 hx4 => ?_⟩
          tm_at "go"
          refine ⟨b, rfl, hx4.box, fun q H5 q0 q1 hx5 => ?_⟩
          tm_at "go"
          refine ⟨szl rfl, fun t ht => ?_⟩
          have ntb : t ≠ b := Ne.symm (hx5.box.fresh ht)
          have hx35 := hx4.trans hx5
          have hl5 := hx35.keep _ _ nDb hl
          have nDt : D ≠ t := ne_of_none hl5 ht
          have bxn := hx35.upd (o := .tup [.int p, .int q]) ht
          have hl6 : upd H5 t (.tup [.int p, .int q]) D = some (.lst ts) := at_upd nDt hl5
          have htn : upd H5 t (.tup [.int p, .int q]) t = some (.tup [.int p, .int q]) := upd_same
          have hts5 : ∀ v ∈ ts ++ [V.ref t], ∃ (t' : Addr) (p' q' : Int), v = .ref t' ∧ t' ≠ b ∧ upd H5 t (.tup [.int p, .int q]) t' = some (.tup [.int p', .int q']) ∧ -1000000 < p' ∧ p' < 1000000 ∧ -1000000 < q' ∧ q' < 1000000 := by
            intro v hv
            rcases List.mem_append.mp hv with hv | hv
            · obtain ⟨t', p', q', rfl, nb', ht', c⟩ := hts v hv
              have e5 := hx35.keep _ _ nb' ht'
              exact ⟨t', p', q', rfl, nb', at_upd (ne_of_none e5 ht) e5, c⟩
            · rw [List.mem_singleton.mp hv]
              exact ⟨t, p, q, rfl, ntb, htn, p0, p1, q0, q1⟩
          refine ⟨ts, hl6, szlt (Nat.ble_eq_true_of_le (by omega)), (hx3.trans bxn).updD hD nDb, ts ++ [V.ref t], by rw [List.length_append, lts]; rfl, upd_same, fun v hv => ?_⟩
          obtain ⟨t', p', q', rfl, nb', ht', c⟩ := hts5 v hv
          exact ⟨t', p', q', rfl, nb', at_upd (ne_kind ht' hl6 fun z => nomatch z) ht', c⟩
        · rintro H3 ⟨hx3, ts, lts, hl, hts⟩
          have sm3 : Same H H3 := Same.bx sm2 hx3 hb
          have bx3 := hx3.box
          clear hx3 sm2 bx2 hD nDb
          obtain ⟨u1, u2, rfl⟩ : ∃ u1 u2, ts = [u1, u2] := by
            match ts, lts with
            | [u1, u2], _ => exact ⟨u1, u2, rfl⟩
          obtain ⟨t1, pa, qa, rfl, -, ht1, pa0, pa1, qa0, qa1⟩ := hts u1 (List.mem_cons_self ..)
          obtain ⟨t2, pb, qb, rfl, -, ht2, pb0, pb1, qb0, qb1⟩ := hts u2 (List.mem_cons_of_mem _ (List.mem_cons_self ..))
          clear hts lts
          tm_at "go"
          refine r_gL (SqL.of hl) rfl ?_
          tm_at "go"
          refine r_cutE (fun v H' => H' = H3 ∧ ∃ w : Int, v = .int w ∧ w ≠ 0 ∧ -1000000 < w ∧ w < 1000000) ?_ ?_
          · tm_at "go"
            refine r_ne rfl ?_
            by_cases z : qa = 0
            · subst z
              tm_at "go"
              rw [neSelf]
              tm_at "go"
              exact ⟨rfl, 1, rfl, by decide, by decide, by decide⟩
            · tm_at "go"
              rw [decide_eq_false (fun y => z (V.int.inj y))]
              tm_at "go"
              exact ⟨rfl, qa, rfl, z, qa0, qa1⟩
          rintro v G ⟨hG, a1, rfl, a1n, a10, a11⟩
          subst hG
          refine ⟨szl rfl, fun ta hta0 => ?_⟩
          have s1 : Same G (upd G ta (.tup [.int pa, .int a1])) := same_new hta0
          have hta : upd G ta (.tup [.int pa, .int a1]) ta = some (.tup [.int pa, .int a1]) := upd_same
          replace ht2 := s1 _ _ ht2
          have sm4 := sm3.trans s1
          have bx4 := bx3.same s1
          generalize upd G ta (.tup [.int pa, .int a1]) = H4 at hta ht2 sm4 bx4 ⊢
          clear s1 hl ht1 sm3 bx3 hta0
          tm_at "go"
          refine r_cutE (fun v H' => H' = H4 ∧ ∃ w : Int, v = .int w ∧ w ≠ 0 ∧ -1000000 < w ∧ w < 1000000) ?_ ?_
          · tm_at "go"
            refine r_ne rfl ?_
            by_cases z : qb = 0
            · subst z
              tm_at "go"
              rw [neSelf]
              tm_at "go"
              exact ⟨rfl, -3, rfl, by decide, by decide, by decide⟩
            · tm_at "go"
              rw [decide_eq_false (fun y => z (V.int.inj y))]
              tm_at "go"
              exact ⟨rfl, qb, rfl, z, qb0, qb1⟩
          rintro v G2 ⟨hG, b1, rfl, b1n, b10, b11⟩
          subst hG
          refine ⟨szl rfl, fun tb htb0 => ?_⟩
          have s1 : Same G2 (upd G2 tb (.tup [.int pb, .int b1])) := same_new htb0
          have htb : upd G2 tb (.tup [.int pb, .int b1]) tb = some (.tup [.int pb, .int b1]) := upd_same
          replace hta := s1 _ _ hta
          have sm5 := sm4.trans s1
          have bx5 := bx4.same s1
          generalize upd G2 tb (.tup [.int pb, .int b1]) = H5 at hta htb sm5 bx5 ⊢
          clear s1 ht2 sm4 bx4 htb0
          clear G D
          tm_at "go"
          refine r_share (p := pa) (w := a1) (by omega) (by omega) fun x n d H6 E1 d1 n1 s6 hx0 hX => ?_
          replace hta := s6 _ _ hta
          replace htb := s6 _ _ htb
          have sm6 := sm5.trans s6
          have bx6 := bx5.same s6
          clear s6 sm5 bx5
          tm_at "go"
          refine r_makeN ?_
          tm_at "go"
          refine ⟨rfl, rfl, r_share (p := pb) (w := b1) (by omega) (by omega) fun y m e H7 E2 e1 m1 s7 hy0 hY => ?_⟩
          replace hX := hX.mono s7
          replace hta := s7 _ _ hta
          replace htb := s7 _ _ htb
          have sm7 := sm6.trans s7
          have bx7 := bx6.same s7
          clear s7 sm6 bx6
          clear hx0 hy0
          have d0 := hX.2.pos
          have e0 := hY.2.pos
          tm_at "go"
          refine ⟨x, n, d, pa, a1, rfl, hX, E1, by omega, by omega, fun H8 s8 => ?_⟩
          simp only [List.set_cons_succ, List.set_cons_zero]
          replace hX := hX.mono s8
          replace hY := hY.mono s8
          replace hta := s8 _ _ hta
          replace htb := s8 _ _ htb
          have sm8 := sm7.trans s8
          have bx8 := bx7.same s8
          clear s8 sm7 bx7
          tm_at "go"
          refine ⟨y, m, e, pb, b1, rfl, hY, E2, by omega, by omega, fun H9 s9 => ?_⟩
          replace hX := hX.mono s9
          replace hY := hY.mono s9
          replace hta := s9 _ _ hta
          replace htb := s9 _ _ htb
          have sm9 := sm8.trans s9
          have bx9 := bx8.same s9
          clear s9 sm8 bx8
          tm_at "go"
          refine ⟨x, y, ta, tb, n, d, m, e, pa, a1, pb, b1, rfl, hX, hY, hta, htb, E1, E2, d1, e1, n1, m1, by omega, by omega, by omega, by omega, fun H10 s10 => ?_⟩
          replace hX := hX.mono s10
          replace hY := hY.mono s10
          replace hta := s10 _ _ hta
          replace htb := s10 _ _ htb
          have sm10 := sm9.trans s10
          have bx10 := bx9.same s10
          clear s10 sm9 bx9
          obtain ⟨q1, q2⟩ := less_eq E1 E2 d0 e0 a1n b1n
          repeat first
            | tm_at "r2"
            | refine r_mul (cmulR ⟨by omega, by omega⟩) ?_
            | fail
          refine r_eq rfl ?_
          repeat first
            | tm_at "r2"
            | refine r_mul (cmulR ⟨by omega, by omega⟩) ?_
            | fail
          refine r_eq rfl ?_
          tm_at "go"
          rw [show decide (V.bl (decide (pa * b1 < pb * a1)) = V.bl (decide (0 < a1 * b1))) = (decide (pa * b1 < pb * a1) == decide (0 < a1 * b1)) from by cases decide (pa * b1 < pb * a1) <;> cases decide (0 < a1 * b1) <;> decide,
            show decide (V.int (pa * b1) = V.int (pb * a1)) = decide (pa * b1 = pb * a1) from by simp]
          generalize hS : decide (pa * b1 = pb * a1) = S at q1 q2 ⊢
          generalize hL0 : (decide (pa * b1 < pb * a1) == decide (0 < a1 * b1)) = L0 at q1 ⊢
          refine r_cutE (fun v H' => H' = H10 ∧ v = .bl (L0 && !S)) ?_ ?_
          · tm_at "go"
            cases L0
            · tm_at "go"
              exact ⟨rfl, rfl⟩
            · tm_at "go"
              exact ⟨rfl, rfl⟩
          rintro v G ⟨hG, rfl⟩
          subst hG
          rw [← q1, ← q2]
          clear hL0 hS q1 q2
          tm_at "go"
          simp only [List.set_cons_succ, List.set_cons_zero]
          refine r_cmpB hX hY T.tyS (by omega) (by omega) fun H11 s11 => ?_
          replace hX := hX.mono s11
          replace hY := hY.mono s11
          replace hta := s11 _ _ hta
          replace htb := s11 _ _ htb
          have sm11 := sm10.trans s11
          have bx11 := bx10.same s11
          clear s11 sm10 bx10
          tm_at "go"
          refine r_cmpB hX hY T.tyS (by omega) (by omega) fun H12 s12 => ?_
          replace hX := hX.mono s12
          replace hY := hY.mono s12
          replace hta := s12 _ _ hta
          replace htb := s12 _ _ htb
          have sm12 := sm11.trans s12
          have bx12 := bx11.same s12
          clear s12 sm11 bx11
          tm_at "go"
          refine r_cmpB hX hY T.tyS (by omega) (by omega) fun H13 s13 => ?_
          replace hX := hX.mono s13
          replace hY := hY.mono s13
          replace hta := s13 _ _ hta
          replace htb := s13 _ _ htb
          have sm13 := sm12.trans s13
          have bx13 := bx12.same s13
          clear s13 sm12 bx12
          tm_at "go"
          refine r_cmpB hX hY T.tyS (by omega) (by omega) fun H14 s14 => ?_
          replace hX := hX.mono s14
          replace hY := hY.mono s14
          replace hta := s14 _ _ hta
          replace htb := s14 _ _ htb
          have sm14 := sm13.trans s14
          have bx14 := bx13.same s14
          clear s14 sm13 bx13
          tm_at "go"
          refine r_eqB hX hY T.tyS fun H15 s15 => ?_
          replace hX := hX.mono s15
          replace hY := hY.mono s15
          replace hta := s15 _ _ hta
          replace htb := s15 _ _ htb
          have sm15 := sm14.trans s15
          have bx15 := bx14.same s15
          clear s15 sm14 bx14
          tm_at "go"
          obtain ⟨dx', hx'⟩ := hX.1
          obtain ⟨dy', hy'⟩ := hY.1
          refine ⟨x, dx', _, y, dy', _, rfl, rfl, hx', hy', x, .ref y, n, d, m, e, rfl, hX, .inl ⟨y, rfl, hY⟩, fun H16 s16 => ⟨decide (n = m ∧ d = e), rfl, ?_⟩⟩
          clear hx' hy'
          replace hX := hX.mono s16
          replace hY := hY.mono s16
          replace hta := s16 _ _ hta
          replace htb := s16 _ _ htb
          have sm16 := sm15.trans s16
          have bx16 := bx15.same s16
          clear s16 sm15 bx15
          tm_at "go"
          rw [hX.2.eqB hY.2, (six (X := n * e) (Y := m * d)).1, (six (X := n * e) (Y := m * d)).2.1, (six (X := n * e) (Y := m * d)).2.2]
          generalize decide (n * e < m * d) = L
          generalize decide (n * e = m * d) = S
          refine ⟨szl rfl, fun l hl0 => ?_⟩
          have sn := same_new hl0 (o := .lst ([L, L || S, !(L || S), !L, S, !S].map V.bl))
          have hl : upd H16 l (.lst ([L, L || S, !(L || S), !L, S, !S].map V.bl)) l = some (.lst ([L, L || S, !(L || S), !L, S, !S].map V.bl)) := upd_same
          change (gName 6 _ _ (upd H16 l (.lst ([L, L || S, !(L || S), !L, S, !S].map V.bl))) _)
          generalize upd H16 l (.lst ([L, L || S, !(L || S), !L, S, !S].map V.bl)) = H17 at sn hl ⊢
          replace hX := hX.mono sn
          replace hY := hY.mono sn
          replace hta := sn _ _ hta
          replace htb := sn _ _ htb
          have sm17 := sm16.trans sn
          have bx17 := bx16.same sn
          clear sn sm16 bx16
          clear hl0
          tm_at "go"
          refine r_reprB hl (Nat.le_of_ble_eq_true rfl) ?_
          tm_at "go"
          refine r_cutE (fun v H' => H' = H17 ∧ v = .bl (L || S)) ?_ ?_
          · tm_at "go"
            cases L
            · tm_at "go"
              exact ⟨rfl, rfl⟩
            · tm_at "go"
              exact ⟨rfl, rfl⟩
          rintro v G3 ⟨hG, rfl⟩
          subst hG
          tm_at "go"
          refine r_cutE (fun v H' => H' = G3 ∧ v = .bl (L || S)) ?_ ?_
          · tm_at "go"
            cases L
            · tm_at "go"
              exact ⟨rfl, rfl⟩
            · tm_at "go"
              exact ⟨rfl, rfl⟩
          rintro v G4 ⟨hG, rfl⟩
          subst hG
          tm_at "go"
          refine ⟨szl rfl, fun l2 hl2 => ?_⟩
          have sn := same_new hl2 (o := .lst [V.bl L, .bl (L || S), .bl (!(L || S)), .bl (!L), .bl S, .bl (!S)])
          have hl3 : upd G4 l2 (.lst [V.bl L, .bl (L || S), .bl (!(L || S)), .bl (!L), .bl S, .bl (!S)]) l2 = some (.lst ([L, L || S, !(L || S), !L, S, !S].map V.bl)) := upd_same
          tm_at "go"
          refine r_reprB hl3 (Nat.le_of_ble_eq_true rfl) ?_
          clear hl3
          generalize upd G4 l2 (.lst [V.bl L, .bl (L || S), .bl (!(L || S)), .bl (!L), .bl S, .bl (!S)]) = H18 at sn ⊢
          replace hX := hX.mono sn
          replace hY := hY.mono sn
          replace hta := sn _ _ hta
          replace htb := sn _ _ htb
          have sm18 := sm17.trans sn
          have bx18 := bx17.same sn
          clear sn sm17 bx17
          clear hl2 hl
          tm_at "go"
          refine r_ne rfl ?_
          rw [neSelf]
          tm_at "go"
          obtain ⟨dx', hx'⟩ := hX.1
          repeat first
            | tm_at "r2"
            | refine r_get hx' T.clS T.nP (shF_part _ _) ?_
            | refine r_get hx' T.clS T.nW (shF_whole _ _) ?_
            | fail
          refine r_divW (divw (by omega) (by omega)) ?_
          obtain ⟨u, hu⟩ : ∃ u, u = n / d := ⟨_, rfl⟩
          have u1 : u * d ≤ n := by rw [hu]; exact Int.ediv_mul_le _ (by omega)
          have u2 : n < (u + 1) * d := by rw [hu]; exact Int.lt_ediv_add_one_mul_self _ (by omega)
          rw [← hu]
          clear hu hx'
          tm_at "go"
          simp only [List.set_cons_succ, List.set_cons_zero]
          refine r_cmpI hX T.ib.s1 (by omega) fun H19 s19 => ?_
          replace hX := hX.mono s19
          replace hY := hY.mono s19
          replace hta := s19 _ _ hta
          replace htb := s19 _ _ htb
          have sm19 := sm18.trans s19
          have bx19 := bx18.same s19
          clear s19 sm18 bx18
          tm_at "go"
          refine r_cmpI hX T.ib.s1 (by omega) fun H20 s20 => ?_
          replace hX := hX.mono s20
          replace hY := hY.mono s20
          replace hta := s20 _ _ hta
          replace htb := s20 _ _ htb
          have sm20 := sm19.trans s20
          have bx20 := bx19.same s20
          clear s20 sm19 bx19
          tm_at "go"
          refine r_eqI hX T.ib.s1 fun H21 s21 => ?_
          replace hX := hX.mono s21
          replace hY := hY.mono s21
          replace hta := s21 _ _ hta
          replace htb := s21 _ _ htb
          have sm21 := sm20.trans s21
          have bx21 := bx20.same s21
          clear s21 sm20 bx20
          tm_at "go"
          rw [decide_eq_false (show ¬ n * 1 < u * d by omega), decide_eq_true (show n * 1 ≥ u * d by omega)]
          refine ⟨szl rfl, fun l hl0 => ?_⟩
          have sn := same_new hl0 (o := .lst ([false, true, false].map V.bl))
          have hl : upd H21 l (.lst ([false, true, false].map V.bl)) l = some (.lst ([false, true, false].map V.bl)) := upd_same
          change (gName 8 _ _ (upd H21 l (.lst ([false, true, false].map V.bl))) _)
          generalize upd H21 l (.lst ([false, true, false].map V.bl)) = H22 at sn hl ⊢
          replace hX := hX.mono sn
          replace hY := hY.mono sn
          replace hta := sn _ _ hta
          replace htb := sn _ _ htb
          have sm22 := sm21.trans sn
          have bx22 := bx21.same sn
          clear sn sm21 bx21
          clear hl0
          tm_at "go"
          refine r_reprB hl (Nat.le_of_ble_eq_true rfl) ?_
          tm_at "go"
          refine r_ne rfl ?_
          rw [show (PyData.list ([false, true, false].map PyData.bool)).shown = ("[False, True, False]" : Str) from by decide +kernel, neSelf]
          tm_at "go"
          refine r_cutT (fun v H' => v = false ∧ Same H22 H') ?_ ?_
          · tm_at "go"
            refine r_id (fun c => ?_) (fun c => ?_)
            · tm_at "go"
              refine r_cmpI hX T.ib.s1 (by omega) fun H23 s23 => ?_
              tm_at "go"
              rw [decide_eq_true (show n * 1 < (u + 1) * d by omega)]
              exact ⟨rfl, s23⟩
            · exact ⟨rfl, Same.refl⟩
          rintro v H23 ⟨rfl, s23⟩
          clear hl
          replace hX := hX.mono s23
          replace hY := hY.mono s23
          replace hta := s23 _ _ hta
          replace htb := s23 _ _ htb
          have sm23 := sm22.trans s23
          have bx23 := bx22.same s23
          clear s23 sm22 bx22
          tm_at "go"
          have nb : n.natAbs < 10 ^ 30 := Nat.lt_of_lt_of_le (m := 1000000) (by omega) (by decide)
          have db : d.natAbs < 10 ^ 30 := Nat.lt_of_lt_of_le (m := 1000000) (by omega) (by decide)
          obtain ⟨dx', hx'⟩ := hX.1
          refine r_strOwn hx' ⟨x, n, d, rfl, hX, nb, db, _, rfl, ?_⟩
          tm_at "go"
          refine r_cutE (fun v H' => H' = H23 ∧ v = .str (shS n d)) ?_ ?_
          · tm_at "go"
            refine r_get hx' T.clS T.nW (shF_whole _ _) ?_
            tm_at "go"
            refine r_eq rfl ?_
            tm_at "go"
            have z1 := numT_len nb
            have z2 := numT_len db
            by_cases c : d = 1
            · refine r_Td (by rw [c]) ?_
              tm_at "go"
              refine r_get hx' T.clS T.nP (shF_part _ _) ?_
              tm_at "go"
              refine r_strI (lg30 nb) ⟨rfl, ?_⟩
              rw [show shS n d = numT n from if_pos c]
              rfl
            · refine r_Fd (fun z => c (V.int.inj z)) ?_
              have e1 : ("/" : Str).length = 1 := by decide +kernel
              tm_at "go"
              refine r_get hx' T.clS T.nP (shF_part _ _) ?_
              tm_at "go"
              refine r_strI (lg30 nb) ?_
              tm_at "go"
              refine r_addS (a := numT n) (by rw [e1]; exact sz (by omega)) ?_
              tm_at "go"
              refine r_get hx' T.clS T.nW (shF_whole _ _) ?_
              tm_at "go"
              refine r_strI (lg30 db) ?_
              refine r_addS (b := numT d) (by rw [app_len, e1]; exact sz (by omega)) ⟨rfl, ?_⟩
              rw [show shS n d = numT n ++ "/" ++ numT d from if_neg c]
          rintro v G5 ⟨hG, rfl⟩
          subst hG
          refine r_ne rfl ?_
          rw [neSelf]
          tm_at "go"
          have dn : d.natAbs < 1000000 := by omega
          have en : e.natAbs < 1000000 := by omega
          have bn : n.natAbs < 10000000000000000000 := by omega
          have bm : m.natAbs < 10000000000000000000 := by omega
          have ba : a1.natAbs < 10000000000000000000 := by omega
          have bd := ltN dn (Nat.le_of_ble_eq_true rfl)
          have be := ltN en (Nat.le_of_ble_eq_true rfl)
          clear d1 n1 e1 m1 u1 u2 pa0 pa1 pb0 pb1 qa0 qa1 qb0 qb1 a10 a11 b10 b11 nb db
          simp only [List.set_cons_succ, List.set_cons_zero]
          have de : (d * e).natAbs < 1000000 * 1000000 := mulb dn en
          have bde := ltN de (Nat.le_of_ble_eq_true rfl)
          refine r_aug rfl ?_
          tm_at "go"
          refine r_opB hX hY bd be bde bm fun h1 n1' d1' H24 eq1 q1 _ s24 _ hA => ?_
          have eq1 : n1' * (d * e) = (n * e + m * d) * d1' := eq1
          replace hX := hX.mono s24
          replace hY := hY.mono s24
          replace hta := s24 _ _ hta
          replace htb := s24 _ _ htb
          have sm24 := sm23.trans s24
          have bx24 := bx23.same s24
          clear s24 sm23 bx23
          have a1' := hA.2.pos
          tm_at "go"
          refine r_aug rfl ?_
          tm_at "go"
          refine r_opI hA (ltN (Nat.lt_of_le_of_lt q1 de) (Nat.le_of_ble_eq_true rfl)) (by decide) fun h2 n2' d2' H25 eq2 q2 _ s25 _ hB => ?_
          have eq2 : n2' * (d1' * 1) = (n1' * 2) * d2' := eq2
          have LA := hA.2
          clear hA
          replace hX := hX.mono s25
          replace hY := hY.mono s25
          replace hta := s25 _ _ hta
          replace htb := s25 _ _ htb
          have sm25 := sm24.trans s25
          have bx25 := bx24.same s25
          clear s25 sm24 bx24
          have a2' := hB.2.pos
          have q2' : d2'.natAbs ≤ d1'.natAbs := by rwa [Int.mul_one] at q2
          have d2n : d2'.natAbs < 1000000 * 1000000 := Nat.lt_of_le_of_lt q2' (Nat.lt_of_le_of_lt q1 de)
          have dd : (d2' * d).natAbs < 1000000 * 1000000 * 1000000 := mulb d2n dn
          tm_at "go"
          refine r_aug rfl ?_
          tm_at "go"
          refine r_opB hB hX (ltN d2n (Nat.le_of_ble_eq_true rfl)) bd (ltN dd (Nat.le_of_ble_eq_true rfl)) bn fun h3 n3' d3' H26 eq3 q3 _ s26 _ hC => ?_
          have eq3 : n3' * (d2' * d) = (n2' * d - n * d2') * d3' := eq3
          have LB := hB.2
          clear hB
          replace hX := hX.mono s26
          replace hY := hY.mono s26
          replace hta := s26 _ _ hta
          replace htb := s26 _ _ htb
          have sm26 := sm25.trans s26
          have bx26 := bx25.same s26
          clear s26 sm25 bx25
          tm_at "go"
          refine r_opB hX hY bd be bde bm fun h4 n4' d4' H27 eq4 q4 _ s27 _ hA => ?_
          have eq4 : n4' * (d * e) = (n * e + m * d) * d4' := eq4
          replace hC := hC.mono s27
          replace hX := hX.mono s27
          replace hY := hY.mono s27
          replace hta := s27 _ _ hta
          replace htb := s27 _ _ htb
          have sm27 := sm26.trans s27
          have bx27 := bx26.same s27
          clear s27 sm26 bx26
          have a4' := hA.2.pos
          have d4n : d4'.natAbs < 1000000 * 1000000 := Nat.lt_of_le_of_lt q4 de
          have dd' : (d4' * e).natAbs < 1000000 * 1000000 * 1000000 := mulb d4n en
          tm_at "go"
          refine r_opB hA hY (ltN d4n (Nat.le_of_ble_eq_true rfl)) be (ltN dd' (Nat.le_of_ble_eq_true rfl)) bm fun h5 n5' d5' H28 eq5 q5 _ s28 _ hD => ?_
          have eq5 : n5' * (d4' * e) = (n4' * e + m * d4') * d5' := eq5
          replace hC := hC.mono s28
          replace hX := hX.mono s28
          replace hY := hY.mono s28
          replace hta := s28 _ _ hta
          replace htb := s28 _ _ htb
          have sm28 := sm27.trans s28
          have bx28 := bx27.same s28
          clear s28 sm27 bx27
          obtain ⟨r1, r2⟩ := held_eq d0 e0 LA LB hC.2 hA.2 hD.2 eq1 eq2 eq3 eq4 eq5
          obtain ⟨dx', hx'⟩ := hC.1
          obtain ⟨dy', hy'⟩ := hD.1
          refine ⟨h3, dx', _, h5, dy', _, rfl, rfl, hx', hy', h3, .ref h5, n3', d3', n5', d5', rfl, hC, .inl ⟨h5, rfl, hD⟩, fun H29 s29 => ⟨decide (n3' = n5' ∧ d3' = d5'), rfl, ?_⟩⟩
          rw [decide_eq_true ⟨r1, r2⟩]
          clear hx' hy' hC hD hA eq1 eq2 eq3 eq4 eq5 r1 r2 LA LB dd d2n q2' d4n dd' q1 q2 q3 q4 q5 a1' a2' a4'
          replace hX := hX.mono s29
          replace hY := hY.mono s29
          replace hta := s29 _ _ hta
          replace htb := s29 _ _ htb
          have sm29 := sm28.trans s29
          have bx29 := bx28.same s29
          clear s29 sm28 bx28
          tm_at "go"
          refine r_share (p := pa) (w := a1) a1n ba fun x' n' d' H30 E1' _ _ s30 hx0 hX' => ?_
          replace hX := hX.mono s30
          replace hY := hY.mono s30
          replace hta := s30 _ _ hta
          replace htb := s30 _ _ htb
          have sm30 := sm29.trans s30
          have bx30 := bx29.same s30
          clear s30 sm29 bx29
          obtain ⟨r1, r2⟩ := hX.2.uniq hX'.2 (Int.eq_of_mul_eq_mul_right a1n (q_same E1 E1'))
          obtain ⟨dx', hx'⟩ := hX.1
          obtain ⟨dy', hy'⟩ := hX'.1
          refine ⟨x, dx', _, x', dy', _, rfl, rfl, hx', hy', x, .ref x', n, d, n', d', rfl, hX, .inl ⟨x', rfl, hX'⟩, fun H31 s31 => ⟨decide (n = n' ∧ d = d'), rfl, ?_⟩⟩
          rw [decide_eq_true ⟨r1, r2⟩]
          tm_at "go"
          rw [hnx]
          exact ⟨⟨_, _, _, _, _, _, _, _, _, _, _, _, rfl⟩, sm30.trans s31, bx30.same s31⟩
      · rintro σ H2 ⟨⟨p1, p3, p4, p5, p6, p7, p8, p9, p10, p11, p12, p13, rfl⟩, sm2, bx2⟩
        exact ⟨⟨_, _, _, _, _, _, _, _, _, _, _, _, _, rfl⟩, sm2⟩
    · rintro σ H2 ⟨⟨p1, p2, p3, p4, p5, p6, p7, p8, p9, p10, p11, p12, p13, rfl⟩, sm2⟩
      clear hS nl
      have low19 : Low 19 23 := ⟨by decide, by decide⟩
      tm_at "go"
      refine r_share (p := 323) (w := 391) (by decide) (by decide) fun x n d H3 E1 _ _ s3 _ hX => ?_
      tm_at "go"
      refine r_share (p := 19) (w := 23) (by decide) (by decide) fun y m e H4 E2 _ _ s4 _ hY => ?_
      obtain ⟨rfl, rfl⟩ := hX.2.uniq low19 (by omega)
      obtain ⟨rfl, rfl⟩ := hY.2.uniq low19 (by omega)
      replace hX := hX.mono s4
      obtain ⟨dx', hx'⟩ := hX.1
      obtain ⟨dy', hy'⟩ := hY.1
      refine ⟨x, dx', _, y, dy', _, rfl, rfl, hx', hy', x, .ref y, 19, 23, 19, 23, rfl, hX, .inl ⟨y, rfl, hY⟩, fun H5 s5 => ⟨true, rfl, ?_⟩⟩
      tm_at "go"
      refine r_share (p := 3) (w := 2) (by decide) (by decide) fun x2 n d H6 E3 _ _ s6 _ hX2 => ?_
      obtain ⟨rfl, rfl⟩ := hX2.2.uniq (show Low 3 2 from ⟨by decide, by decide⟩) (by omega)
      refine r_icmp hX2 (by decide) fun H7 s7 => ?_
      tm_at "go"
      refine r_share (p := 4) (w := 2) (by decide) (by decide) fun x3 n d H8 E4 _ _ s8 _ hX3 => ?_
      obtain ⟨rfl, rfl⟩ := hX3.2.uniq (show Low 2 1 from ⟨by decide, by decide⟩) (by omega)
      refine r_icmp hX3 (by decide) fun H9 s9 => ?_
      tm_at "go"
      refine r_share (p := 3) (w := 3) (by decide) (by decide) fun x4 n d H10 E5 _ _ s10 _ hX4 => ?_
      obtain ⟨rfl, rfl⟩ := hX4.2.uniq (show Low 1 1 from ⟨by decide, by decide⟩) (by omega)
      refine r_icmp hX4 (by decide) fun H11 s11 => ?_
      tm_at "go"
      refine ⟨rfl, fun H12 s12 => ?_⟩
      tm_at "go"
      refine r_eq rfl ?_
      rw [decide_eq_true rfl]
      tm_at "go"
      refine r_share (p := -4) (w := 2) (by decide) (by decide) fun x5 n d H13 E6 _ _ s13 _ hX5 => ?_
      obtain ⟨rfl, rfl⟩ := hX5.2.uniq (show Low (-2) 1 from ⟨by decide, by decide⟩) (by omega)
      tm_at "go"
      obtain ⟨dz', hz'⟩ := hX5.1
      refine r_strOwn hz' ⟨x5, -2, 1, rfl, hX5, by decide, by decide, _, rfl, ?_⟩
      tm_at "go"
      refine r_eq rfl ?_
      rw [show shS (-2) 1 = ("-2" : Str) from by decide +kernel, decide_eq_true rfl]
      tm_at "go"
      refine r_share (p := 5) (w := 1) (by decide) (by decide) fun x6 n d H14 E7 _ _ s14 _ hX6 => ?_
      obtain ⟨rfl, rfl⟩ := hX6.2.uniq (show Low 5 1 from ⟨by decide, by decide⟩) (by omega)
      tm_at "go"
      refine r_share (p := 10) (w := 2) (by decide) (by decide) fun x7 n d H15 E8 _ _ s15 _ hX7 => ?_
      obtain ⟨rfl, rfl⟩ := hX7.2.uniq (show Low 5 1 from ⟨by decide, by decide⟩) (by omega)
      refine r_eqB (hX6.mono s15) hX7 T.tyS fun H16 s16 => ?_
      rw [decide_eq_true ⟨rfl, rfl⟩]
      exact k H16
end
theorem all_mk {h : Heap} (X : K.In h) (G : h.Ns mainGlobals mg)
    (a_GroundError : PySem.W.nsIn K mainGlobals "GroundError" = some (some (.ref aGround)))
    (bs_GroundError : PySem.W.specialIn K (.ref aGround) "__getattribute__" = some (some (.builtin "type.__getattribute__")))
    (br_GroundError : PySem.W.readsIn K aGround (.type "type") = true)
    (bf_GroundError : PySem.W.findCls K (.ref aGround) (.type "type") "__init__" = some (.val (.builtin "ValueError.__init__")))
    (a_InvalidNumbers : PySem.W.nsIn K mainGlobals "InvalidNumbers" = some (some (.ref aInv)))
    {nm_InvalidNumbers q_InvalidNumbers : Str} {N_InvalidNumbers : Addr} {bs_InvalidNumbers : List Value} {sn_InvalidNumbers : List Str} {sub_InvalidNumbers : List Value} {ab_InvalidNumbers : Bool} {col_InvalidNumbers : Option Bool} {dd_InvalidNumbers : Option Addr} {m0_InvalidNumbers m1_InvalidNumbers m2_InvalidNumbers m3_InvalidNumbers m5_InvalidNumbers : Option Value}
    (x_InvalidNumbers : K.lookup aInv = some (excClassObj nm_InvalidNumbers q_InvalidNumbers aInv N_InvalidNumbers bs_InvalidNumbers [.ref aGround, .type "ValueError", .type "Exception", .type "BaseException", .type "object"] true sn_InvalidNumbers sub_InvalidNumbers ab_InvalidNumbers col_InvalidNumbers dd_InvalidNumbers m0_InvalidNumbers m1_InvalidNumbers m2_InvalidNumbers m3_InvalidNumbers m5_InvalidNumbers "ValueError.__new__"))
    (sa_InvalidNumbers : PySem.W.findIn K (.ref aInv) "__setattr__" = some (some (.builtin "object.__setattr__")))
    (ex_InvalidNumbers : PySem.W.subIn K (.ref aInv) (.type "BaseException") = some true)
    (ty_InvalidNumbers : PySem.W.typeIn K (.ref aInv) = some (.type "type"))
    (kc_InvalidNumbers : PySem.W.keepIn K (.ref aInv) = true)
    {f_InvalidNumbers : Addr} {od_InvalidNumbers an_InvalidNumbers : Option Addr} {sl_InvalidNumbers : Array (Option Value)} {oc_InvalidNumbers kV_InvalidNumbers dc_InvalidNumbers pm_InvalidNumbers cd_InvalidNumbers ct_InvalidNumbers : Value}
    (i_InvalidNumbers : PySem.W.findIn K (.ref aInv) "__init__" = some (some (.ref f_InvalidNumbers)))
    (ti_InvalidNumbers : PySem.W.typeIn K (.ref f_InvalidNumbers) = some (.type "function"))
    (l_InvalidNumbers : K.lookup f_InvalidNumbers = some ⟨oc_InvalidNumbers, od_InvalidNumbers, .func (PySem.W.fnOf "__init__" "InvalidNumbers.__init__" (defArgs s_InvalidNumbers__init) (defBody s_InvalidNumbers__init) (defScope s_InvalidNumbers__init) .none kV_InvalidNumbers dc_InvalidNumbers pm_InvalidNumbers an_InvalidNumbers cd_InvalidNumbers ct_InvalidNumbers), sl_InvalidNumbers⟩)
    (c_InvalidNumbers : PySem.W.codeIn K cd_InvalidNumbers "InvalidNumbers.__init__" = true)
    (k_InvalidNumbers : PySem.W.keepIn K (.ref f_InvalidNumbers) = true)
    (xg_InvalidNumbers : PySem.W.findIn K (.ref aInv) "__getattribute__" = some (some (.builtin "BaseException.__getattribute__")))
    (xk_InvalidNumbers : PySem.W.findIn K (.ref aInv) "__getattr__" = some none)
    (xd_InvalidNumbers : PySem.W.hasDictIn K aInv = true)
    (xa_InvalidNumbers : PySem.W.findIn K (.ref aInv) "__class__" = some (some (.builtin "object.__class__")))
    (xn_InvalidNumbers : PySem.W.specialIn K (.builtin "object.__class__") "__get__" = some (some (.builtin "getset_descriptor.__get__")))
    (xt_InvalidNumbers : PySem.W.takesIn K (.builtin "object.__class__") = some true)
    (xm_InvalidNumbers : PySem.W.mroIn K aInv (.type "object") = some true)
    (xs_InvalidNumbers : PySem.W.subIn K (.ref aInv) (.ref aInv) = some true)
    (a_Share : PySem.W.nsIn K mainGlobals "Share" = some (some (.ref aSh)))
    (pg_Share : PySem.W.plainGet K aSh Str.empty = true)
    (hd_Share : PySem.W.hasDictIn K aSh = true)
    (po_Share : PySem.W.plainOver K aSh = true)
    (sa_Share : PySem.W.findIn K (.ref aSh) "__setattr__" = some (some (.builtin "object.__setattr__")))
    (mk_Share : PySem.W.makesIn K aSh = true)
    (kc_Share : PySem.W.keepIn K (.ref aSh) = true)
    {f_Share : Addr} {od_Share an_Share : Option Addr} {sl_Share : Array (Option Value)} {oc_Share kV_Share dc_Share pm_Share cd_Share ct_Share : Value}
    (i_Share : PySem.W.findIn K (.ref aSh) "__init__" = some (some (.ref f_Share)))
    (if_Share : PySem.W.isFn K (.ref f_Share) = true)
    {T_Share : Addr} {oT_Share : Value} {dT_Share : Option Addr} {iT_Share : List Value} {mT_Share : Nat} {sT_Share : Array (Option Value)}
    (l_Share : K.lookup f_Share = some ⟨oc_Share, od_Share, .func (PySem.W.fnOf "__init__" "Share.__init__" (defArgs s_Share__init) (defBody s_Share__init) (defScope s_Share__init) (.ref T_Share) kV_Share dc_Share pm_Share an_Share cd_Share ct_Share), sl_Share⟩)
    (c_Share : PySem.W.codeIn K cd_Share "Share.__init__" = true)
    (k_Share : PySem.W.keepIn K (.ref f_Share) = true)
    (t_Share : K.lookup T_Share = some ⟨oT_Share, dT_Share, .seq iT_Share.toArray mT_Share, sT_Share⟩)
    (v_Share : Vals [.int 1] iT_Share)
    {f_Share__str : Addr} {od_Share__str an_Share__str : Option Addr} {sl_Share__str : Array (Option Value)} {oc_Share__str kV_Share__str dc_Share__str pm_Share__str cd_Share__str ct_Share__str : Value}
    (i_Share__str : PySem.W.findIn K (.ref aSh) "__str__" = some (some (.ref f_Share__str)))
    (if_Share__str : PySem.W.isFn K (.ref f_Share__str) = true)
    (l_Share__str : K.lookup f_Share__str = some ⟨oc_Share__str, od_Share__str, .func (PySem.W.fnOf "__str__" "Share.__str__" (defArgs s_Share__str) (defBody s_Share__str) (defScope s_Share__str) .none kV_Share__str dc_Share__str pm_Share__str an_Share__str cd_Share__str ct_Share__str), sl_Share__str⟩)
    (c_Share__str : PySem.W.codeIn K cd_Share__str "Share.__str__" = true)
    (k_Share__str : PySem.W.keepIn K (.ref f_Share__str) = true)
    {f_Share__add : Addr} {od_Share__add an_Share__add : Option Addr} {sl_Share__add : Array (Option Value)} {oc_Share__add kV_Share__add dc_Share__add pm_Share__add cd_Share__add ct_Share__add : Value}
    (i_Share__add : PySem.W.findIn K (.ref aSh) "__add__" = some (some (.ref f_Share__add)))
    (if_Share__add : PySem.W.isFn K (.ref f_Share__add) = true)
    (l_Share__add : K.lookup f_Share__add = some ⟨oc_Share__add, od_Share__add, .func (PySem.W.fnOf "__add__" "Share.__add__" (defArgs s_Share__add) (defBody s_Share__add) (defScope s_Share__add) .none kV_Share__add dc_Share__add pm_Share__add an_Share__add cd_Share__add ct_Share__add), sl_Share__add⟩)
    (c_Share__add : PySem.W.codeIn K cd_Share__add "Share.__add__" = true)
    (k_Share__add : PySem.W.keepIn K (.ref f_Share__add) = true)
    {f_Share__radd : Addr} {od_Share__radd an_Share__radd : Option Addr} {sl_Share__radd : Array (Option Value)} {oc_Share__radd kV_Share__radd dc_Share__radd pm_Share__radd cd_Share__radd ct_Share__radd : Value}
    (i_Share__radd : PySem.W.findIn K (.ref aSh) "__radd__" = some (some (.ref f_Share__radd)))
    (if_Share__radd : PySem.W.isFn K (.ref f_Share__radd) = true)
    (l_Share__radd : K.lookup f_Share__radd = some ⟨oc_Share__radd, od_Share__radd, .func (PySem.W.fnOf "__radd__" "Share.__radd__" (defArgs s_Share__radd) (defBody s_Share__radd) (defScope s_Share__radd) .none kV_Share__radd dc_Share__radd pm_Share__radd an_Share__radd cd_Share__radd ct_Share__radd), sl_Share__radd⟩)
    (c_Share__radd : PySem.W.codeIn K cd_Share__radd "Share.__radd__" = true)
    (k_Share__radd : PySem.W.keepIn K (.ref f_Share__radd) = true)
    {f_Share__sub : Addr} {od_Share__sub an_Share__sub : Option Addr} {sl_Share__sub : Array (Option Value)} {oc_Share__sub kV_Share__sub dc_Share__sub pm_Share__sub cd_Share__sub ct_Share__sub : Value}
    (i_Share__sub : PySem.W.findIn K (.ref aSh) "__sub__" = some (some (.ref f_Share__sub)))
    (if_Share__sub : PySem.W.isFn K (.ref f_Share__sub) = true)
    (l_Share__sub : K.lookup f_Share__sub = some ⟨oc_Share__sub, od_Share__sub, .func (PySem.W.fnOf "__sub__" "Share.__sub__" (defArgs s_Share__sub) (defBody s_Share__sub) (defScope s_Share__sub) .none kV_Share__sub dc_Share__sub pm_Share__sub an_Share__sub cd_Share__sub ct_Share__sub), sl_Share__sub⟩)
    (c_Share__sub : PySem.W.codeIn K cd_Share__sub "Share.__sub__" = true)
    (k_Share__sub : PySem.W.keepIn K (.ref f_Share__sub) = true)
    {f_Share__rsub : Addr} {od_Share__rsub an_Share__rsub : Option Addr} {sl_Share__rsub : Array (Option Value)} {oc_Share__rsub kV_Share__rsub dc_Share__rsub pm_Share__rsub cd_Share__rsub ct_Share__rsub : Value}
    (i_Share__rsub : PySem.W.findIn K (.ref aSh) "__rsub__" = some (some (.ref f_Share__rsub)))
    (if_Share__rsub : PySem.W.isFn K (.ref f_Share__rsub) = true)
    (l_Share__rsub : K.lookup f_Share__rsub = some ⟨oc_Share__rsub, od_Share__rsub, .func (PySem.W.fnOf "__rsub__" "Share.__rsub__" (defArgs s_Share__rsub) (defBody s_Share__rsub) (defScope s_Share__rsub) .none kV_Share__rsub dc_Share__rsub pm_Share__rsub an_Share__rsub cd_Share__rsub ct_Share__rsub), sl_Share__rsub⟩)
    (c_Share__rsub : PySem.W.codeIn K cd_Share__rsub "Share.__rsub__" = true)
    (k_Share__rsub : PySem.W.keepIn K (.ref f_Share__rsub) = true)
    {f_Share__mul : Addr} {od_Share__mul an_Share__mul : Option Addr} {sl_Share__mul : Array (Option Value)} {oc_Share__mul kV_Share__mul dc_Share__mul pm_Share__mul cd_Share__mul ct_Share__mul : Value}
    (i_Share__mul : PySem.W.findIn K (.ref aSh) "__mul__" = some (some (.ref f_Share__mul)))
    (if_Share__mul : PySem.W.isFn K (.ref f_Share__mul) = true)
    (l_Share__mul : K.lookup f_Share__mul = some ⟨oc_Share__mul, od_Share__mul, .func (PySem.W.fnOf "__mul__" "Share.__mul__" (defArgs s_Share__mul) (defBody s_Share__mul) (defScope s_Share__mul) .none kV_Share__mul dc_Share__mul pm_Share__mul an_Share__mul cd_Share__mul ct_Share__mul), sl_Share__mul⟩)
    (c_Share__mul : PySem.W.codeIn K cd_Share__mul "Share.__mul__" = true)
    (k_Share__mul : PySem.W.keepIn K (.ref f_Share__mul) = true)
    {f_Share__rmul : Addr} {od_Share__rmul an_Share__rmul : Option Addr} {sl_Share__rmul : Array (Option Value)} {oc_Share__rmul kV_Share__rmul dc_Share__rmul pm_Share__rmul cd_Share__rmul ct_Share__rmul : Value}
    (i_Share__rmul : PySem.W.findIn K (.ref aSh) "__rmul__" = some (some (.ref f_Share__rmul)))
    (if_Share__rmul : PySem.W.isFn K (.ref f_Share__rmul) = true)
    (l_Share__rmul : K.lookup f_Share__rmul = some ⟨oc_Share__rmul, od_Share__rmul, .func (PySem.W.fnOf "__rmul__" "Share.__rmul__" (defArgs s_Share__rmul) (defBody s_Share__rmul) (defScope s_Share__rmul) .none kV_Share__rmul dc_Share__rmul pm_Share__rmul an_Share__rmul cd_Share__rmul ct_Share__rmul), sl_Share__rmul⟩)
    (c_Share__rmul : PySem.W.codeIn K cd_Share__rmul "Share.__rmul__" = true)
    (k_Share__rmul : PySem.W.keepIn K (.ref f_Share__rmul) = true)
    {f_Share__neg : Addr} {od_Share__neg an_Share__neg : Option Addr} {sl_Share__neg : Array (Option Value)} {oc_Share__neg kV_Share__neg dc_Share__neg pm_Share__neg cd_Share__neg ct_Share__neg : Value}
    (i_Share__neg : PySem.W.findIn K (.ref aSh) "__neg__" = some (some (.ref f_Share__neg)))
    (if_Share__neg : PySem.W.isFn K (.ref f_Share__neg) = true)
    (l_Share__neg : K.lookup f_Share__neg = some ⟨oc_Share__neg, od_Share__neg, .func (PySem.W.fnOf "__neg__" "Share.__neg__" (defArgs s_Share__neg) (defBody s_Share__neg) (defScope s_Share__neg) .none kV_Share__neg dc_Share__neg pm_Share__neg an_Share__neg cd_Share__neg ct_Share__neg), sl_Share__neg⟩)
    (c_Share__neg : PySem.W.codeIn K cd_Share__neg "Share.__neg__" = true)
    (k_Share__neg : PySem.W.keepIn K (.ref f_Share__neg) = true)
    {f_Share__eq : Addr} {od_Share__eq an_Share__eq : Option Addr} {sl_Share__eq : Array (Option Value)} {oc_Share__eq kV_Share__eq dc_Share__eq pm_Share__eq cd_Share__eq ct_Share__eq : Value}
    (i_Share__eq : PySem.W.findIn K (.ref aSh) "__eq__" = some (some (.ref f_Share__eq)))
    (if_Share__eq : PySem.W.isFn K (.ref f_Share__eq) = true)
    (l_Share__eq : K.lookup f_Share__eq = some ⟨oc_Share__eq, od_Share__eq, .func (PySem.W.fnOf "__eq__" "Share.__eq__" (defArgs s_Share__eq) (defBody s_Share__eq) (defScope s_Share__eq) .none kV_Share__eq dc_Share__eq pm_Share__eq an_Share__eq cd_Share__eq ct_Share__eq), sl_Share__eq⟩)
    (c_Share__eq : PySem.W.codeIn K cd_Share__eq "Share.__eq__" = true)
    (k_Share__eq : PySem.W.keepIn K (.ref f_Share__eq) = true)
    {f_Share__lt : Addr} {od_Share__lt an_Share__lt : Option Addr} {sl_Share__lt : Array (Option Value)} {oc_Share__lt kV_Share__lt dc_Share__lt pm_Share__lt cd_Share__lt ct_Share__lt : Value}
    (i_Share__lt : PySem.W.findIn K (.ref aSh) "__lt__" = some (some (.ref f_Share__lt)))
    (if_Share__lt : PySem.W.isFn K (.ref f_Share__lt) = true)
    (l_Share__lt : K.lookup f_Share__lt = some ⟨oc_Share__lt, od_Share__lt, .func (PySem.W.fnOf "__lt__" "Share.__lt__" (defArgs s_Share__lt) (defBody s_Share__lt) (defScope s_Share__lt) .none kV_Share__lt dc_Share__lt pm_Share__lt an_Share__lt cd_Share__lt ct_Share__lt), sl_Share__lt⟩)
    (c_Share__lt : PySem.W.codeIn K cd_Share__lt "Share.__lt__" = true)
    (k_Share__lt : PySem.W.keepIn K (.ref f_Share__lt) = true)
    {f_Share__le : Addr} {od_Share__le an_Share__le : Option Addr} {sl_Share__le : Array (Option Value)} {oc_Share__le kV_Share__le dc_Share__le pm_Share__le cd_Share__le ct_Share__le : Value}
    (i_Share__le : PySem.W.findIn K (.ref aSh) "__le__" = some (some (.ref f_Share__le)))
    (if_Share__le : PySem.W.isFn K (.ref f_Share__le) = true)
    (l_Share__le : K.lookup f_Share__le = some ⟨oc_Share__le, od_Share__le, .func (PySem.W.fnOf "__le__" "Share.__le__" (defArgs s_Share__le) (defBody s_Share__le) (defScope s_Share__le) .none kV_Share__le dc_Share__le pm_Share__le an_Share__le cd_Share__le ct_Share__le), sl_Share__le⟩)
    (c_Share__le : PySem.W.codeIn K cd_Share__le "Share.__le__" = true)
    (k_Share__le : PySem.W.keepIn K (.ref f_Share__le) = true)
    {f_Share__gt : Addr} {od_Share__gt an_Share__gt : Option Addr} {sl_Share__gt : Array (Option Value)} {oc_Share__gt kV_Share__gt dc_Share__gt pm_Share__gt cd_Share__gt ct_Share__gt : Value}
    (i_Share__gt : PySem.W.findIn K (.ref aSh) "__gt__" = some (some (.ref f_Share__gt)))
    (if_Share__gt : PySem.W.isFn K (.ref f_Share__gt) = true)
    (l_Share__gt : K.lookup f_Share__gt = some ⟨oc_Share__gt, od_Share__gt, .func (PySem.W.fnOf "__gt__" "Share.__gt__" (defArgs s_Share__gt) (defBody s_Share__gt) (defScope s_Share__gt) .none kV_Share__gt dc_Share__gt pm_Share__gt an_Share__gt cd_Share__gt ct_Share__gt), sl_Share__gt⟩)
    (c_Share__gt : PySem.W.codeIn K cd_Share__gt "Share.__gt__" = true)
    (k_Share__gt : PySem.W.keepIn K (.ref f_Share__gt) = true)
    {f_Share__ge : Addr} {od_Share__ge an_Share__ge : Option Addr} {sl_Share__ge : Array (Option Value)} {oc_Share__ge kV_Share__ge dc_Share__ge pm_Share__ge cd_Share__ge ct_Share__ge : Value}
    (i_Share__ge : PySem.W.findIn K (.ref aSh) "__ge__" = some (some (.ref f_Share__ge)))
    (if_Share__ge : PySem.W.isFn K (.ref f_Share__ge) = true)
    (l_Share__ge : K.lookup f_Share__ge = some ⟨oc_Share__ge, od_Share__ge, .func (PySem.W.fnOf "__ge__" "Share.__ge__" (defArgs s_Share__ge) (defBody s_Share__ge) (defScope s_Share__ge) .none kV_Share__ge dc_Share__ge pm_Share__ge an_Share__ge cd_Share__ge ct_Share__ge), sl_Share__ge⟩)
    (c_Share__ge : PySem.W.codeIn K cd_Share__ge "Share.__ge__" = true)
    (k_Share__ge : PySem.W.keepIn K (.ref f_Share__ge) = true)
    (na_aSh_part : PySem.W.findIn K (.ref aSh) "part" = some none)
    (na_aSh_whole : PySem.W.findIn K (.ref aSh) "whole" = some none)
    (na_aInv_word : PySem.W.findIn K (.ref aInv) "word" = some none)
    (tyA : PySem.W.typeIn K (.ref aSh) = some (.type "type"))
    (suI : PySem.W.subIn K (.type "int") (.ref aSh) = some false)
    (suS : PySem.W.subIn K (.ref aSh) (.type "int") = some false)
    (sfS : PySem.W.selfFirst K aSh = true)
    (niA : noIp K aSh "add" = true)
    (niS : noIp K aSh "sub" = true)
    (niM : noIp K aSh "mul" = true)
    (neS : PySem.W.findIn K (.ref aSh) "__ne__" = some (some (.builtin "object.__ne__")))
    (obS : PySem.W.mroIn K aSh (.type "object") = some true)
    (caS : PySem.W.findIn K (.ref aSh) "__class__" = some (some (.builtin "object.__class__")))
    (cgS : PySem.W.specialIn K (.builtin "object.__class__") "__get__" = some (some (.builtin "getset_descriptor.__get__")))
    (ctS : PySem.W.takesIn K (.builtin "object.__class__") = some true)
    (z_int : PySem.W.nsIn K mainGlobals "int" = some none)
    (z_len : PySem.W.nsIn K mainGlobals "len" = some none)
    (z_abs : PySem.W.nsIn K mainGlobals "abs" = some none)
    (z_repr : PySem.W.nsIn K mainGlobals "repr" = some none)
    (z_range : PySem.W.nsIn K mainGlobals "range" = some none)
    (z_min : PySem.W.nsIn K mainGlobals "min" = some none)
    (z_max : PySem.W.nsIn K mainGlobals "max" = some none)
    (z_str : PySem.W.nsIn K mainGlobals "str" = some none)
    (z_isinstance : PySem.W.nsIn K mainGlobals "isinstance" = some none)
    {f_law_box : Addr} {od_law_box an_law_box : Option Addr} {sl_law_box : Array (Option Value)} {oc_law_box kV_law_box dc_law_box pm_law_box cd_law_box ct_law_box : Value}
    (a_law_box : PySem.W.nsIn K mainGlobals "_law_box" = some (some (.ref f_law_box)))
    (l_law_box : K.lookup f_law_box = some ⟨oc_law_box, od_law_box, .func (PySem.W.fnOf "_law_box" "_law_box" (defArgs s_law_box) (defBody s_law_box) (defScope s_law_box) .none kV_law_box dc_law_box pm_law_box an_law_box cd_law_box ct_law_box), sl_law_box⟩)
    (c_law_box : PySem.W.codeIn K cd_law_box "_law_box" = true)
    (k_law_box : PySem.W.keepIn K (.ref f_law_box) = true)
    {f_law_take : Addr} {od_law_take an_law_take : Option Addr} {sl_law_take : Array (Option Value)} {oc_law_take kV_law_take dc_law_take pm_law_take cd_law_take ct_law_take : Value}
    (a_law_take : PySem.W.nsIn K mainGlobals "_law_take" = some (some (.ref f_law_take)))
    (l_law_take : K.lookup f_law_take = some ⟨oc_law_take, od_law_take, .func (PySem.W.fnOf "_law_take" "_law_take" (defArgs s_law_take) (defBody s_law_take) (defScope s_law_take) .none kV_law_take dc_law_take pm_law_take an_law_take cd_law_take ct_law_take), sl_law_take⟩)
    (c_law_take : PySem.W.codeIn K cd_law_take "_law_take" = true)
    (k_law_take : PySem.W.keepIn K (.ref f_law_take) = true)
    {f_law_number : Addr} {od_law_number an_law_number : Option Addr} {sl_law_number : Array (Option Value)} {oc_law_number kV_law_number dc_law_number pm_law_number cd_law_number ct_law_number : Value}
    (a_law_number : PySem.W.nsIn K mainGlobals "_law_number" = some (some (.ref f_law_number)))
    (l_law_number : K.lookup f_law_number = some ⟨oc_law_number, od_law_number, .func (PySem.W.fnOf "_law_number" "_law_number" (defArgs s_law_number) (defBody s_law_number) (defScope s_law_number) .none kV_law_number dc_law_number pm_law_number an_law_number cd_law_number ct_law_number), sl_law_number⟩)
    (c_law_number : PySem.W.codeIn K cd_law_number "_law_number" = true)
    (k_law_number : PySem.W.keepIn K (.ref f_law_number) = true)
    {f_law_is : Addr} {od_law_is an_law_is : Option Addr} {sl_law_is : Array (Option Value)} {oc_law_is kV_law_is dc_law_is pm_law_is cd_law_is ct_law_is : Value}
    (a_law_is : PySem.W.nsIn K mainGlobals "_law_is" = some (some (.ref f_law_is)))
    (l_law_is : K.lookup f_law_is = some ⟨oc_law_is, od_law_is, .func (PySem.W.fnOf "_law_is" "_law_is" (defArgs s_law_is) (defBody s_law_is) (defScope s_law_is) .none kV_law_is dc_law_is pm_law_is an_law_is cd_law_is ct_law_is), sl_law_is⟩)
    (c_law_is : PySem.W.codeIn K cd_law_is "_law_is" = true)
    (k_law_is : PySem.W.keepIn K (.ref f_law_is) = true)
    {f_law_refused : Addr} {od_law_refused an_law_refused : Option Addr} {sl_law_refused : Array (Option Value)} {oc_law_refused kV_law_refused dc_law_refused pm_law_refused cd_law_refused ct_law_refused : Value}
    (a_law_refused : PySem.W.nsIn K mainGlobals "_law_refused" = some (some (.ref f_law_refused)))
    (l_law_refused : K.lookup f_law_refused = some ⟨oc_law_refused, od_law_refused, .func (PySem.W.fnOf "_law_refused" "_law_refused" (defArgs s_law_refused) (defBody s_law_refused) (defScope s_law_refused) .none kV_law_refused dc_law_refused pm_law_refused an_law_refused cd_law_refused ct_law_refused), sl_law_refused⟩)
    (c_law_refused : PySem.W.codeIn K cd_law_refused "_law_refused" = true)
    (k_law_refused : PySem.W.keepIn K (.ref f_law_refused) = true)
    {f_law_signs_right : Addr} {od_law_signs_right an_law_signs_right : Option Addr} {sl_law_signs_right : Array (Option Value)} {oc_law_signs_right kV_law_signs_right dc_law_signs_right pm_law_signs_right cd_law_signs_right ct_law_signs_right : Value}
    (a_law_signs_right : PySem.W.nsIn K mainGlobals "_law_signs_right" = some (some (.ref f_law_signs_right)))
    (l_law_signs_right : K.lookup f_law_signs_right = some ⟨oc_law_signs_right, od_law_signs_right, .func (PySem.W.fnOf "_law_signs_right" "_law_signs_right" (defArgs s_law_signs_right) (defBody s_law_signs_right) (defScope s_law_signs_right) .none kV_law_signs_right dc_law_signs_right pm_law_signs_right an_law_signs_right cd_law_signs_right ct_law_signs_right), sl_law_signs_right⟩)
    (c_law_signs_right : PySem.W.codeIn K cd_law_signs_right "_law_signs_right" = true)
    (k_law_signs_right : PySem.W.keepIn K (.ref f_law_signs_right) = true)
    {f_law : Addr} {od_law an_law : Option Addr} {sl_law : Array (Option Value)} {oc_law kV_law dc_law pm_law cd_law ct_law : Value}
    (a_law : PySem.W.nsIn K mainGlobals "law" = some (some (.ref f_law)))
    (l_law : K.lookup f_law = some ⟨oc_law, od_law, .func (PySem.W.fnOf "law" "law" (defArgs s_law) (defBody s_law) (defScope s_law) .none kV_law dc_law pm_law an_law cd_law ct_law), sl_law⟩)
    (c_law : PySem.W.codeIn K cd_law "law" = true)
    (k_law : PySem.W.keepIn K (.ref f_law) = true)
    {f_greatest_common : Addr} {od_greatest_common an_greatest_common : Option Addr} {sl_greatest_common : Array (Option Value)} {oc_greatest_common kV_greatest_common dc_greatest_common pm_greatest_common cd_greatest_common ct_greatest_common : Value}
    (a_greatest_common : PySem.W.nsIn K mainGlobals "greatest_common" = some (some (.ref f_greatest_common)))
    (l_greatest_common : K.lookup f_greatest_common = some ⟨oc_greatest_common, od_greatest_common, .func (PySem.W.fnOf "greatest_common" "greatest_common" (defArgs s_greatest_common) (defBody s_greatest_common) (defScope s_greatest_common) .none kV_greatest_common dc_greatest_common pm_greatest_common an_greatest_common cd_greatest_common ct_greatest_common), sl_greatest_common⟩)
    (c_greatest_common : PySem.W.codeIn K cd_greatest_common "greatest_common" = true)
    (k_greatest_common : PySem.W.keepIn K (.ref f_greatest_common) = true)
    {f_in_lowest_terms : Addr} {od_in_lowest_terms an_in_lowest_terms : Option Addr} {sl_in_lowest_terms : Array (Option Value)} {oc_in_lowest_terms kV_in_lowest_terms dc_in_lowest_terms pm_in_lowest_terms cd_in_lowest_terms ct_in_lowest_terms : Value}
    (a_in_lowest_terms : PySem.W.nsIn K mainGlobals "in_lowest_terms" = some (some (.ref f_in_lowest_terms)))
    (l_in_lowest_terms : K.lookup f_in_lowest_terms = some ⟨oc_in_lowest_terms, od_in_lowest_terms, .func (PySem.W.fnOf "in_lowest_terms" "in_lowest_terms" (defArgs s_in_lowest_terms) (defBody s_in_lowest_terms) (defScope s_in_lowest_terms) .none kV_in_lowest_terms dc_in_lowest_terms pm_in_lowest_terms an_in_lowest_terms cd_in_lowest_terms ct_in_lowest_terms), sl_in_lowest_terms⟩)
    (c_in_lowest_terms : PySem.W.codeIn K cd_in_lowest_terms "in_lowest_terms" = true)
    (k_in_lowest_terms : PySem.W.keepIn K (.ref f_in_lowest_terms) = true)
    {f_pair_of : Addr} {od_pair_of an_pair_of : Option Addr} {sl_pair_of : Array (Option Value)} {oc_pair_of kV_pair_of dc_pair_of pm_pair_of cd_pair_of ct_pair_of : Value}
    (a_pair_of : PySem.W.nsIn K mainGlobals "pair_of" = some (some (.ref f_pair_of)))
    (l_pair_of : K.lookup f_pair_of = some ⟨oc_pair_of, od_pair_of, .func (PySem.W.fnOf "pair_of" "pair_of" (defArgs s_pair_of) (defBody s_pair_of) (defScope s_pair_of) .none kV_pair_of dc_pair_of pm_pair_of an_pair_of cd_pair_of ct_pair_of), sl_pair_of⟩)
    (c_pair_of : PySem.W.codeIn K cd_pair_of "pair_of" = true)
    (k_pair_of : PySem.W.keepIn K (.ref f_pair_of) = true) :
    ∀ base : Heap, K.In base → base.Ns mainGlobals mg → DefG P w K mg base CX0 7 "law" ["_law_script"] (spLaw K) := by
  have m_GroundError : mg "GroundError" = some (.ref aGround) := PySem.W.mg_of X G a_GroundError
  have b_GroundError : BaseInit K aGround := ⟨bs_GroundError, br_GroundError, bf_GroundError⟩
  have m_InvalidNumbers : mg "InvalidNumbers" = some (.ref aInv) := PySem.W.mg_of X G a_InvalidNumbers
  have at_InvalidNumbers : ErrAt K mg "InvalidNumbers" "InvalidNumbers.__init__" s_InvalidNumbers__init aInv := ⟨m_InvalidNumbers, ⟨⟨nm_InvalidNumbers, q_InvalidNumbers, N_InvalidNumbers, bs_InvalidNumbers, _, sn_InvalidNumbers, sub_InvalidNumbers, ab_InvalidNumbers, col_InvalidNumbers, dd_InvalidNumbers, m0_InvalidNumbers, m1_InvalidNumbers, m2_InvalidNumbers, m3_InvalidNumbers, m5_InvalidNumbers, x_InvalidNumbers, rfl⟩, sa_InvalidNumbers, ex_InvalidNumbers, ty_InvalidNumbers, kc_InvalidNumbers⟩, _, _, i_InvalidNumbers, ti_InvalidNumbers, fun_mk (st := s_InvalidNumbers__init) l_InvalidNumbers c_InvalidNumbers k_InvalidNumbers⟩
  have xc_InvalidNumbers : ExcC K aInv := ⟨xg_InvalidNumbers, xk_InvalidNumbers, ex_InvalidNumbers, xd_InvalidNumbers, xa_InvalidNumbers, xn_InvalidNumbers, xt_InvalidNumbers, xm_InvalidNumbers⟩
  have exm_InvalidNumbers : PySem.W.exmOne K (.ref aInv) (.ref aInv) = some true := PySem.W.exm_ref ex_InvalidNumbers xd_InvalidNumbers ty_InvalidNumbers xs_InvalidNumbers
  have m_Share : mg "Share" = some (.ref aSh) := PySem.W.mg_of X G a_Share
  have cl_Share : Cls K aSh := ⟨pg_Share, hd_Share, po_Share, sa_Share⟩
  have mk_Share : Mk K aSh f_Share := ⟨mk_Share, i_Share, if_Share, kc_Share⟩
  have fd_Share : FunD K "__init__" "Share.__init__" (defArgs s_Share__init) (defBody s_Share__init) (defScope s_Share__init) [.int 1] [] f_Share _ := ⟨⟨_, _, _, _, _, _, _, _, _, _, rfl, l_Share, c_Share, .inr ⟨List.cons_ne_nil _ _, _, _, _, _, rfl, t_Share, rfl, v_Share⟩, .inl rfl⟩, k_Share⟩
  have at_Share__str : MetAt K aSh "__str__" "Share.__str__" s_Share__str := ⟨cl_Share, _, _, ⟨i_Share__str, if_Share__str, k_Share__str⟩, fun_mk (st := s_Share__str) l_Share__str c_Share__str k_Share__str⟩
  have at_Share__add : MetAt K aSh "__add__" "Share.__add__" s_Share__add := ⟨cl_Share, _, _, ⟨i_Share__add, if_Share__add, k_Share__add⟩, fun_mk (st := s_Share__add) l_Share__add c_Share__add k_Share__add⟩
  have at_Share__radd : MetAt K aSh "__radd__" "Share.__radd__" s_Share__radd := ⟨cl_Share, _, _, ⟨i_Share__radd, if_Share__radd, k_Share__radd⟩, fun_mk (st := s_Share__radd) l_Share__radd c_Share__radd k_Share__radd⟩
  have at_Share__sub : MetAt K aSh "__sub__" "Share.__sub__" s_Share__sub := ⟨cl_Share, _, _, ⟨i_Share__sub, if_Share__sub, k_Share__sub⟩, fun_mk (st := s_Share__sub) l_Share__sub c_Share__sub k_Share__sub⟩
  have at_Share__rsub : MetAt K aSh "__rsub__" "Share.__rsub__" s_Share__rsub := ⟨cl_Share, _, _, ⟨i_Share__rsub, if_Share__rsub, k_Share__rsub⟩, fun_mk (st := s_Share__rsub) l_Share__rsub c_Share__rsub k_Share__rsub⟩
  have at_Share__mul : MetAt K aSh "__mul__" "Share.__mul__" s_Share__mul := ⟨cl_Share, _, _, ⟨i_Share__mul, if_Share__mul, k_Share__mul⟩, fun_mk (st := s_Share__mul) l_Share__mul c_Share__mul k_Share__mul⟩
  have at_Share__rmul : MetAt K aSh "__rmul__" "Share.__rmul__" s_Share__rmul := ⟨cl_Share, _, _, ⟨i_Share__rmul, if_Share__rmul, k_Share__rmul⟩, fun_mk (st := s_Share__rmul) l_Share__rmul c_Share__rmul k_Share__rmul⟩
  have at_Share__neg : MetAt K aSh "__neg__" "Share.__neg__" s_Share__neg := ⟨cl_Share, _, _, ⟨i_Share__neg, if_Share__neg, k_Share__neg⟩, fun_mk (st := s_Share__neg) l_Share__neg c_Share__neg k_Share__neg⟩
  have at_Share__eq : MetAt K aSh "__eq__" "Share.__eq__" s_Share__eq := ⟨cl_Share, _, _, ⟨i_Share__eq, if_Share__eq, k_Share__eq⟩, fun_mk (st := s_Share__eq) l_Share__eq c_Share__eq k_Share__eq⟩
  have at_Share__lt : MetAt K aSh "__lt__" "Share.__lt__" s_Share__lt := ⟨cl_Share, _, _, ⟨i_Share__lt, if_Share__lt, k_Share__lt⟩, fun_mk (st := s_Share__lt) l_Share__lt c_Share__lt k_Share__lt⟩
  have at_Share__le : MetAt K aSh "__le__" "Share.__le__" s_Share__le := ⟨cl_Share, _, _, ⟨i_Share__le, if_Share__le, k_Share__le⟩, fun_mk (st := s_Share__le) l_Share__le c_Share__le k_Share__le⟩
  have at_Share__gt : MetAt K aSh "__gt__" "Share.__gt__" s_Share__gt := ⟨cl_Share, _, _, ⟨i_Share__gt, if_Share__gt, k_Share__gt⟩, fun_mk (st := s_Share__gt) l_Share__gt c_Share__gt k_Share__gt⟩
  have at_Share__ge : MetAt K aSh "__ge__" "Share.__ge__" s_Share__ge := ⟨cl_Share, _, _, ⟨i_Share__ge, if_Share__ge, k_Share__ge⟩, fun_mk (st := s_Share__ge) l_Share__ge c_Share__ge k_Share__ge⟩
  have n_int : mg "int" = none := PySem.W.mg_none_of X G z_int
  have n_len : mg "len" = none := PySem.W.mg_none_of X G z_len
  have n_abs : mg "abs" = none := PySem.W.mg_none_of X G z_abs
  have n_repr : mg "repr" = none := PySem.W.mg_none_of X G z_repr
  have n_range : mg "range" = none := PySem.W.mg_none_of X G z_range
  have n_min : mg "min" = none := PySem.W.mg_none_of X G z_min
  have n_max : mg "max" = none := PySem.W.mg_none_of X G z_max
  have n_str : mg "str" = none := PySem.W.mg_none_of X G z_str
  have n_isinstance : mg "isinstance" = none := PySem.W.mg_none_of X G z_isinstance
  have at_law_box : DefAt K mg "_law_box" s_law_box := ⟨_, _, PySem.W.mg_of X G a_law_box, fun_mk (st := s_law_box) l_law_box c_law_box k_law_box⟩
  have at_law_take : DefAt K mg "_law_take" s_law_take := ⟨_, _, PySem.W.mg_of X G a_law_take, fun_mk (st := s_law_take) l_law_take c_law_take k_law_take⟩
  have at_law_number : DefAt K mg "_law_number" s_law_number := ⟨_, _, PySem.W.mg_of X G a_law_number, fun_mk (st := s_law_number) l_law_number c_law_number k_law_number⟩
  have at_law_is : DefAt K mg "_law_is" s_law_is := ⟨_, _, PySem.W.mg_of X G a_law_is, fun_mk (st := s_law_is) l_law_is c_law_is k_law_is⟩
  have at_law_refused : DefAt K mg "_law_refused" s_law_refused := ⟨_, _, PySem.W.mg_of X G a_law_refused, fun_mk (st := s_law_refused) l_law_refused c_law_refused k_law_refused⟩
  have at_law_signs_right : DefAt K mg "_law_signs_right" s_law_signs_right := ⟨_, _, PySem.W.mg_of X G a_law_signs_right, fun_mk (st := s_law_signs_right) l_law_signs_right c_law_signs_right k_law_signs_right⟩
  have at_law : DefAt K mg "law" s_law := ⟨_, _, PySem.W.mg_of X G a_law, fun_mk (st := s_law) l_law c_law k_law⟩
  have at_greatest_common : DefAt K mg "greatest_common" s_greatest_common := ⟨_, _, PySem.W.mg_of X G a_greatest_common, fun_mk (st := s_greatest_common) l_greatest_common c_greatest_common k_greatest_common⟩
  have at_in_lowest_terms : DefAt K mg "in_lowest_terms" s_in_lowest_terms := ⟨_, _, PySem.W.mg_of X G a_in_lowest_terms, fun_mk (st := s_in_lowest_terms) l_in_lowest_terms c_in_lowest_terms k_in_lowest_terms⟩
  have at_pair_of : DefAt K mg "pair_of" s_pair_of := ⟨_, _, PySem.W.mg_of X G a_pair_of, fun_mk (st := s_pair_of) l_pair_of c_pair_of k_pair_of⟩
  have T : Txt K mg aGround aInv aSh := ⟨m_GroundError, b_GroundError, PySem.W.mg_of X G a_InvalidNumbers, cl_Share, na_aSh_part, na_aSh_whole, na_aInv_word, ⟨xg_InvalidNumbers, xk_InvalidNumbers, ex_InvalidNumbers, xd_InvalidNumbers⟩, exm_InvalidNumbers, m_Share,
    fun H e dx fs q => .base (.ins q cl_Share caS cgS ctS obS), kit_tyOwn hd_Share tyA suI, ⟨sfS, suI, suS⟩, ⟨_, i_Share__add⟩, ⟨_, i_Share__sub⟩, ⟨_, i_Share__mul⟩, ⟨_, i_Share__radd⟩, ⟨_, i_Share__rsub⟩, ⟨_, i_Share__rmul⟩, niA, niS, niM, neS, obS,
    n_int, n_len, n_abs, n_repr, n_range, n_min, n_max, n_str, n_isinstance⟩
  obtain ⟨ds, vd, bS⟩ := fd_Share.binds1 (ps := ["self", "part", "whole"]) 3 1 (by decide) rfl (fun T kV doc pm an cdv ct us its hu hi => match us, its, hu, hi with | [_, _, _], [_], _, _ => ⟨_, rfl, rfl⟩)
  obtain ⟨ds1, vd1, bS1⟩ := fd_Share.binds1 (ps := ["self", "part", "whole"]) 2 0 (by decide) rfl (fun T kV doc pm an cdv ct us its hu hi => match us, its, hu, hi with | [_, _], [_], _, _ => ⟨_, rfl, rfl⟩)
  obtain ⟨itK, bK⟩ := fd_Share.kbindsD (ps := ["self", "part", "whole"]) 1 ["whole", "part"] gWPv (by decide) (fun r1 r2 r3 => gWP_rel r1 r2 r3) (fun T kV doc pm an cdv ct us its ws hu hi hw => match us, its, ws, hu, hi, hw with | [_], [_], [_, _], _, _, _ => ⟨_, rfl, rfl⟩)
  intro base hb1 hb2
  have D_take := ok_take (P := P) (w := w) (base := base) at_law_take T
  have D_box := ok_box (P := P) (w := w) (base := base) at_law_box T
  have D_gcd := ok_gcd (P := P) (w := w) (base := base) at_greatest_common T
  have D_low := ok_low (P := P) (w := w) (base := base) at_in_lowest_terms T D_gcd
  have D_pair := ok_pair (P := P) (w := w) (base := base) at_pair_of T
  have R_inv := ok_InvalidNumbers (P := P) (w := w) (base := base) at_InvalidNumbers T
  have F_sh := ok_Share (P := P) (w := w) (base := base) fd_Share T D_low R_inv
  have M_sh : MakeOk P w K mg base (L2.CX P w) 3 "Share" aSh ["self", "part", "whole"] [] (spShI aSh aInv) := ⟨m_Share, _, _, _, mk_Share, F_sh, bS, vd⟩
  have M_sh1 : MakeOk P w K mg base (L2.CX P w) 3 "Share" aSh ["self", "part", "whole"] [.int 1] (spShI aSh aInv) := ⟨m_Share, _, _, _, mk_Share, F_sh, bS1, vd1⟩
  have K_sh : MakeKOk P w K mg base (L2.CX P w) 3 "Share" aSh ["self", "part", "whole"] 0 ["whole", "part"] gWP (spShI aSh aInv) := ⟨m_Share, _, _, _, mk_Share, F_sh, bK⟩
  have M_add := ok_add (P := P) (w := w) (base := base) at_Share__add T D_pair M_sh
  have M_radd := ok_radd (P := P) (w := w) (base := base) at_Share__radd T D_pair M_sh
  have M_sub := ok_sub (P := P) (w := w) (base := base) at_Share__sub T D_pair M_sh
  have M_rsub := ok_rsub (P := P) (w := w) (base := base) at_Share__rsub T D_pair M_sh
  have M_mul := ok_mul (P := P) (w := w) (base := base) at_Share__mul T D_pair M_sh
  have M_rmul := ok_rmul (P := P) (w := w) (base := base) at_Share__rmul T D_pair M_sh
  have M_lt := ok_lt (P := P) (w := w) (base := base) at_Share__lt T D_pair
  have M_le := ok_le (P := P) (w := w) (base := base) at_Share__le T D_pair
  have M_gt := ok_gt (P := P) (w := w) (base := base) at_Share__gt T D_pair
  have M_ge := ok_ge (P := P) (w := w) (base := base) at_Share__ge T D_pair
  have M_neg := ok_neg (P := P) (w := w) (base := base) at_Share__neg T M_sh
  have M_eq := ok_eq (P := P) (w := w) (base := base) at_Share__eq T
  have M_str := ok_str (P := P) (w := w) (base := base) at_Share__str T
  have D_num := ok_number (P := P) (w := w) (base := base) at_law_number T D_take
  have D_is := ok_is (P := P) (w := w) (base := base) at_law_is T
  have D_ref := ok_refused (P := P) (w := w) (base := base) at_law_refused T M_sh
  have D_sig := ok_signs (P := P) (w := w) (base := base) at_law_signs_right T D_is M_add M_radd M_sub M_rsub M_mul M_rmul M_neg
  exact ok_law at_law T D_box D_num D_is D_ref D_sig M_sh M_sh1 K_sh M_add M_sub M_mul M_eq M_str M_lt M_le M_gt M_ge
end
end Hg
end L2

open PySem PySem.W PyProof.Rows in
set_option maxRecDepth 100000 in
set_option maxHeartbeats 0 in
theorem PySem.Challenge.cw_heldground_k61_shares_made_holds : PySem.Challenge.rw_heldground_k61_shares_made.Holds := by
  w_on; o_law; k_head; (case hw => w_witness2)
  k_fill
  refine L2.Hg.walk_ofG (l := PySem.Challenge.rw_heldground_k61_shares_made) (n := 63) (k := 7) (x := "_law_script") (sp := L2.Hg.spLaw) rfl (by decide) rfl ⟨rfl, by decide, by decide⟩ (fun w h Y => PySem.W.kIn_of Y) ?F (fun K H a ns hl hS => ⟨a, ns, rfl, hS, hl, fun _ => rfl⟩)
  case F =>
    intro w mg h KX G
    refine' L2.Hg.all_mk KX G ?a_GroundError ?bs_GroundError ?br_GroundError ?bf_GroundError ?a_InvalidNumbers ?x_InvalidNumbers ?sa_InvalidNumbers ?ex_InvalidNumbers ?ty_InvalidNumbers ?kc_InvalidNumbers ?i_InvalidNumbers ?ti_InvalidNumbers ?l_InvalidNumbers ?c_InvalidNumbers ?k_InvalidNumbers ?xg_InvalidNumbers ?xk_InvalidNumbers ?xd_InvalidNumbers ?xa_InvalidNumbers ?xn_InvalidNumbers ?xt_InvalidNumbers ?xm_InvalidNumbers ?xs_InvalidNumbers ?a_Share ?pg_Share ?hd_Share ?po_Share ?sa_Share ?mk_Share ?kc_Share ?i_Share ?if_Share ?l_Share ?c_Share ?k_Share ?t_Share ?v_Share ?i_Share__str ?if_Share__str ?l_Share__str ?c_Share__str ?k_Share__str ?i_Share__add ?if_Share__add ?l_Share__add ?c_Share__add ?k_Share__add ?i_Share__radd ?if_Share__radd ?l_Share__radd ?c_Share__radd ?k_Share__radd ?i_Share__sub ?if_Share__sub ?l_Share__sub ?c_Share__sub ?k_Share__sub ?i_Share__rsub ?if_Share__rsub ?l_Share__rsub ?c_Share__rsub ?k_Share__rsub ?i_Share__mul ?if_Share__mul ?l_Share__mul ?c_Share__mul ?k_Share__mul ?i_Share__rmul ?if_Share__rmul ?l_Share__rmul ?c_Share__rmul ?k_Share__rmul ?i_Share__neg ?if_Share__neg ?l_Share__neg ?c_Share__neg ?k_Share__neg ?i_Share__eq ?if_Share__eq ?l_Share__eq ?c_Share__eq ?k_Share__eq ?i_Share__lt ?if_Share__lt ?l_Share__lt ?c_Share__lt ?k_Share__lt ?i_Share__le ?if_Share__le ?l_Share__le ?c_Share__le ?k_Share__le ?i_Share__gt ?if_Share__gt ?l_Share__gt ?c_Share__gt ?k_Share__gt ?i_Share__ge ?if_Share__ge ?l_Share__ge ?c_Share__ge ?k_Share__ge ?na_aSh_part ?na_aSh_whole ?na_aInv_word ?tyA ?suI ?suS ?sfS ?niA ?niS ?niM ?neS ?obS ?caS ?cgS ?ctS ?z_int ?z_len ?z_abs ?z_repr ?z_range ?z_min ?z_max ?z_str ?z_isinstance ?a_law_box ?l_law_box ?c_law_box ?k_law_box ?a_law_take ?l_law_take ?c_law_take ?k_law_take ?a_law_number ?l_law_number ?c_law_number ?k_law_number ?a_law_is ?l_law_is ?c_law_is ?k_law_is ?a_law_refused ?l_law_refused ?c_law_refused ?k_law_refused ?a_law_signs_right ?l_law_signs_right ?c_law_signs_right ?k_law_signs_right ?a_law ?l_law ?c_law ?k_law ?a_greatest_common ?l_greatest_common ?c_greatest_common ?k_greatest_common ?a_in_lowest_terms ?l_in_lowest_terms ?c_in_lowest_terms ?k_in_lowest_terms ?a_pair_of ?l_pair_of ?c_pair_of ?k_pair_of
    (case a_GroundError => k_is)
    (case bs_GroundError => k_is)
    (case br_GroundError => k_is)
    (case bf_GroundError => k_is)
    (case a_InvalidNumbers => k_is)
    (case x_InvalidNumbers => k_is)
    (case sa_InvalidNumbers => k_is)
    (case ex_InvalidNumbers => k_is)
    (case ty_InvalidNumbers => k_is)
    (case kc_InvalidNumbers => k_is)
    (case i_InvalidNumbers => k_is)
    (case ti_InvalidNumbers => k_is)
    (case l_InvalidNumbers => k_is)
    (case c_InvalidNumbers => k_is)
    (case k_InvalidNumbers => k_is)
    (case xg_InvalidNumbers => k_is)
    (case xk_InvalidNumbers => k_is)
    (case xd_InvalidNumbers => k_is)
    (case xa_InvalidNumbers => k_is)
    (case xn_InvalidNumbers => k_is)
    (case xt_InvalidNumbers => k_is)
    (case xm_InvalidNumbers => k_is)
    (case xs_InvalidNumbers => k_is)
    (case a_Share => k_is)
    (case pg_Share => k_is)
    (case hd_Share => k_is)
    (case po_Share => k_is)
    (case sa_Share => k_is)
    (case mk_Share => k_is)
    (case kc_Share => k_is)
    (case i_Share => k_is)
    (case if_Share => k_is)
    (case l_Share => k_is)
    (case c_Share => k_is)
    (case k_Share => k_is)
    (case t_Share => k_is)
    (case v_Share => repeat (first | exact .nil | refine .cons (by first | rfl | exact ⟨_, rfl⟩) ?_))
    (case i_Share__str => k_is)
    (case if_Share__str => k_is)
    (case l_Share__str => k_is)
    (case c_Share__str => k_is)
    (case k_Share__str => k_is)
    (case i_Share__add => k_is)
    (case if_Share__add => k_is)
    (case l_Share__add => k_is)
    (case c_Share__add => k_is)
    (case k_Share__add => k_is)
    (case i_Share__radd => k_is)
    (case if_Share__radd => k_is)
    (case l_Share__radd => k_is)
    (case c_Share__radd => k_is)
    (case k_Share__radd => k_is)
    (case i_Share__sub => k_is)
    (case if_Share__sub => k_is)
    (case l_Share__sub => k_is)
    (case c_Share__sub => k_is)
    (case k_Share__sub => k_is)
    (case i_Share__rsub => k_is)
    (case if_Share__rsub => k_is)
    (case l_Share__rsub => k_is)
    (case c_Share__rsub => k_is)
    (case k_Share__rsub => k_is)
    (case i_Share__mul => k_is)
    (case if_Share__mul => k_is)
    (case l_Share__mul => k_is)
    (case c_Share__mul => k_is)
    (case k_Share__mul => k_is)
    (case i_Share__rmul => k_is)
    (case if_Share__rmul => k_is)
    (case l_Share__rmul => k_is)
    (case c_Share__rmul => k_is)
    (case k_Share__rmul => k_is)
    (case i_Share__neg => k_is)
    (case if_Share__neg => k_is)
    (case l_Share__neg => k_is)
    (case c_Share__neg => k_is)
    (case k_Share__neg => k_is)
    (case i_Share__eq => k_is)
    (case if_Share__eq => k_is)
    (case l_Share__eq => k_is)
    (case c_Share__eq => k_is)
    (case k_Share__eq => k_is)
    (case i_Share__lt => k_is)
    (case if_Share__lt => k_is)
    (case l_Share__lt => k_is)
    (case c_Share__lt => k_is)
    (case k_Share__lt => k_is)
    (case i_Share__le => k_is)
    (case if_Share__le => k_is)
    (case l_Share__le => k_is)
    (case c_Share__le => k_is)
    (case k_Share__le => k_is)
    (case i_Share__gt => k_is)
    (case if_Share__gt => k_is)
    (case l_Share__gt => k_is)
    (case c_Share__gt => k_is)
    (case k_Share__gt => k_is)
    (case i_Share__ge => k_is)
    (case if_Share__ge => k_is)
    (case l_Share__ge => k_is)
    (case c_Share__ge => k_is)
    (case k_Share__ge => k_is)
    (case na_aSh_part => k_is)
    (case na_aSh_whole => k_is)
    (case na_aInv_word => k_is)
    (case tyA => k_is)
    (case suI => k_is)
    (case suS => k_is)
    (case sfS => k_is)
    (case niA => kernel_rfl)
    (case niS => kernel_rfl)
    (case niM => kernel_rfl)
    (case neS => k_is)
    (case obS => k_is)
    (case caS => k_is)
    (case cgS => k_is)
    (case ctS => k_is)
    (case z_int => k_is)
    (case z_len => k_is)
    (case z_abs => k_is)
    (case z_repr => k_is)
    (case z_range => k_is)
    (case z_min => k_is)
    (case z_max => k_is)
    (case z_str => k_is)
    (case z_isinstance => k_is)
    (case a_law_box => k_is)
    (case l_law_box => k_is)
    (case c_law_box => k_is)
    (case k_law_box => k_is)
    (case a_law_take => k_is)
    (case l_law_take => k_is)
    (case c_law_take => k_is)
    (case k_law_take => k_is)
    (case a_law_number => k_is)
    (case l_law_number => k_is)
    (case c_law_number => k_is)
    (case k_law_number => k_is)
    (case a_law_is => k_is)
    (case l_law_is => k_is)
    (case c_law_is => k_is)
    (case k_law_is => k_is)
    (case a_law_refused => k_is)
    (case l_law_refused => k_is)
    (case c_law_refused => k_is)
    (case k_law_refused => k_is)
    (case a_law_signs_right => k_is)
    (case l_law_signs_right => k_is)
    (case c_law_signs_right => k_is)
    (case k_law_signs_right => k_is)
    (case a_law => k_is)
    (case l_law => k_is)
    (case c_law => k_is)
    (case k_law => k_is)
    (case a_greatest_common => k_is)
    (case l_greatest_common => k_is)
    (case c_greatest_common => k_is)
    (case k_greatest_common => k_is)
    (case a_in_lowest_terms => k_is)
    (case l_in_lowest_terms => k_is)
    (case c_in_lowest_terms => k_is)
    (case k_in_lowest_terms => k_is)
    (case a_pair_of => k_is)
    (case l_pair_of => k_is)
    (case c_pair_of => k_is)
    (case k_pair_of => k_is)
