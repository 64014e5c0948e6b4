import PyProof.Rows.All
import Wide.All
import OpenK.AllK
import Wide.FinOn
import HandS.ForMost
import HandS.ForExc
import HandS.ExcInit
import HandS.ExcField
import HandS.ExcIs
import HandS.TryMany
import KE.KExcInit
import HandS.Defaults
import HandS.Lambda
import HandS.EndTab
import HandS.HeadWalk
import PyProof.ReprRoads
import PyProof.CallFns
import HandS.Property
import HandS.ClsMeth
import HandS.Head0
import HandS.Head1
import HandS.Head2
import HandS.HeadEnd
import HandS.HeadHook1
import HandS.HeadHook2
import HandS.HeadHook3
import HandS.HeadHook4
import HandS.IsInst
import KE.KExcIs
import HandS.SortKw
import HandS.More
import KE.SortKeyHeap
import HandS.DictComp
import HandS.Walk
import HandS.CallSlots
import HandS.MakeKwOnly
import PyProof.ListRange
import HandS.WordsExc
import PyProof.InstSpecial
import HandS.SortInts
import HandS.NoneIn
import HandS.Flow
import HandS.Conv
import PySem.Challenge.RW_waitnumbers_k23_limits_of_systems
set_option Elab.async false
set_option linter.all false
set_option maxRecDepth 100000
set_option maxHeartbeats 0
/-! errors of one's own over any built-in base, with fields that __init__ stores -/
namespace Wn
open PySem PySem.Spec PyProof.Rows L2
open Builtin Builtin.ObjectAttr

/-- what the written part says of an own error class over the built-in B -/
structure XC (K : PySem.W.Frag) (C : Addr) (B nw it : String) (bm : List Value) : Prop where
  bf : ExcBaseFacts B nw it bm
  sf : StoreFacts B bm "object.__setattr__" "object"
  ini : PySem.W.excInitIn K C bm nw = true
  ovr : PySem.W.excOver K C bm = true
  hdi : PySem.W.hasDictIn K C = true
  sa : PySem.W.findIn K (.ref C) "__setattr__" = some (some (.builtin "object.__setattr__"))
  exC : PySem.W.subIn K (.ref C) (.type "BaseException") = some true
  tyC : PySem.W.typeIn K (.ref C) = some (.type "type")
  kC : PySem.W.keepIn K (.ref C) = true

theorem taker0 {K : PySem.W.Frag} {C : Addr} {f : Str} (h : PySem.W.findIn K (.ref C) f = some none) : PySem.W.takerIn K C f = some none := by
  unfold PySem.W.takerIn
  rw [h]
  rfl
theorem hasD {K : PySem.W.Frag} {C : Addr} (h : PySem.W.hasDictIn K C = true) : ∃ cd, PySem.W.clsIn K C = some cd ∧ cd.hasDict = true := by
  unfold PySem.W.hasDictIn at h
  cases e : PySem.W.clsIn K C with
  | none =>
    rw [e] at h
    cases h
  | some cd =>
    rw [e] at h
    exact ⟨cd, rfl, h⟩

section
variable {prog : Program} {w : World} {A : Around} {R : Result → Shared → Prop} {hp : Heap} {g : Array GenState} {d : Drawn} {t : Nat} {os : OsState}
variable {K : PySem.W.Frag} {name : Str} {tk : Tok} {v : Value} {x C dx : Addr} {fv : Array Value} {B nw it : String} {bm : List Value}
/-- the first field: the dict is laid -/
theorem osa_first (T : XC K C B nw it bm) (X : K.In hp) (hx : hp.get? x = some { cls := .ref C, data := .fields fv }) (ha : PySem.W.findIn K (.ref C) name = some none)
    (hq : ∀ h' tk' dx, (∀ b o, b ≠ x → hp.get? b = some o → h'.get? b = some o) → hp.objs.size ≤ dx → dx ≠ x →
      h'.get? x = some { cls := .ref C, dict := some dx, data := .fields fv } → h'.Ns1 dx (fun y => if y = name then some v else none) →
      R (.ok (.ret .none)) ⟨h', g, d, tk', os⟩) :
    codeAny (model prog w) A (.call (.builtin "object.__setattr__") ⟨[.ref x, .str name tk, v], []⟩) R ⟨hp, g, d, t, os⟩ := by
  obtain ⟨cd, hcd, hh⟩ := hasD T.hdi
  have hcls : PySem.W.Looks (model prog w) hp (classData C) cd := PySem.W.looks_clsIn X hcd
  have hxs : x ≠ hp.objs.size := Nat.ne_of_lt (Heap.lt_size hx)
  refine PySem.W.osa_openX T.sf X (ox := { cls := .ref C, data := .fields fv }) (od := none) ⟨hx, rfl, rfl, trivial⟩ T.ovr (taker0 ha) fun b => ?_
  show wpAny _ _ (storeInOwnDict (.ref x) (.ref C) (.str name tk) name v b) _ _ _
  obtain ⟨nm, bs, mro, ns, qn, hd, sn, sb, ab, col, de⟩ := cd
  dsimp only at hh
  subst hh
  unfold storeInOwnDict ownDictForStores
  repeat (first | with_reducible refine PySem.HandSPX.store_in_new ?_ ?_ | with_reducible refine wpAny_loadPart_at hx ?_ | with_reducible refine hcls.at ?_ | wp_step)
  · exact ⟨_, #[], _, (Heap.get?_update_ne _ _ _ _ hxs.symm).trans (Heap.get?_push_at rfl rfl), rfl, fun e he => absurd he (by simp), fun _ => rfl⟩
  · intro h' tk' hn' hs
    have hx1 : (hp.push { cls := .type "dict", data := .dict #[] }).get? x = some { cls := .ref C, data := .fields fv } := Heap.get?_push_of_some _ hx
    refine hq h' tk' hp.objs.size (fun b o hb ho => ?_) (Nat.le_refl _) hxs.symm ?_ hn'
    · exact (hs.2 b (Nat.ne_of_lt (Heap.lt_size ho))).trans ((Heap.get?_update_ne _ _ _ _ hb).trans (Heap.get?_push_of_some _ ho))
    · exact (hs.2 x hxs).trans (Heap.get?_update_self _ hx1 rfl)
/-- a further field -/
theorem osa_more {m0 : Str → Option Value} {nl : List Str} (T : XC K C B nw it bm) (X : K.In hp) (hx : hp.get? x = some { cls := .ref C, dict := some dx, data := .fields fv }) (hns : hp.Ns1 dx m0) (hw : Within m0 nl) (hz : nl.length ≤ 1000)
    (ha : PySem.W.findIn K (.ref C) name = some none)
    (hq : ∀ h' tk', (∀ b o, b ≠ dx → hp.get? b = some o → h'.get? b = some o) → h'.Ns1 dx (fun y => if y = name then some v else m0 y) → R (.ok (.ret .none)) ⟨h', g, d, tk', os⟩) :
    codeAny (model prog w) A (.call (.builtin "object.__setattr__") ⟨[.ref x, .str name tk, v], []⟩) R ⟨hp, g, d, t, os⟩ := by
  obtain ⟨cd, hcd, hh⟩ := hasD T.hdi
  obtain ⟨oD, _, _, hoD, _, _⟩ := hns.count hw
  have hcls : PySem.W.Looks (model prog w) hp (classData C) cd := PySem.W.looks_clsIn X hcd
  refine PySem.W.osa_openX T.sf X (ox := { cls := .ref C, dict := some dx, data := .fields fv }) (od := some oD) ⟨hx, rfl, rfl, hoD⟩ T.ovr (taker0 ha) fun b => ?_
  show wpAny _ _ (storeInOwnDict (.ref x) (.ref C) (.str name tk) name v b) _ _ _
  obtain ⟨nm, bs, mro, ns, qn, hd, sn, sb, ab, col, de⟩ := cd
  dsimp only at hh
  subst hh
  unfold storeInOwnDict ownDictForStores
  repeat (first | with_reducible refine PySem.OEX.store_in_old hns hw hz ?_ | with_reducible refine wpAny_loadPart_at hx ?_ | with_reducible refine hcls.at ?_ | wp_step)
  intro h' tk' hn' hs
  exact hq h' tk' (fun b o hb ho => (hs.2 b hb).trans ho) hn'
end

section
variable {X : Cx} {pins : List (Addr × Obj)} {σ : L2.St} {H : Hp} {s : Shared} {a C dx : Addr} {f : Str} {y : V} {u : Value} {fs : List (Str × V)} {Q : Unit → Shared → Prop} {E : Value → Shared → Prop} {A : Around} {B nw it : String} {bm : List Value}
/-- self.f = y in __init__, the first one -/
theorem xs_first (T : XC X.K C B nw it bm) (I : Inv X pins σ H s) (e : H a = some (exo a C none)) (hno : PySem.W.findIn X.K (.ref C) f = some none) (ry : RelV y u)
    (h : ∀ dx s', H dx = none → dx ≠ a → Inv X pins σ (upd (upd H dx (exd dx [(f, y)])) a (exo a C (some dx))) s' → Q () s') : wpAny (model X.prog X.w) A (setAttr (.ref a) f u) Q E s := by
  obtain ⟨t1, ho⟩ := exo_at I.hok e
  obtain ⟨hp, g, d, t, os⟩ := s
  refine PySem.W.set_plain I.kIn (ox := { cls := .ref C, dict := none, data := .fields #[.ref t1, .none, .none, .none, .bool false, .none] }) (od := none) ⟨ho, rfl, rfl, trivial⟩ T.sa ?_
  refine osa_first T I.kIn ho hno (fun h' tk' dx k dn dne hx hn => ?_)
  have hnd : H dx = none := I.hok.fresh dn
  have nd : ∀ {b : Addr} {o : Obj}, hp.get? b = some o → b ≠ dx := fun {b o} q => Nat.ne_of_lt (Nat.lt_of_lt_of_le (Heap.lt_size q) dn)
  have na : ∀ {b : Addr}, H b = none → b ≠ a := fun {b} n z => by rw [z, e] at n; cases n
  have kt : ∀ {b : Addr} {o : HO}, H b = some o → (∀ z, o ≠ exo a C z) → upd (upd H dx (exd dx [(f, y)])) a (exo a C (some dx)) b = some o := fun {b o} q ne => by
    have hb : b ≠ a := fun z => by rw [z, e] at q; exact ne _ (Option.some.inj q).symm
    rw [upd_ne hb, upd_ne (ne_of_none q hnd)]
    exact q
  have U : Un X.fs [] H (upd (upd H dx (exd dx [(f, y)])) a (exo a C (some dx))) hp h' := ⟨fun b o q n _ _ => k b o (na n) q, fun b o q n _ _ => ⟨o.slots, k b o (na n) q⟩,
    fun b o q n _ => by rw [upd_ne (na n), upd_ne (nd q)]; exact n,
    fun b o q _ => by
      by_cases hb : b = a
      · exact ⟨_, by rw [hb]; exact hx⟩
      · exact ⟨o, k b o hb q⟩,
    fun b xs q => kt q fun z => (exo_tup (e := a) (C := C) (d := z)).symm, fun b o v q => kt q fun z => (exo_frz (e := a) (C := C) (d := z)).symm,
    fun b ps q => ⟨#[], by rw [kt q fun z => (exo_tbl (e := a) (C := C) (d := z)).symm]; simp⟩⟩
  refine h dx _ hnd dne (I.un (t' := tk') U fun b o q => ?_)
  by_cases hb : b = a
  · subst hb
    rw [upd_same] at q
    cases q
    exact exo_ok hx
  · rw [upd_ne hb] at q
    by_cases hd : b = dx
    · subst hd
      rw [upd_same] at q
      cases q
      exact exd_ok hn (relO_put (fs := []) ry fun g => True.intro)
    · rw [upd_ne hd] at q
      refine (I.hok b o q).stay (fun c v hc z => k c v ?_ z) (fun c hc => kt hc fun z => (exo_own (e := a) (C := C) (d := z)).symm) (fun c xs hc => kt hc fun z => (exo_tup (e := a) (C := C) (d := z)).symm)
      rcases hc with hc | hc
      · rw [hc]
        exact hb
      · exact at_ne e hc exo_own
/-- self.f = y in __init__, a further one -/
theorem xs_more (T : XC X.K C B nw it bm) (I : Inv X pins σ H s) (e : H a = some (exo a C (some dx))) (ed : H dx = some (exd dx fs)) (hl : fs.length ≤ 900) (hno : PySem.W.findIn X.K (.ref C) f = some none) (ry : RelV y u)
    (h : ∀ s', Inv X pins σ (upd H dx (exd dx ((f, y) :: fs))) s' → Q () s') : wpAny (model X.prog X.w) A (setAttr (.ref a) f u) Q E s := by
  obtain ⟨t1, ho⟩ := exo_at I.hok e
  obtain ⟨mA, hns, rel⟩ := exd_at I.hok ed
  have hw := within_of rel
  obtain ⟨hp, g, d, t, os⟩ := s
  obtain ⟨oD, _, _, hoD, _, _⟩ := hns.count hw
  refine PySem.W.set_plain I.kIn (ox := { cls := .ref C, dict := some dx, data := .fields #[.ref t1, .none, .none, .none, .bool false, .none] }) (od := some oD) ⟨ho, rfl, rfl, hoD⟩ T.sa ?_
  refine osa_more T I.kIn ho hns hw (by rw [List.length_map]; omega) hno (fun h' tk' k hn => ?_)
  obtain ⟨oN, _, _, eN, _⟩ := id hn
  exact h _ (I.write (t' := tk') (x := dx) (e := dx) (o := exd dx ((f, y) :: fs)) (by rw [ed]; exact True.intro) (.inl rfl) k ⟨oN, eN⟩ (exd_ok hn (relO_put ry rel)))
end

/-- self.f = e of an error that is being made -/
def tXs (K : PySem.W.Frag) (f : Str) (to te : TE) : TS := fun D σ H => te σ H fun y H1 => to σ H1 fun x H2 => ∃ (a C : Addr) (B nw it : String) (bm : List Value), x = .ref a ∧ XC K C B nw it bm ∧ PySem.W.findIn K (.ref C) f = some none ∧
  ((H2 a = some (exo a C none) ∧ ∀ dx, H2 dx = none → dx ≠ a → D.nx σ (upd (upd H2 dx (exd dx [(f, y)])) a (exo a C (some dx)))) ∨
    ∃ (dx : Addr) (fs : List (Str × V)), H2 a = some (exo a C (some dx)) ∧ H2 dx = some (exd dx fs) ∧ fs.length ≤ 900 ∧ D.nx σ (upd H2 dx (exd dx ((f, y) :: fs))))
/-- C(e, ..) is raised: its __init__ keeps sp -/
def tXm (C : Addr) (sp : Sp) (ta : TA) : L2.St → Hp → XK → Prop := fun σ H Q => ta σ H fun vs H1 => vs.length ≤ 1000 ∧ ∀ a, H1 a = none → sp (.ref a :: vs) (upd H1 a (exo a C none))
  (fun v H2 => v = .non ∧ ∃ (d : Addr) (fs : List (Str × V)), H2 a = some (exo a C (some d)) ∧ H2 d = some (exd d fs) ∧ H1 d = none ∧ Q (.ref C) (some d) (upd (del H2 a) d (.xd fs))) (fun _ _ _ => False)
section
variable {X : Cx} {o e : Expr} {es : List Expr} {to te : TE} {ta : TA} {f : Str} {p p' p1 p2 pos : Pos}
theorem ps_xs (ho : PE X o to) (he : PE X e te) (hs : swapsWith e (some (.Attribute o f p')) pos.line X.env = pure false := by rfl) : PS X (.Assign [.Attribute o f p'] e pos) (tXs X.K f to te) := by
  refine ⟨fun pins s σ H D I h => ?_⟩
  refine plainObj_wpAny_Assign_Attribute (thn (he.run pins s σ H _ I h) fun v s1 ⟨y, H1, I1, r1, q1⟩ => thn (ho.run pins s1 σ H1 _ I1 q1) fun u s2 ⟨x, H2, I2, r2, a, C, B, nw, it, bm, ex, T, hno, q⟩ => ?_) hs
  subst ex
  obtain rfl : u = Value.ref a := r2
  rcases q with ⟨ea, q⟩ | ⟨dx, fs, ea, ed, hl, q⟩
  · exact xs_first T I2 ea hno r1 fun dx s' n ne J => ⟨σ, _, J, q dx n ne⟩
  · exact xs_more T I2 ea ed hl hno r1 fun s' J => ⟨σ, _, J, q⟩
variable {CX : CXT} {x : Str} {C fI : Addr} {k : Nat} {fd : FuncData} {ps : List Str} {sp : Sp} {B nw it : String} {bm : List Value}
theorem xm_run (T : XC X.K C B nw it bm) (iC : PySem.W.findIn X.K (.ref C) "__init__" = some (some (.ref fI))) (tI : PySem.W.typeIn X.K (.ref fI) = some (.type "function"))
    (F1 : FnOk X.prog X.w X.K X.mg X.base CX k fI fd ps sp) (hr : Room (k + 1) X.A) (hb : Binds X.K fd ps []) (hx : Passes CX X (fun _ _ _ => False)) {pins : List (Addr × Obj)} {σ : L2.St} {H1 : Hp} {s1 : Shared} {us : List Value} {vs : List V} {Q : XK}
    (I1 : Inv X pins σ H1 s1) (r1 : Vals vs us) (hz : vs.length ≤ 1000)
    (q1 : ∀ a, H1 a = none → sp (.ref a :: vs) (upd H1 a (exo a C none)) (fun v H2 => v = .non ∧ ∃ (d : Addr) (fs : List (Str × V)), H2 a = some (exo a C (some d)) ∧ H2 d = some (exd d fs) ∧ H1 d = none ∧ Q (.ref C) (some d) (upd (del H2 a) d (.xd fs))) (fun _ _ _ => False)) :
    wpAny (model X.prog X.w) X.A (call (.ref C) us) (MkP X pins σ Q) X.xe s1 := by
  obtain ⟨hp, g, dr, tk, os⟩ := s1
  obtain ⟨nm, N, q, bs, bl, hdct, sn, sub, ab, col, dd, k0, k1, k2, k3, k5, hC, hT⟩ := PySem.W.excInit_of I1.kIn T.ini
  have hsz : hp.objs.size ≤ hp.objs.size + 1 := Nat.le_succ _
  have hn : H1 (hp.objs.size + 1) = none := I1.hok.fresh hsz
  have hq := q1 (hp.objs.size + 1) hn
  have kk : ∀ b o, hp.get? b = some o → ((hp.push (PySem.W.kdv_tup us)).push (PySem.HandSPX.excO C hp.objs.size)).get? b = some o := fun b o e => Heap.get?_push_of_some _ (Heap.get?_push_of_some _ e)
  have hget : ((hp.push (PySem.W.kdv_tup us)).push (PySem.HandSPX.excO C hp.objs.size)).get? (hp.objs.size + 1) = some (PySem.HandSPX.excO C hp.objs.size) := by heap_get
  have I2 := I1.laid (t' := tk) (a := hp.objs.size + 1) (o := exo (hp.objs.size + 1) C none) kk hsz (exo_ok hget)
  have r2 : Vals (V.ref (hp.objs.size + 1) :: vs) (Value.ref (hp.objs.size + 1) :: us) := .cons rfl r1
  have hl : (Value.ref (hp.objs.size + 1) :: us).length = ps.length := by
    have e := r2.length
    rw [F1.len _ _ _ _ hq] at e
    exact e.symm
  have hus : us.length ≤ sizeLine := by
    rw [← Paired.length r1, sizeLine_eq]
    omega
  have bnd := hb ⟨(hp.push (PySem.W.kdv_tup us)).push (PySem.HandSPX.excO C hp.objs.size), g, dr, tk, os⟩ (Value.ref (hp.objs.size + 1) :: us) I2.kIn (by rw [List.append_nil]; exact hl)
  rw [List.append_nil] at bnd
  refine wpAny_call (PySem.HandSPX.call_own T.bf hT hC (PySem.W.looks_findIn I1.kIn iC) (fun self => PySem.W.bind_fn I1.kIn self tI) hus
    (codeAny_mono (F1.run _ X.stack _ _ ⟨Value.ref (hp.objs.size + 1) :: us, []⟩ _ _ _ (fun _ _ _ => False) (hr.make C us []) (I2.env0.make C us []) bnd r2 hq) fun r s' hq' => ?_))
  cases r with
  | error er => exact hx pins σ _ _ er s' I2 hq'
  | ok fl =>
    cases fl with
    | ret u =>
      obtain ⟨v, H2, os2, bare2, un2, hok2, rv, ev, d, fs, ea, ed, hd1, q2⟩ := hq'
      subst ev
      obtain ⟨h2, g2, d2, t2, os'⟩ := s'
      exact ⟨rv, mk_end (raises_own T.exC T.tyC) I1 hsz kk un2 hok2 os2 bare2 ea ed hd1 q2⟩
    | next => exact False.elim hq'
    | brk => exact False.elim hq'
    | cont => exact False.elim hq'
theorem pmk_x (T : XC X.K C B nw it bm) (iC : PySem.W.findIn X.K (.ref C) "__init__" = some (some (.ref fI))) (tI : PySem.W.typeIn X.K (.ref fI) = some (.type "function"))
    (F1 : FnOk X.prog X.w X.K X.mg X.base CX k fI fd ps sp) (hr : Room (k + 1) X.A) (hb : Binds X.K fd ps []) (hx : Passes CX X (fun _ _ _ => False)) (hg : Gl X x) (hm : X.mg x = some (.ref C)) (ha : PA X (e :: es) ta)
    (hdb : (x == ("__debug__" : Str)) = false := by decide) (he : starEach (e :: es) X.env = (false, eval e X.env) :: starEach es X.env := by rfl) (hpl : (backTo pos (starEach es X.env)).any (·.1) = false := by rfl) :
    PMk X (.Call (.Name x p) (e :: es) [] pos) (tXm C sp ta) := by
  intro pins s σ H Q I h
  refine wpAny_Call_Name_kw (ld_glob I hg hm ?_ hdb)
  refine PySem.W.callWith_K (h₀ := X.base) I.ok.mod.kin T.kC (thn (ha.run pos pins s σ H _ I h) fun us s1 ⟨vs, H1, I1, r1, hz, q1⟩ => ⟨I1.kIn, ?_⟩) he hpl
  exact xm_run T iC tI F1 hr hb hx I1 r1 hz q1
end
end Wn
/-! repr of data, defs that are called where no repr runs, the law's end for such a def -/
namespace Wn
open PySem PySem.Spec PyProof.Rows L2 LamX

/-! ### repr -/
def rRepr (K : PySem.W.Frag) : List V → Hp → VK → Prop := fun xs H Q => ∃ (x : V) (d : PyData), xs = [x] ∧ Dp K H x d ∧ d.showable = true ∧ d.hasDict = false ∧ d.depth ≤ 100 ∧ d.shown.length ≤ sizeLine ∧ Q (.str d.shown) H
theorem call_repr {X : Cx} (hg : X.A.guards = some []) (hu : X.A.units + 200 < cLine) : CallR X (.builtin "repr") (rRepr X.K) := by
  intro pins s σ H xs us Q I r h
  obtain ⟨x, d, rfl, hd, hs, hh, hdep, hz, q⟩ := h
  obtain ⟨u, rfl, ru⟩ := vals1 r
  obtain ⟨as, hr⟩ := Dp.reads I d x u hd ru
  cases hd with
  | non =>
    cases ru
    exact PySem.P.repr_of_none ⟨.str _, H, I.tok _, ⟨_, rfl⟩, q⟩
  | bl b =>
    cases ru
    have q' : Q (.str (if b then "True" else "False")) H := by cases b <;> exact q
    exact PySem.P.repr_of_bool ⟨.str _, H, I.tok _, ⟨_, rfl⟩, q'⟩
  | int i =>
    obtain ⟨t, rfl⟩ := ru
    exact PySem.P.repr_of_int (of_decide_eq_true hs) ⟨.str _, H, I.tok _, ⟨_, rfl⟩, q⟩
  | str z =>
    obtain ⟨t, rfl⟩ := ru
    exact PySem.P.repr_of_str ⟨.str _, H, I.tok _, ⟨_, rfl⟩, q⟩ hz
  | lst _ _ =>
    cases ru
    exact repr_of_reads' hr hs (PyData.noDict_hsm hh) hg (by omega) (fun _ _ e => e) (fun h' v tk k => ⟨.str _, H, I.kept k, ⟨_, rfl⟩, q⟩) hz
  | tup _ _ =>
    cases ru
    exact repr_of_reads' hr hs (PyData.noDict_hsm hh) hg (by omega) (fun _ _ e => e) (fun h' v tk k => ⟨.str _, H, I.kept k, ⟨_, rfl⟩, q⟩) hz

/-! ### a def that is called where no repr runs -/
structure FnG (P : Program) (w : World) (K : PySem.W.Frag) (mg : Str → Option Value) (base : Heap) (CX : CXT) (k : Nat) (f : Addr) (fd : FuncData) (ps : List Str) (sp : Sp) : Prop where
  len : ∀ vs H Q E, sp vs H Q E → vs.length = ps.length
  run : ∀ (A : Around) (outer : List Env) (s : Shared) (H : Hp) (args : Args) (us : List Value) (vs : List V) (Q : VK) (E : XK), A.guards = some [] → Room k A → Env0 P w K mg base A outer s H →
    BindsTo s fd args (ps.zip us) → Vals vs us → sp vs H Q E → codeAny (model P w) A (.call (.ref f) args) (CR CX outer P w H s Q E) s
theorem FnG.of {P : Program} {w : World} {K : PySem.W.Frag} {mg : Str → Option Value} {base : Heap} {CX : CXT} {k : Nat} {f : Addr} {fd : FuncData} {ps : List Str} {sp : Sp} (F : FnOk P w K mg base CX k f fd ps sp) : FnG P w K mg base CX k f fd ps sp :=
  ⟨F.len, fun A outer s H args us vs Q E _ => F.run A outer s H args us vs Q E⟩
section
variable {P : Program} {w : World} {K : PySem.W.Frag} {mg : Str → Option Value} {base : Heap} {x qual : Str} {params : Arguments} {body : List Stmt} {scope : Scope} {dvs : List V} {kws : List (Str × V)} {f : Addr} {fd : FuncData}
theorem okG {CX : CXT} {N ps : List Str} {k : Nat} {sp : Sp} (F : FunD K x qual params body scope dvs kws f fd) (S : FnScope N ps scope) (len : ∀ vs H Q E, sp vs H Q E → vs.length = ps.length)
    (hbody : ∀ (cdv : Value) (A : Around) (outer : List Env) (s : Shared) (H : Hp) (vs : List V) (Q : VK) (E : XK), A.guards = some [] → Room k (A.deeper (envOfC qual scope s.heap.objs.size f cdv)) → sp vs H Q E →
      ∃ t, PSs (cxOf CX P w K mg base N qual scope f cdv A outer s H E) body t ∧ t { nx := fun _ H' => Q .non H', rt := Q } (L2.start N vs) H) : FnG P w K mg base CX (k + 1) f fd ps sp := by
  obtain ⟨oc, od, dV, kV, doc, pm, an, cdv, ct, osl, rfl, lk, hcd, _, _⟩ := F.ex
  refine ⟨len, fun A outer s H args us vs Q E hg hr e0 hb r hsp => ?_⟩
  exact run_ofS lk hcd S hr e0 hb r (len _ _ _ _ hsp) fun hr' => hbody cdv A outer s H vs Q E hg hr' hsp
end
section
variable {X : Cx} {CX : CXT} {k : Nat} {f C : Addr} {fd : FuncData} {ps : List Str} {sp : Sp} {dvs : List V} {ds : List Value} {E : XK} {x m : Str} {p pos apos : Pos} {e o : Expr} {es : List Expr} {ta : TE} {t : TA}
theorem run_g {pins : List (Addr × Obj)} {σ : L2.St} {H : Hp} {s : Shared} {Q : VK} {us : List Value} {vs : List V} (F : FnG X.prog X.w X.K X.mg X.base CX k f fd ps sp) (hgd : X.A.guards = some []) (hr : Room k X.A) (hb : Binds X.K fd ps ds) (hd : Vals dvs ds) (hx : Passes CX X E)
    (I : Inv X pins σ H s) (r : Vals vs us) (h : sp (vs ++ dvs) H Q E) : wpAny (model X.prog X.w) X.A (call (.ref f) us) (EP X pins σ Q) X.xe s := by
  have r2 : Vals (vs ++ dvs) (us ++ ds) := r.append hd
  have hl : (us ++ ds).length = ps.length := r2.length.symm.trans (F.len _ _ _ _ h)
  refine wpAny_call (codeAny_mono (F.run X.A X.stack s H ⟨us, []⟩ _ _ Q E hgd hr I.env0 (hb s us I.kIn hl) r2 h) fun r s' hq => ?_)
  cases r with
  | error z => exact hx pins σ H s z s' I hq
  | ok fl =>
    cases fl with
    | ret u => exact I.after hq
    | next => exact False.elim hq
    | brk => exact False.elim hq
    | cont => exact False.elim hq
/-- f(e, ..) of such a def -/
theorem pe_callG (F : FnG X.prog X.w X.K X.mg X.base CX k f fd ps sp) (hgd : X.A.guards = some []) (hr : Room k X.A) (hg : Gl X x) (hm : X.mg x = some (.ref f)) (hk : PySem.W.keepIn X.K (.ref f) = true) (hb : Binds X.K fd ps ds) (hd : Vals dvs ds) (hx : Passes CX X E)
    (ha : PA X (e :: es) t) (hdb : (x == ("__debug__" : Str)) = false := by decide) (he : starEach (e :: es) X.env = (false, eval e X.env) :: starEach es X.env := by rfl) (hpl : (backTo pos (starEach es X.env)).any (·.1) = false := by rfl) :
    PE X (.Call (.Name x p) (e :: es) [] pos) (tCall sp dvs E t) := by
  refine ⟨fun pins s σ H Q I h => wpAny_Call_Name_kw (ld_glob I hg hm ?_ hdb)⟩
  exact PySem.W.callWith_K (h₀ := X.base) I.ok.mod.kin hk (thn (ha.run pos pins s σ H _ I h) fun us s1 ⟨vs, H1, I1, r, q⟩ => ⟨I1.kIn, run_g F hgd hr hb hd hx I1 r q⟩) he hpl
end

/-! ### the law's end -/
section
variable {P : Program} {w : World} {K : PySem.W.Frag} {mg mb : Str → Option Value} {CX : CXT} {k : Nat} {fa a : Addr} {cs : List (Addr × Addr)} {fd : FuncData} {x : Str} {sp : Sp} {s1 : Shared} {vs : List Value} {ns : List Int}
/-- what is tracked at the law's entry: the tables, the script -/
def Ent (cs : List (Addr × Addr)) (a : Addr) (o : Obj) (ns : List Int) (H : Hp) : Prop :=
  ∀ b u, H b = some u → (b ∈ cs.map (·.2) ∧ u = .tbl #[]) ∨ (b = a ∧ u = .frz o (.lst (ns.map V.int)))
theorem law_core {H : Hp} (KX : K.In s1.heap) (hns : s1.heap.Ns mainGlobals mg) (hb : s1.heap.Ns builtinsNs mb) (hbb : ∀ x : Str, x ≠ "__name__" → mb x = bootBuiltins x) (hlim : s1.heap.NoLimit) (hg : s1.gens = #[])
    (hT : ∀ p ∈ cs, s1.heap.get? p.2 = some { cls := .none, data := .fields #[] }) (nT : ∀ p ∈ cs, K.lookup p.2 = none) (C : ∀ p ∈ cs, PySem.W.CodeHd s1.heap p.1 p.2)
    (hbm : ∃ (bm : Addr) (ob : Obj), mg "__builtins__" = some (.ref bm) ∧ bm ≠ builtinsNs ∧ s1.heap.get? bm = some ob ∧ ob.cls = .type "module" ∧ ob.dict = some builtinsNs ∧ ob.data = .plain)
    (ha : s1.heap.get? a = some { cls := .type "list", data := .seq vs.toArray }) (rv : Vals (ns.map V.int) vs) (hl : ns.length ≤ sizeLine) (hr : Room k callerA)
    (F : ∀ base : Heap, K.In base → base.Ns mainGlobals mg → (∀ p ∈ cs, TabB base mg p.1 p.2) → FnG P w K mg base CX k fa fd [x] sp) (hbind : ∀ (s : Shared) (u : Value), BindsTo s fd ⟨[u], []⟩ [(x, u)])
    (hH : ∀ p ∈ cs, H p.2 = some (.tbl #[])) (ent : Ent cs a { cls := .type "list", data := .seq vs.toArray } ns H) (hKa : H a ≠ none → K.lookup a = none)
    (hsp : sp [.ref a] H (fun v _ => v = .bl true) fun _ _ _ => False) (hCX : ∀ H e s', CX [] H s1 (fun _ _ _ => False) e s' → False) :
    codeAny (model P w) callerA (.call (.ref fa) ⟨[.ref a], []⟩) (fun r s' => r = .ok (.ret (.bool true)) ∧ OldK s1.heap s'.heap ∧ s'.os = s1.os ∧ AllBare s'.gens) s1 := by
  have tabAt : ∀ {b : Addr}, b ∈ cs.map (·.2) → s1.heap.get? b = some { cls := .none, data := .fields #[] } := fun {b} m => by
    obtain ⟨p, hp, rfl⟩ := List.mem_map.mp m
    exact hT p hp
  have hok : HOk P w H s1.heap := fun b u e => by
    rcases ent b u e with ⟨m, rfl⟩ | ⟨rfl, rfl⟩
    · exact tabAt m
    · exact ⟨ha, by rw [List.length_map]; exact hl, vs, _, rv, ha⟩
  -- what is neither a list nor an empty table is not tracked
  have unt : ∀ {b : Addr} {o : Obj}, s1.heap.get? b = some o → o.data ≠ .seq vs.toArray → o.data ≠ .fields #[] → H b = none := fun {b o} e n1 n2 => by
    cases q : H b with
    | none => rfl
    | some u =>
      rcases ent b u q with ⟨m, _⟩ | ⟨z, _⟩
      · rw [tabAt m] at e
        cases e
        exact (n2 rfl).elim
      · rw [z, ha] at e
        cases e
        exact (n1 rfl).elim
  have bs : ∀ {b : Addr} {o : Obj}, s1.heap.get? b = some o → o.data ≠ .seq vs.toArray → o.data ≠ .fields #[] → (hidT s1.heap H).get? b = some o := fun e n1 n2 => hidT_get e (unt e n1 n2)
  have nsB : ∀ {b : Addr} {m : Str → Option Value}, s1.heap.Ns b m → (hidT s1.heap H).Ns b m := fun {b m} ⟨o, es, ep, e, d, r⟩ => ⟨o, es, ep, bs e (by rw [d]; exact fun z => nomatch z) (by rw [d]; exact fun z => nomatch z), d, r⟩
  have hKb : K.In (hidT s1.heap H) := fun b o e => hidT_get (KX b o e) (by
    cases q : H b with
    | none => rfl
    | some u =>
      rcases ent b u q with ⟨m, _⟩ | ⟨z, _⟩
      · obtain ⟨p, hp, rfl⟩ := List.mem_map.mp m
        rw [nT p hp] at e
        cases e
      · subst z
        rw [hKa (by rw [q]; exact fun z => nomatch z)] at e
        cases e)
  have hM : L2.Mod K mg (hidT s1.heap H) := ⟨hKb, nsB hns, ⟨mb, nsB hb, hbb⟩, let ⟨mc, h1, h2⟩ := hlim; ⟨mc, nsB h1, h2⟩⟩
  have TB : ∀ p ∈ cs, TabB (hidT s1.heap H) mg p.1 p.2 := fun p hp => by
    refine ⟨?_, ?_, fun z => ?_⟩
    · obtain ⟨o, us, file, tf, flags, tg, inF, text, tt, e1, r1, r2, r3, rest⟩ := C p hp
      refine ⟨o, us, file, tf, flags, tg, inF, text, tt, bs e1 (by rw [r2]; exact fun z => nomatch z) (fun z => ?_), r1, r2, r3, rest⟩
      rw [r2] at z
      cases z
      simp at r3
    · obtain ⟨bm, ob, b1, b2, b3, b4, b5, b6⟩ := hbm
      refine ⟨bm, ob, b1, b2, fun q => ?_, fun q => ?_, bs b3 (by rw [b6]; exact fun z => nomatch z) (by rw [b6]; exact fun z => nomatch z), b4, b5, b6⟩
      · obtain ⟨o, es, ep, e, hd, _⟩ := hns
        rw [q, e] at b3
        cases b3
        rw [hd] at b6
        cases b6
      · rw [q, hT p hp] at b3
        cases b3
        cases b6
    · obtain ⟨o, es, ep, e, hd, _⟩ := hns
      rw [z, hT p hp] at e
      cases e
      cases hd
  have e0 : Env0 P w K mg (hidT s1.heap H) callerA [] s1 H := ⟨rfl, hM, fun b o e => of_hidT e, Nat.le_of_eq (hidT_size _ _), trivial, (fun b hb => absurd (show b ∈ ([] : List Addr) from hb) List.not_mem_nil), hok, .of_eq hg⟩
  refine codeAny_mono ((F _ hKb (nsB hns) TB).run callerA [] s1 H ⟨[.ref a], []⟩ [.ref a] [.ref a] _ _ rfl hr e0 (hbind s1 (.ref a)) (.cons rfl .nil) hsp) fun r s' h => ?_
  cases r with
  | error z => exact (hCX H z s' h).elim
  | ok fl =>
   cases fl with
   | next => exact False.elim h
   | brk => exact False.elim h
   | cont => exact False.elim h
   | ret u =>
    obtain ⟨v, H', os, bare, un, hok', r', q⟩ := h
    obtain rfl : v = .bl true := q
    obtain rfl : u = Value.bool true := r'
    have kept : ∀ b o, b ∉ cs.map (·.2) → s1.heap.get? b = some o → s'.heap.get? b = some o := fun b o nb e => by
      cases q : H b with
      | none => exact un.keep b o e q (fun z => absurd (show b ∈ ([] : List Addr) from z) List.not_mem_nil) List.not_mem_nil
      | some u =>
        rcases ent b u q with ⟨m, _⟩ | ⟨z, zu⟩
        · exact absurd m nb
        · subst zu
          have e1 := (hok b _ q).1
          have e2 := (hok' b _ (un.frzs b _ _ q)).1
          rw [e] at e1
          rw [e1]
          exact e2
    have tabN : ∀ b, b ∈ cs.map (·.2) → ∃ more : Array Value, s'.heap.get? b = some { cls := .none, data := .fields more } := fun b m => by
      obtain ⟨p, hp, rfl⟩ := List.mem_map.mp m
      obtain ⟨more, z⟩ := un.tbls p.2 #[] (hH p hp)
      exact ⟨_, hok' p.2 _ z⟩
    refine ⟨rfl, ⟨fun b o e => ?_, fun b o e => ?_⟩, os, bare⟩
    · by_cases m : b ∈ cs.map (·.2)
      · obtain ⟨more, hm⟩ := tabN b m
        obtain ⟨p, hp, rfl⟩ := List.mem_map.mp m
        rw [hT p hp] at e
        cases e
        exact .inr (.inl ⟨((C p hp).tab (hT p hp)).isCodeTable, rfl, #[], more, rfl, by rw [Array.empty_append]; exact hm⟩)
      · exact .inl (kept b o m e)
    · by_cases m : b ∈ cs.map (·.2)
      · obtain ⟨more, hm⟩ := tabN b m
        exact ⟨_, hm⟩
      · exact ⟨o, kept b o m e⟩
end
/-- what the law's def must keep, for the end below -/
def LawG (l : PySem.W.OpenLaw) (w : World) (K : PySem.W.Frag) (CX : CXT) (k n : Nat) (x : Str) (mg : Str → Option Value) (fa : Addr) (h : Heap) : Prop :=
  ∃ (fd : FuncData) (cs : List (Addr × Addr)) (sp : Sp), (∀ p ∈ cs, h.get? p.2 = some { cls := .none, data := .fields #[] }) ∧ (∀ p ∈ cs, K.lookup p.2 = none) ∧ (∀ p ∈ cs, PySem.W.CodeHd h p.1 p.2) ∧
    (∀ (s : Shared) (u : Value), BindsTo s fd ⟨[u], []⟩ [(x, u)]) ∧
    (∀ (H : Hp) (a : Addr) (ns : List Int), ns.length ≤ n → (∀ p ∈ cs, H p.2 = some (.tbl #[])) → SqL K H a (ns.map V.int) → sp [.ref a] H (fun v _ => v = .bl true) fun _ _ _ => False) ∧
    ∀ base : Heap, K.In base → base.Ns mainGlobals mg → (∀ p ∈ cs, TabB base mg p.1 p.2) → FnG l.prog w K mg base CX k fa fd [x] sp
theorem walk_g {l : PySem.W.OpenLaw} {n k : Nat} {q : Program} {loose : List Str} {XP : (Str → Option Value) → Heap → Prop} {YP : World → Heap → Prop} {d : DefRec} {CX : World → CXT} {x : Str}
    (hn : l.most = some n) (hn2 : n ≤ sizeLine) (hdf : d.params.defaults = []) (hr : Room k callerA)
    (F : ∀ (w : World) (mg : Str → Option Value) (fa : Addr) (h : Heap), YP w h → h.Ns mainGlobals mg → mg d.name = some (.ref fa) → ∃ K : PySem.W.Frag, K.In h ∧ LawG l w K (CX w) k n x mg fa h)
    (hCX : ∀ (w : World) (H : Hp) (s : Shared) (e : Value) (s' : Shared), CX w [] H s (fun _ _ _ => False) e s' → False) :
    PySem.W.WalkO q loose XP YP l.row.toRowW d [] (fun f vs => PySem.call f vs) := by
  refine Att.attach_callB hn hdf fun w s0 s1 mg mb fa o pm cd doc a vs ns G Y ho hd hcd hmg hobj hints hlen hbits hg => ?_
  obtain ⟨K, KX, fd, cs, sp, hT, nT, C, hb, hsp, hF⟩ := F w mg fa _ Y G.T.g hmg
  have rv := vals_ints hints
  have hl : ns.length ≤ sizeLine := Nat.le_trans hlen hn2
  have nm : ∀ {b : Addr}, b ∈ cs.map (·.2) → b ≠ a := fun {b} m z => by
    obtain ⟨p, hp, rfl⟩ := List.mem_map.mp m
    have e := hT p hp
    rw [z, hobj] at e
    cases e
  cases hk : K.lookup a with
  | some o =>
    have e := KX a o hk
    rw [hobj] at e
    cases e
    let HA : Hp := fun b => if b ∈ cs.map (·.2) then some (.tbl #[]) else none
    have hH : ∀ p ∈ cs, HA p.2 = some (.tbl #[]) := fun p hp => if_pos (List.mem_map.mpr ⟨p, hp, rfl⟩)
    refine law_core (H := HA) KX G.T.g G.T.b G.T.builtins G.T.nolimit hg hT nT C G.T.bmain hobj rv hl hr hF hb hH (fun b u z => ?_) (fun z => absurd (if_neg fun m => nm m rfl) z) (hsp HA a ns hlen hH (.inr ⟨_, vs.toArray, _, hk, rfl, rfl, rfl, by rw [List.size_toArray, hints.length]; exact hl, by simpa using rv⟩)) fun H e s' => hCX w H s1 e s'
    by_cases m : b ∈ cs.map (·.2)
    · exact .inl ⟨m, (Option.some.inj ((if_pos m).symm.trans z)).symm⟩
    · cases (if_neg m).symm.trans z
  | none =>
    let HB : Hp := fun b => if b = a then some (.frz { cls := .type "list", data := .seq vs.toArray } (.lst (ns.map V.int))) else if b ∈ cs.map (·.2) then some (.tbl #[]) else none
    have hH : ∀ p ∈ cs, HB p.2 = some (.tbl #[]) := fun p hp =>
      (if_neg (nm (List.mem_map.mpr ⟨p, hp, rfl⟩))).trans (if_pos (List.mem_map.mpr ⟨p, hp, rfl⟩))
    refine law_core (H := HB) KX G.T.g G.T.b G.T.builtins G.T.nolimit hg hT nT C G.T.bmain hobj rv hl hr hF hb hH (fun b u z => ?_) (fun _ => hk) (hsp HB a ns hlen hH (.inl (.inr ⟨{ cls := .type "list", data := .seq vs.toArray }, if_pos rfl⟩))) fun H e s' => hCX w H s1 e s'
    by_cases e : b = a
    · exact .inr ⟨e, (Option.some.inj ((if_pos e).symm.trans z)).symm⟩
    · have z2 := (if_neg e).symm.trans z
      by_cases m : b ∈ cs.map (·.2)
      · exact .inl ⟨m, (Option.some.inj ((if_pos m).symm.trans z2)).symm⟩
      · cases (if_neg m).symm.trans z2
end Wn
/-! the head's facts, by a Hook of one's own -/
namespace Wn
open PySem PySem.Spec PyProof.Rows L2 LamX He

/-! ### defs wherever they stand -/
def fnO (K : PySem.W.Frag) (a : Addr) : FnW := match K.lookup a with
  | some ⟨_, _, .func fd, _⟩ => some (fd.name, fd.qualname, fd.params, fd.body, fd.scope, fd.globals, fd.closure, fd.builtins)
  | _ => none
/-- one def, by a function that finds it -/
structure DefW where
  find : PySem.W.Frag → Addr
  name : Str
  qual : Str
  st : Stmt
  dfl : List Dv := []
  kwd : List (Str × Dv) := []
def DefW.val (d : DefW) : FnW := some (d.name, d.qual, defArgs d.st, .stmts (defBody d.st), defScope d.st, mainGlobals, [], builtinsNs)
def DefW.dvs (K : PySem.W.Frag) (d : DefW) : List V := d.dfl.map (Dv.v K)
def DefW.kws (K : PySem.W.Frag) (d : DefW) : List (Str × V) := d.kwd.map fun q => (q.1, q.2.v K)
def DefW.ok (K : PySem.W.Frag) (d : DefW) : Bool := PySem.W.keepIn K (.ref (d.find K)) && (match K.lookup (d.find K) with
  | some ⟨_, _, .func fd, _⟩ => PySem.W.codeIn K fd.code d.qual && (dflB K fd.defaults (d.dvs K) && kwdB K fd.kwdefaults (d.kws K))
  | _ => false)
/-- the function object at an address -/
def fdAt (K : PySem.W.Frag) (a : Addr) : FuncData := match K.lookup a with
  | some ⟨_, _, .func fd, _⟩ => fd
  | _ => PySem.W.fnOf "" "" ⟨[], [], none, [], [], none, []⟩ [] ⟨.function, [], false, false, []⟩ .none .none .none .none none .none .none
/-- the def of the statement st stands at a -/
abbrev FD (K : PySem.W.Frag) (x qual : Str) (st : Stmt) (dvs : List V) (kws : List (Str × V)) (a : Addr) : Prop := FunD K x qual (defArgs st) (defBody st) (defScope st) dvs kws a (fdAt K a)
theorem DefW.fd {K : PySem.W.Frag} {d : DefW} (e : fnO K (d.find K) = d.val) (c : d.ok K = true) : FD K d.name d.qual d.st (d.dvs K) (d.kws K) (d.find K) := by
  obtain ⟨kp, c2⟩ := ba c
  unfold fnO at e
  unfold FD fdAt
  cases q : K.lookup (d.find K) with
  | none =>
    rw [q] at c2
    cases c2
  | some o =>
    obtain ⟨oc, od, dt, osl⟩ := o
    rw [q] at c2 e
    cases dt with
    | func fd =>
      obtain ⟨n1, n2, n3, n4, n5, n6, n7, n8, n9, n10, n11, n12, n13, n14, n15⟩ := fd
      have e2 : (some (n1, n2, n3, n4, n5, n6, n7, n15) : FnW) = some (d.name, d.qual, defArgs d.st, .stmts (defBody d.st), defScope d.st, mainGlobals, [], builtinsNs) := e
      simp only [Option.some.injEq, Prod.mk.injEq] at e2
      obtain ⟨h1, h2, h3, h4, h5, h6, h7, h8⟩ := e2
      subst h1 h2 h3 h4 h5 h6 h7 h8
      obtain ⟨k1, k2⟩ := ba (show (PySem.W.codeIn K n13 d.qual && (dflB K n8 (d.dvs K) && kwdB K n9 (d.kws K))) = true from c2)
      obtain ⟨k3, k4⟩ := ba k2
      exact ⟨⟨oc, od, n8, n9, n10, n11, n12, n13, n14, osl, rfl, q, k1, dflB_ok k3, kwdB_ok k4⟩, kp⟩
    | _ => cases c2

/-! ### where things stand -/
/-- a method's def; a property's getter; a classmethod's def -/
def mA (C m : Str) (K : PySem.W.Frag) : Addr := ma K (ga K C) m
def pA (C m : Str) (K : PySem.W.Frag) : Addr := match PySem.W.recIn K (mA C m K) "property" with
  | some (.ref g :: _) => g
  | _ => 0
def kA (C m : Str) (K : PySem.W.Frag) : Addr := match PySem.W.recIn K (mA C m K) "classmethod" with
  | some (.ref g :: _) => g
  | _ => 0
def gA (x : Str) (K : PySem.W.Frag) : Addr := ga K x

/-! ### facts -/
inductive Fc where
  | fa (f : Fa)
  | prop (C f : Str)
  | exc (C : Str) (bm : List Value) (nw : String) (fs : List Str)
  | cval (C f : Str) (v : Dv)
  | isc (C T : Str) (b : Bool)
  | mro (C : Str)
  | ins (C : Str)
  | sub (C : Str) (T : String) (b : Bool)
  | tup (x : Str) (vs : List Dv)
  | bmt (C m : Str)
def clsRd (K : PySem.W.Frag) (C : Addr) : Bool := PySem.W.readsIn K C (.type "type") && eqO (PySem.W.specialIn K (.ref C) "__getattribute__") (some (some (.builtin "type.__getattribute__")))
def cvalB (K : PySem.W.Frag) (C : Addr) (f : Str) (v : V) : Bool := match PySem.W.findCls K (.ref C) (.type "type") f with
  | some (.val u) => relB v u
  | _ => false
/-- an instance of C is asked for its class in the plain way -/
def insB (K : PySem.W.Frag) (C : Addr) : Bool := eqO (PySem.W.findIn K (.ref C) "__class__") (some (some (.builtin "object.__class__")))
def Fc.ok (K : PySem.W.Frag) : Fc → Bool
  | .fa f => f.ok K
  | .prop C f => eqO (PySem.W.findIn K (.ref (ga K C)) f) (some (some (.ref (mA C f K)))) && (eqO (PySem.W.specialIn K (.ref (mA C f K)) "__get__") (some (some (.builtin "property.__get__"))) &&
      (decide (PySem.W.takesIn K (.ref (mA C f K)) = some true) && (match PySem.W.recIn K (mA C f K) "property" with
        | some (.ref _ :: _) => true
        | _ => false)))
  | .exc C bm nw fs => PySem.W.excInitIn K (ga K C) bm nw && (PySem.W.excOver K (ga K C) bm && (PySem.W.hasDictIn K (ga K C) && (eqO (PySem.W.findIn K (.ref (ga K C)) "__setattr__") (some (some (.builtin "object.__setattr__"))) &&
      (decide (PySem.W.subIn K (.ref (ga K C)) (.type "BaseException") = some true) && (decide (PySem.W.typeIn K (.ref (ga K C)) = some (.type "type")) && (PySem.W.keepIn K (.ref (ga K C)) &&
      (eqO (PySem.W.findIn K (.ref (ga K C)) "__init__") (some (some (.ref (mA C "__init__" K)))) && (decide (PySem.W.typeIn K (.ref (mA C "__init__" K)) = some (.type "function")) && (xfB K (ga K C) &&
      (fs.all (fun f => eqO (PySem.W.findIn K (.ref (ga K C)) f) (some none)) && eqO (PySem.W.findIn K (.ref (ga K C)) "__class__") (some (some (.builtin "object.__class__")))))))))))))
  | .cval C f v => clsRd K (ga K C) && cvalB K (ga K C) f (v.v K)
  | .isc C T b => decide (PySem.W.kitOne K (.ref (ga K C)) (.ref (ga K T)) = some b)
  | .mro C => decide (PySem.W.mroIn K (ga K C) (.type "object") = some true)
  | .ins C => insB K (ga K C)
  | .sub C T b => decide (PySem.W.kitOne K (.ref (ga K C)) (.type T) = some b)
  | .tup x vs => tupB K x vs
  | .bmt C m => eqO (PySem.W.specialIn K (.ref (mA C m K)) "__get__") (some (some (.builtin "function.__get__"))) && (decide (PySem.W.takesIn K (.ref (mA C m K)) = some false) && PySem.W.fnIn K (mA C m K))

/-! ### the Hook -/
/-- what is looked at: what the module's names reach in n steps, and the statics -/
def refsB (g : Addr → Option Obj) (a : Addr) : List Addr := match g a with
  | some o => refsD o
  | none => []
/-- what is new among them, told by the bits of m -/
def seeB : List Addr → Nat → List Addr → (Nat → List Addr → List Addr) → List Addr
  | [], m, l, k => k m l
  | a :: r, m, l, k => match Nat.beq (Nat.land (Nat.shiftRight m a) 1) 1 with
    | true => seeB r m l k
    | false => HandSHeadRun.frNat (Nat.lor m (Nat.shiftLeft 1 a)) fun m => seeB r m (a :: l) k
def growB (g : Addr → Option Obj) : Nat → Nat → List Addr → List Addr → List Addr
  | 0, _, _, all => all
  | n + 1, m, front, all => seeB (front.flatMap (refsB g)) m [] fun m new => growB g n m new (all ++ new)
def asW (g : Addr → Option Obj) (n : Nat) : List Addr := growB g n (Nat.lor (Nat.shiftLeft 1 mainGlobals) (Nat.shiftLeft 1 cStatics)) [mainGlobals] [mainGlobals, cStatics]
structure SaysW (fc : List Fc) (fw : List DefW) (ts : List Tab) (tf : List Defn) (w : World) (h : Heap) (K : PySem.W.Frag) : Prop where
  x : SaysX [] [] ts tf (fun K => fc.all fun f => f.ok K) w h K
  d : ∀ d ∈ fw, FD K d.name d.qual d.st (d.dvs K) (d.kws K) (d.find K)
theorem SaysW.fact {fc : List Fc} {fw : List DefW} {ts : List Tab} {tf : List Defn} {w : World} {h : Heap} {K : PySem.W.Frag} (c : SaysW fc fw ts tf w h K) (i : Nat) {f : Fc} (e : fc[i]? = some f := by rfl) : f.ok K = true :=
  List.all_eq_true.mp c.x.more f (List.mem_of_getElem? e)
theorem SaysW.def_ {fc : List Fc} {fw : List DefW} {ts : List Tab} {tf : List Defn} {w : World} {h : Heap} {K : PySem.W.Frag} (c : SaysW fc fw ts tf w h K) (i : Nat) {d : DefW} (e : fw[i]? = some d := by rfl) :
    FD K d.name d.qual d.st (d.dvs K) (d.kws K) (d.find K) := c.d d (List.mem_of_getElem? e)
abbrev AlW : Type := AlX × (Bool × List FnW)
def obsK (fc : List Fc) (fw : List DefW) (ts : List Tab) (tf : List Defn) (g : Addr → Option Obj) (K : PySem.W.Frag) : AlW :=
  ((obsT [] [] ts K, (fc.all fun f => f.ok K) && tabsB g tf K), (fw.all fun d => d.ok K, fw.map fun d => fnO K (d.find K)))
def obsW (n : Nat) (fc : List Fc) (fw : List DefW) (ts : List Tab) (tf : List Defn) (g : Addr → Option Obj) : AlW := obsK fc fw ts tf g (frT g (asW g n))
def valW (fw : List DefW) (ts : List Tab) (w : World) : AlW := (valX [] ts w, (true, fw.map DefW.val))
theorem saysW_of {n : Nat} {fc : List Fc} {fw : List DefW} {ts : List Tab} {tf : List Defn} {w : World} {h : Heap} (e : obsW n fc fw ts tf h.get? = valW fw ts w) : SaysW fc fw ts tf w h (frT h.get? (asW h.get? n)) := by
  unfold obsW at e
  generalize eK : frT h.get? (asW h.get? n) = K at e
  have out : ∀ {a : Addr} {o : Obj}, h.get? a = some o → emptyTab o = true → K.lookup a = none := fun {a o} q z => by rw [← eK]; exact frT_none q z
  have t1 : obsT [] [] ts K = valT [] ts w := congrArg (fun z : AlW => z.1.1) e
  have t2 : ((fc.all fun f => f.ok K) && tabsB h.get? tf K) = true := congrArg (fun z : AlW => z.1.2) e
  have e1 : (fw.all fun d => d.ok K) = true := congrArg (fun z : AlW => z.2.1) e
  have e2 : (fw.map fun d => fnO K (d.find K)) = fw.map DefW.val := congrArg (fun z : AlW => z.2.2) e
  obtain ⟨t3, t4⟩ := ba t2
  have key : ∀ p ∈ tf, PySem.W.codeHdIn K (cT K p).1 (cT K p).2 = true ∧ ∃ o, h.get? (cT K p).2 = some o ∧ emptyTab o = true := fun p hp => by
    obtain ⟨y1, y2⟩ := ba (List.all_eq_true.mp t4 p hp)
    refine ⟨y1, ?_⟩
    cases q : h.get? (cT K p).2 with
    | none =>
      rw [q] at y2
      cases y2
    | some o =>
      rw [q] at y2
      exact ⟨o, rfl, y2⟩
  refine ⟨⟨t1, t3, fun p hp => (key p hp).1, fun p hp => ?_, fun p hp => ?_⟩, fun d hd => ?_⟩
  · obtain ⟨_, o, q, z⟩ := key p hp
    exact out q z
  · obtain ⟨_, o, q, z⟩ := key p hp
    rw [q, emptyTab_eq z]
  · obtain ⟨i, hi, ei⟩ := List.mem_iff_getElem.mp hd
    have h3 : fw[i]? = some d := by rw [List.getElem?_eq_getElem hi, ei]
    have e3 : (fw.map fun d => fnO K (d.find K))[i]? = (fw.map DefW.val)[i]? := by rw [e2]
    rw [List.getElem?_map, List.getElem?_map, h3] at e3
    exact DefW.fd (Option.some.inj e3) (List.all_eq_true.mp e1 d hd)
def hookW (n : Nat) (fc : List Fc) (fw : List DefW) (ts : List Tab) (tf : List Defn) : PySem.W.Hook where
  α := AlW
  obs := fun s => obsW n fc fw ts tf s.heap.get?
  val := fun w => valW fw ts w
  says := fun w h => ∃ K : PySem.W.Frag, K.In h ∧ SaysW fc fw ts tf w h K
  of := fun _ _ e => ⟨_, frT_in, saysW_of e⟩
  keeps := fun _ _ _ ⟨K, hK, c⟩ k => ⟨K, PySem.W.Frag.In.keeps hK k, ⟨⟨c.x.t, c.x.more, c.x.hd, c.x.out, fun p hp => k _ _ (c.x.empty p hp)⟩, c.d⟩⟩
theorem obsW_eq {n : Nat} {fc : List Fc} {fw : List DefW} {ts : List Tab} {tf : List Defn} {g : Addr → Option Obj} {s : Shared} (h : ∀ a, g a = s.heap.get? a) : obsW n fc fw ts tf g = (hookW n fc fw ts tf).obs s := by
  have e : g = s.heap.get? := funext h
  rw [e] <;> rfl

/-! ### what the facts say -/
section
variable {K : PySem.W.Frag} {h : Heap} {mg : Str → Option Value}
theorem bm_ok {C f : Str} (c : (Fc.bmt C f).ok K = true) : PySem.W.specialIn K (.ref (mA C f K)) "__get__" = some (some (.builtin "function.__get__")) ∧ PySem.W.takesIn K (.ref (mA C f K)) = some false ∧ PySem.W.fnIn K (mA C f K) = true := by
  obtain ⟨h1, c⟩ := ba c
  obtain ⟨h2, h3⟩ := ba c
  exact ⟨eqO_ok h1, of_decide_eq_true h2, h3⟩
theorem prop_ok {C f : Str} (c : (Fc.prop C f).ok K = true) : PropOf K (ga K C) f (mA C f K) (pA C f K) := by
  obtain ⟨h1, c⟩ := ba c
  obtain ⟨h2, c⟩ := ba c
  obtain ⟨h3, h4⟩ := ba c
  refine ⟨eqO_ok h1, eqO_ok h2, of_decide_eq_true h3, ?_⟩
  unfold pA
  cases q : PySem.W.recIn K (mA C f K) "property" with
  | none =>
    rw [q] at h4
    cases h4
  | some l =>
    rw [q] at h4
    cases l with
    | nil => cases h4
    | cons v r =>
      cases v with
      | ref g => exact ⟨r, rfl⟩
      | _ => cases h4
/-- an own error class: what is raised, what its fields need -/
structure XT (K : PySem.W.Frag) (C : Str) (B nw it : String) (bm : List Value) (fs : List Str) : Prop where
  xc : XC K (ga K C) B nw it bm
  ini : PySem.W.findIn K (.ref (ga K C)) "__init__" = some (some (.ref (mA C "__init__" K)))
  fn : PySem.W.typeIn K (.ref (mA C "__init__" K)) = some (.type "function")
  xf : XfC K (ga K C)
  no : ∀ f ∈ fs, PySem.W.findIn K (.ref (ga K C)) f = some none
  cl : PySem.W.findIn K (.ref (ga K C)) "__class__" = some (some (.builtin "object.__class__"))
theorem exc_okW {C : Str} {B nw it : String} {bm : List Value} {fs : List Str} (bf : ExcBaseFacts B nw it bm) (sf : StoreFacts B bm "object.__setattr__" "object") (c : (Fc.exc C bm nw fs).ok K = true) : XT K C B nw it bm fs := by
  obtain ⟨h1, c⟩ := ba c
  obtain ⟨h2, c⟩ := ba c
  obtain ⟨h3, c⟩ := ba c
  obtain ⟨h4, c⟩ := ba c
  obtain ⟨h5, c⟩ := ba c
  obtain ⟨h6, c⟩ := ba c
  obtain ⟨h7, c⟩ := ba c
  obtain ⟨h8, c⟩ := ba c
  obtain ⟨h9, c⟩ := ba c
  obtain ⟨h10, c⟩ := ba c
  obtain ⟨h11, h12⟩ := ba c
  exact ⟨⟨bf, sf, h1, h2, h3, eqO_ok h4, of_decide_eq_true h5, of_decide_eq_true h6, h7⟩, eqO_ok h8, of_decide_eq_true h9, xfB_ok h10, fun f hf => eqO_ok (List.all_eq_true.mp h11 f hf), eqO_ok h12⟩
theorem cval_ok {C f : Str} {v : Dv} (c : (Fc.cval C f v).ok K = true) : ClX.CRead K (ga K C) (.type "type") ∧ ∃ u, ClX.CVal K (ga K C) (.type "type") f (v.v K) u := by
  obtain ⟨h1, h2⟩ := ba c
  obtain ⟨h3, h4⟩ := ba h1
  refine ⟨⟨h3, eqO_ok h4⟩, ?_⟩
  unfold cvalB at h2
  cases q : PySem.W.findCls K (.ref (ga K C)) (.type "type") f with
  | none =>
    rw [q] at h2
    cases h2
  | some r =>
    rw [q] at h2
    cases r with
    | val u => exact ⟨u, q, relB_ok h2⟩
    | _ => cases h2
end
end Wn
/-! isinstance of a caught error that has a dict of its own -/
namespace Wn
open PySem PySem.Spec PyProof.Rows L2 LamX He
theorem cls_get (K : PySem.W.Frag) : PySem.W.specialIn K (.builtin "object.__class__") "__get__" = some (some (.builtin "getset_descriptor.__get__")) := by
  first | rfl | kernel_rfl
theorem cls_tak (K : PySem.W.Frag) : PySem.W.takesIn K (.builtin "object.__class__") = some true := by
  first | rfl | kernel_rfl
theorem some_cls {K : PySem.W.Frag} {C : Addr} (h : PySem.W.hasDictIn K C = true) : (PySem.W.clsIn K C).isSome = true := by
  obtain ⟨cd, e, _⟩ := hasD h
  rw [e]
  rfl
/-- isinstance(e, c) where the suite holds e, an error of the own class D -/
def rIsX (K : PySem.W.Frag) (cls : Value) (a : Addr) : List V → Hp → VK → Prop := fun xs H Q => ∃ (D : Str) (B nw it : String) (bm : List Value) (fs : List Str) (c : V) (cv : Value) (b : Bool), cls = .ref (ga K D) ∧ XT K D B nw it bm fs ∧
  PySem.W.mroIn K (ga K D) (.type "object") = some true ∧ xs = [.ref a, c] ∧ (∀ u, RelV c u → u = cv) ∧ PySem.W.kitOne K cls cv = some b ∧ Q (.bl b) H
theorem call_isX {X : Cx} {a : Addr} {oe : Obj} {cls : Value} {d : Option Addr} {pn : List (Addr × Obj)} (hz : Zc cls d oe) (hf : ∃ vs, oe.data = .fields vs) : CallR (X.suite a ((a, oe) :: pn)) (.builtin "isinstance") (fun xs H Q => rIsX X.K cls a xs H fun v H' => (∃ dd fs, d = some dd ∧ H dd = some (.xd fs)) ∧ Q v H') := by
  intro pins s σ H xs us Q I r h
  obtain ⟨D, B, nw, it, bm, fs, c, cv, b, ec, T, hm, rfl, hcv, e, ⟨dd, fl, ed, hdd⟩, q⟩ := h
  obtain ⟨u1, u2, rfl, r1, r2⟩ := vals2 r
  cases (show u1 = Value.ref a from r1)
  have e2 := hcv _ r2
  subst e2
  subst ec
  subst ed
  obtain ⟨hget, _⟩ := I.pin (a, oe) (List.mem_append.mpr (.inl List.mem_cons_self))
  obtain ⟨vs, hv⟩ := hf
  have hx : ObjOk X.prog X.w H s.heap dd (.xd fl) := I.hok dd _ hdd
  obtain ⟨mA, hns, hr⟩ := hx
  obtain ⟨od, ho, hl⟩ := lookIn_ns hns
  have J : PySem.W.InstAt s.heap a oe (ga X.K D) (some od) := ⟨hget, hz.1, by unfold PySem.W.notCls; rw [hv] <;> rfl, by rw [hz.2]; exact ho⟩
  exact PySem.W.kia_one (PySem.W.kitx_exc (some_cls T.xc.hdi) T.xf.ga T.xf.gg T.xf.exC T.cl (cls_get _) (cls_tak _) hm) I.kIn J e (fun z => nomatch z) fun tk => ⟨.bl b, H, I.kept (t' := tk) fun _ _ z => z, rfl, q⟩
end Wn
/-! raise C(e) where C's __init__ stores a caption and one field -/
namespace Wn
open PySem PySem.Spec PyProof.Rows L2 LamX He

def spErr (C : Addr) (f cap : Str) : Sp := fun vs H Q _ => ∃ (a : Addr) (v : V), vs = [.ref a, v] ∧ H a = some (exo a C none) ∧ ∀ dx, H dx = none → dx ≠ a →
  Q .non (upd (upd (upd H dx (exd dx [("caption", .str cap)])) a (exo a C (some dx))) dx (exd dx [(f, v), ("caption", .str cap)]))
def spErr0 (C : Addr) (cap : Str) : Sp := fun vs H Q _ => ∃ (a : Addr), vs = [.ref a] ∧ H a = some (exo a C none) ∧ ∀ dx, H dx = none → dx ≠ a →
  Q .non (upd (upd H dx (exd dx [("caption", .str cap)])) a (exo a C (some dx)))
/-- raise C(e): for every new d the way out, d the error's own dict -/
def tErr (C : Addr) (f cap : Str) (te : TE) : L2.St → Hp → XK → Prop := fun σ H Q => te σ H fun v H1 => ∀ d, H1 d = none → Q (.ref C) (some d) (upd H1 d (.xd [(f, v), ("caption", .str cap)]))
def tErr0 (C : Addr) (cap : Str) : L2.St → Hp → XK → Prop := fun _ H Q => ∀ d, H d = none → Q (.ref C) (some d) (upd H d (.xd [("caption", .str cap)]))
theorem err_heap {H : Hp} {a d C : Addr} {f1 f2 fs : List (Str × V)} (ha : H a = none) (ne : d ≠ a) :
    upd (del (upd (upd (upd (upd H a (exo a C none)) d (exd d f1)) a (exo a C (some d))) d (exd d f2)) a) d (.xd fs) = upd H d (.xd fs) := by
  funext b
  by_cases h1 : b = d
  · subst h1
    rw [upd_same, upd_same]
  · rw [upd_ne h1, upd_ne h1]
    by_cases h2 : b = a
    · subst h2
      rw [del_same, ha]
    · rw [del_ne h2, upd_ne h1, upd_ne h2, upd_ne h1, upd_ne h2]
theorem err_heap0 {H : Hp} {a d C : Addr} {f1 fs : List (Str × V)} (ha : H a = none) (ne : d ≠ a) :
    upd (del (upd (upd (upd H a (exo a C none)) d (exd d f1)) a (exo a C (some d))) a) d (.xd fs) = upd H d (.xd fs) := by
  funext b
  by_cases h1 : b = d
  · subst h1
    rw [upd_same, upd_same]
  · rw [upd_ne h1, upd_ne h1]
    by_cases h2 : b = a
    · subst h2
      rw [del_same, ha]
    · rw [del_ne h2, upd_ne h2, upd_ne h1, upd_ne h2]
section
variable {X : Cx} {e : Expr} {te : TE} {f cap : Str} {p pos : Pos} {CX : CXT} {x C : Str} {k : Nat} {fd : FuncData} {B nw it : String} {bm : List Value} {fs : List Str}
/-- what is wanted behind one argument -/
def one1 (R : V → Hp → Prop) : List V → Hp → Prop := fun vs H => match vs with
  | [v] => R v H
  | _ => False
theorem pmk_err (T : XT X.K C B nw it bm fs) (F1 : FnOk X.prog X.w X.K X.mg X.base CX k (mA C "__init__" X.K) fd ["self", f] (spErr (ga X.K C) f cap)) (hr : Room (k + 1) X.A) (hb : Binds X.K fd ["self", f] []) (hx : Passes CX X (fun _ _ _ => False))
    (hg : Gl X x) (hm : X.mg x = some (.ref (ga X.K C))) (he : PE X e te) (hdb : (x == ("__debug__" : Str)) = false := by decide) (hst : starEach [e] X.env = [(false, eval e X.env)] := by rfl) :
    PMk X (.Call (.Name x p) [e] [] pos) (tErr (ga X.K C) f cap te) := by
  intro pins s σ H Q I h
  refine wpAny_Call_Name_kw (ld_glob I hg hm ?_ hdb)
  refine PySem.W.callWith_K (h₀ := X.base) I.ok.mod.kin T.xc.kC (thn ((pa_cons he pa_nil hst).run pos pins s σ H (one1 fun v H1 => ∀ d, H1 d = none → Q (.ref (ga X.K C)) (some d) (upd H1 d (.xd [(f, v), ("caption", .str cap)]))) I h) fun us s1 ⟨vs, H1, I1, r1, q1⟩ => ⟨I1.kIn, ?_⟩) hst rfl
  match vs, r1, q1 with
  | [v], r1, q1 =>
    refine xm_run T.xc T.ini T.fn F1 hr hb hx I1 r1 (by show 1 ≤ 1000; decide) fun a ha => ⟨a, v, rfl, upd_same, fun dx hd ne => ⟨rfl, dx, [(f, v), ("caption", .str cap)], ?_, upd_same, ?_, ?_⟩⟩
    · rw [upd_ne (Ne.symm ne), upd_same]
    · rw [upd_ne ne] at hd
      exact hd
    · rw [err_heap ha ne]
      rw [upd_ne ne] at hd
      exact q1 dx hd
theorem pmk_err0 (T : XT X.K C B nw it bm fs) (F1 : FnOk X.prog X.w X.K X.mg X.base CX k (mA C "__init__" X.K) fd ["self"] (spErr0 (ga X.K C) cap)) (hr : Room (k + 1) X.A) (hb : Binds X.K fd ["self"] []) (hx : Passes CX X (fun _ _ _ => False))
    (hg : Gl X x) (hm : X.mg x = some (.ref (ga X.K C))) (hdb : (x == ("__debug__" : Str)) = false := by decide) : PMk X (.Call (.Name x p) [] [] pos) (tErr0 (ga X.K C) cap) := by
  intro pins s σ H Q I h
  refine wpAny_Call_Name_kw (ld_glob I hg hm ?_ hdb)
  refine PySem.W.callWith_K0 I.kIn T.xc.kC ?_
  refine xm_run (us := []) (vs := []) T.xc T.ini T.fn F1 hr hb hx I .nil (by decide) fun a ha => ⟨a, rfl, upd_same, fun dx hd ne => ⟨rfl, dx, [("caption", .str cap)], upd_same, ?_, ?_, ?_⟩⟩
  · rw [upd_ne ne, upd_same]
  · rw [upd_ne ne] at hd
    exact hd
  · rw [err_heap0 ha ne]
    rw [upd_ne ne] at hd
    exact h dx hd
/-- an error's __init__ keeps its promise -/
theorem err_init {P : Program} {w : World} {K : PySem.W.Frag} {mg : Str → Option Value} {base : Heap} {st : Stmt} {p1 p2 p3 p4 p5 p6 p7 p8 : Pos} {j : Nat} (T : XT K C B nw it bm fs) (F : FD K "__init__" cap st [] [] (mA C "__init__" K)) (S : FnScope ["self", f] ["self", f] (defScope st))
    (hbd : defBody st = [.Assign [.Attribute (.Name "self" p1) "caption" p2] (.Constant (.str x) j p3) p4, .Assign [.Attribute (.Name "self" p5) f p6] (.Name f p7) p8])
    (h1 : (("caption" : Str) ∈ fs) ∧ f ∈ fs) (hn : (f == ("__debug__" : Str)) = false ∧ (f == ("__classdict__" : Str)) = false)
    (hs : ∀ env : Env, swapsWith (.Constant (.str x) j p3) (some (.Attribute (.Name "self" p1) "caption" p2)) p4.line env = pure false ∧ swapsWith (.Name f p7) (some (.Attribute (.Name "self" p5) f p6)) p8.line env = pure false)
    (hv : Vis (defScope st) "self" ∧ Vis (defScope st) f) :
    FnOk P w K mg base CX0 1 (mA C "__init__" K) (fdAt K (mA C "__init__" K)) ["self", f] (spErr (ga K C) f x) := by
  refine FunD.ok F S (fun vs H Q E h => ?_) (fun cdv A outer s H vs Q E hr h => ?_)
  · obtain ⟨a, v, rfl, _⟩ := h
    rfl
  · obtain ⟨a, v, rfl, ha, k⟩ := h
    rw [hbd]
    refine ⟨_, pss_cons (ps_xs (pe_var (i := 0) rfl hv.1) pe_str (hs _).1) (pss_one (ps_xs (pe_var (i := 0) rfl hv.1) (pe_var (i := 1) rfl hv.2 hn.1 hn.2) (hs _).2)), ?_⟩
    refine ⟨_, rfl, a, ga K C, B, nw, it, bm, rfl, T.xc, T.no _ h1.1, .inl ⟨ha, fun dx hd ne => ?_⟩⟩
    refine ⟨_, rfl, _, rfl, a, ga K C, B, nw, it, bm, rfl, T.xc, T.no _ h1.2, .inr ⟨dx, [("caption", .str x)], upd_same, ?_, (by show 1 ≤ 900; decide), ?_⟩⟩
    · rw [upd_ne ne, upd_same]
    · exact k dx hd ne
theorem err_init0 {P : Program} {w : World} {K : PySem.W.Frag} {mg : Str → Option Value} {base : Heap} {st : Stmt} {p1 p2 p3 p4 : Pos} {j : Nat} (T : XT K C B nw it bm fs) (F : FD K "__init__" cap st [] [] (mA C "__init__" K)) (S : FnScope ["self"] ["self"] (defScope st))
    (hbd : defBody st = [.Assign [.Attribute (.Name "self" p1) "caption" p2] (.Constant (.str x) j p3) p4])
    (h1 : ("caption" : Str) ∈ fs)
    (hs : ∀ env : Env, swapsWith (.Constant (.str x) j p3) (some (.Attribute (.Name "self" p1) "caption" p2)) p4.line env = pure false)
    (hv : Vis (defScope st) "self") :
    FnOk P w K mg base CX0 1 (mA C "__init__" K) (fdAt K (mA C "__init__" K)) ["self"] (spErr0 (ga K C) x) := by
  refine FunD.ok F S (fun vs H Q E h => ?_) (fun cdv A outer s H vs Q E hr h => ?_)
  · obtain ⟨a, rfl, _⟩ := h
    rfl
  · obtain ⟨a, rfl, ha, k⟩ := h
    rw [hbd]
    refine ⟨_, pss_one (ps_xs (pe_var (i := 0) rfl hv) pe_str (hs _)), ?_⟩
    exact ⟨_, rfl, a, ga K C, B, nw, it, bm, rfl, T.xc, T.no _ h1, .inl ⟨ha, fun dx hd ne => k dx hd ne⟩⟩
end
end Wn
/-! sorted(xs, key=f): f is called as a def of the text is -/
namespace Wn
open PySem PySem.Spec PyProof.Rows L2 LamX PySem.W

theorem Same.sqt {K : PySem.W.Frag} {H H' : Hp} {a : Addr} {xs : List V} (e : Same H H') (h : SqT K H a xs) : SqT K H' a xs := by
  rcases h with (h | ⟨o, h⟩) | h
  · exact .inl (.inl (e _ _ h))
  · exact .inl (.inr ⟨o, e _ _ h⟩)
  · exact .inr h
mutual
theorem Dp.same {K : PySem.W.Frag} {H H' : Hp} (e : Same H H') : ∀ (d : PyData) (v : V), Dp K H v d → Dp K H' v d
  | .none, _, h => by cases h; exact .non
  | .bool b, _, h => by cases h; exact .bl b
  | .int i, _, h => by cases h; exact .int i
  | .str x, _, h => by cases h; exact .str x
  | .list ds, _, h => by cases h with | lst hs ha => exact .lst (e.seq hs) (DpAll.same e ds _ ha)
  | .tuple ds, _, h => by cases h with | tup hs ha => exact .tup (Same.sqt e hs) (DpAll.same e ds _ ha)
  | .dict kvs, _, h => by cases h
theorem DpAll.same {K : PySem.W.Frag} {H H' : Hp} (e : Same H H') : ∀ (ds : List PyData) (vs : List V), DpAll K H vs ds → DpAll K H' vs ds
  | [], _, h => by cases h; exact .nil
  | d :: ds, _, h => by cases h with | cons h1 h2 => exact .cons (Dp.same e d _ h1) (DpAll.same e ds _ h2)
end

theorem dpLen {K : PySem.W.Frag} {H : Hp} : ∀ {vs : List V} {ds : List PyData}, DpAll K H vs ds → vs.length = ds.length
  | _, _, .nil => rfl
  | _, _, .cons _ t => congrArg Nat.succ (dpLen t)
theorem dpApp {K : PySem.W.Frag} {H : Hp} : ∀ {vs ws : List V} {ds es : List PyData}, DpAll K H vs ds → DpAll K H ws es → DpAll K H (vs ++ ws) (ds ++ es)
  | _, _, _, _, .nil, h => h
  | _, _, _, _, .cons a t, h => .cons a (dpApp t h)
theorem eachVals : ∀ {xs : List V} {us : List Value}, Vals xs us → EachIs (fun v x => RelV x v) us xs
  | _, _, .nil => .nil
  | _, _, .cons r t => .cons r (eachVals t)
theorem valsEach : ∀ {xs : List V} {us : List Value}, EachIs (fun v x => RelV x v) us xs → Vals xs us
  | _, _, .nil => .nil
  | _, _, .cons r t => .cons r (valsEach t)
theorem eachReads {X : Cx} {pins : List (Addr × Obj)} {σ : L2.St} {H : Hp} {s : Shared} (I : Inv X pins σ H s) : ∀ {ks : List V} {us : List Value} {ds : List PyData}, Vals ks us → DpAll X.K H ks ds → EachIs (fun v k => ∃ as, Reads s.heap v k as) us ds
  | _, _, _, .nil, .nil => .nil
  | _, _, _, .cons r t, .cons d ds => .cons (Dp.reads I _ _ _ d r) (eachReads I t ds)
section
variable {X : Cx} {pins : List (Addr × Obj)} {σ : L2.St} {H : Hp} {s : Shared}
/-- addresses behind the heap of an invariant are nobody's -/
structure Own (X : Cx) (pins : List (Addr × Obj)) (a : Addr) : Prop where
  loc : a ≠ X.env.locals
  old : X.s_0.heap.objs.size ≤ a
  cel : ∀ x c, X.env.cells.lookup x = some c → c ≠ a
  pin : ∀ p ∈ X.pn ++ pins, p.1 ≠ a
  fs : a ∉ X.fs
theorem own_of (I : Inv X pins σ H s) {a : Addr} (h : s.heap.objs.size ≤ a) : Own X pins a :=
  ⟨Nat.ne_of_gt (Nat.lt_of_lt_of_le I.lt h), Nat.le_trans I.sz h, fun x c e z => by
    obtain ⟨v, o, ho, _⟩ := I.cell x c e
    exact absurd (Nat.lt_of_lt_of_le (Heap.lt_size ho) h) (by rw [z]; exact Nat.lt_irrefl _),
   fun p hp z => absurd (Nat.lt_of_lt_of_le (Heap.lt_size (I.pin p hp).1) h) (by rw [z]; exact Nat.lt_irrefl _), I.nofs h⟩
/-- what is pinned and one's own is tracked from now on, another one is forgotten -/
theorem track {h' : Heap} {t' : Nat} {a b : Addr} {xs : List V} (I : Inv X pins σ H s) (oa : Own X pins a) (ob : Own X pins b) (na : H a = none) (nb : H b = none)
    (k : ∀ c o, c ≠ a → c ≠ b → s.heap.get? c = some o → h'.get? c = some o) (ha : ObjOk X.prog X.w (upd H a (.lst xs)) h' a (.lst xs)) :
    Inv X pins σ (upd H a (.lst xs)) { s with heap := h', toks := t' } := by
  have nt : ∀ {c : Addr} {u : HO}, H c = some u → c ≠ a ∧ c ≠ b := fun {c u} e => ⟨ne_of_none e na, ne_of_none e nb⟩
  have up : ∀ {c : Addr} {u : HO}, H c = some u → upd H a (.lst xs) c = some u := fun {c u} e => by rw [upd_ne (nt e).1]; exact e
  have nin : ∀ {c : Addr}, c ∉ [a, b] → c ≠ a ∧ c ≠ b := fun {c} h => ⟨fun z => h (by simp [z]), fun z => h (by simp [z])⟩
  refine I.step (g' := s.gens) (d' := s.drawn) (ch := [a, b]) (fun c hc => ?_) (fun c o _ _ hc e _ => k c o (nin hc).1 (nin hc).2 e) (fun c o _ _ hc e _ => ⟨o.slots, k c o (nin hc).1 (nin hc).2 e⟩)
    (fun c o hc _ n => by rw [upd_ne (nin hc).1]; exact n) (fun c o hc e => ⟨o, k c o (nin hc).1 (nin hc).2 e⟩) (fun c xs q => up q) (fun c o u q => up q) (fun c ps q => ⟨#[], by rw [up q]; simp⟩) (fun m hm => ?_) (fun c u q => ?_) I.bare
  · rcases List.mem_cons.mp hc with z | z
    · subst z; exact ⟨.inr oa.old, oa.loc, oa.cel, oa.pin⟩
    · cases List.mem_singleton.mp z
      exact ⟨.inr ob.old, ob.loc, ob.cel, ob.pin⟩
  · obtain ⟨o, es, ep, e, r⟩ := hm
    exact ⟨o, es, ep, k _ _ (Ne.symm oa.loc) (Ne.symm ob.loc) e, r⟩
  · by_cases z : c = a
    · subst z
      rw [upd_same] at q
      cases q
      exact ha
    · rw [upd_ne z] at q
      exact (I.hok c u q).stay (fun d v hd y => by
          have hn : d ≠ a ∧ d ≠ b := by
            rcases hd with hd | hd
            · subst hd
              exact nt q
            · exact nt hd
          exact k d v hn.1 hn.2 y) (fun d hd => up hd) fun d ys hd => up hd

variable {Q : VK} {l q : Addr} {xs : List V} {kd : V → PyData}
theorem sorted_key_run (I : Inv X pins σ H s) (hS : SqL X.K H l xs) (hal : AllAlike (xs.map kd)) (hsk : Sortable (xs.map kd)) (hdp : ∀ x ∈ xs, (kd x).depth ≤ 50) (hu : X.A.units + 100 < cLine)
    (hcall : ∀ (pins' : List (Addr × Obj)) (H1 : Hp) (s1 : Shared) (x : V) (u : Value), Inv X pins' σ H1 s1 → Same H H1 → x ∈ xs → RelV x u →
      wpAny (model X.prog X.w) X.A.in1.in1 (call (.ref q) [u]) (EP X pins' σ fun v H2 => Same H1 H2 ∧ Dp X.K H2 v (kd x)) (fun _ _ => False) s1)
    (hfin : ∀ H2 p, Same H H2 → H2 p = none → Q (.ref p) (upd H2 p (.lst (xs.mergeSort (dataLe false kd))))) :
    wpAny (model X.prog X.w) X.A (call (.builtin "sorted") [.ref l] [(Str.ofString "key", .ref q)]) (EP X pins σ Q) X.xe s := by
  obtain ⟨its, rv, pl, hz⟩ := I.list hS
  have hlen : its.length = xs.length := (Vals.length rv).symm
  have hIL : s.heap.IsList l its.toArray := by
    obtain ⟨o, n, ho, hc, _, hd⟩ := pl
    exact ⟨o, ho, hc, n, hd⟩
  refine sorted_of_sort hIL (by rw [hlen]; exact hz) (ksk_s1 _ _) (fun x => ksk_l1 _ _) fun E' => ?_
  rw [ksk_t1]
  -- the copy at D
  have oD : Own X pins (s.heap.objs.size + 1) := own_of I (Nat.le_succ s.heap.objs.size)
  generalize hDe : s.heap.objs.size + 1 = D at oD ⊢
  have hoD : (copyHeap s.heap its).get? D = some (seqObj "list" its.toArray 0) := by rw [← hDe]; exact copyHeap_at s.heap its
  have ltD : D < (copyHeap s.heap its).objs.size := Heap.lt_size hoD
  obtain ⟨e1, ho1⟩ : ∃ e1, ((copyHeap s.heap its).update D (Obj.mapSeq fun _ => (#[] : Array Value))).get? D = some (seqObj "list" #[] e1) := ⟨_, get?_update_seq hoD fun _ => #[]⟩
  unfold ksk_tree
  refine wpAny_bind (listItems_at hoD rfl ?_)
  refine wpAny_bind (listUpdate_at hoD rfl ?_ (by rw [List.size_toArray, hlen]; exact hz) (Nat.zero_le _))
  refine wpAny_bind (seqEpoch_at ho1 rfl ?_)
  refine wpAny_bind (wpAny_newTuple ?_ (by show its.length ≤ _; rw [hlen]; exact hz))
  refine wpAny_bind (wpAny_newList ?_ (Nat.zero_le _))
  refine wpAny_holding ?_
  have nD : ∀ {b : Addr} {o : Obj}, s.heap.get? b = some o → b ≠ D := fun {b o} e => by rw [← hDe]; exact Nat.ne_of_lt (Nat.lt_succ_of_lt (Heap.lt_size e))
  have kp : ∀ b o, s.heap.get? b = some o → (sortingHeap (copyHeap s.heap its) D its).get? b = some o := fun b o e => sortingHeap_old (nD e) (copyHeap_old e)
  have I2 : Inv X pins σ H { s with heap := sortingHeap (copyHeap s.heap its) D its } := I.kept kp
  -- the keys' list at S
  have hSe : ((((copyHeap s.heap its).update D (Obj.mapSeq fun _ => (#[] : Array Value))).push (seqObj "tuple" its.toArray 0)).objs.size) = (copyHeap s.heap its).objs.size + 1 := by rw [size_push', Heap.size_update]
  have szc : s.heap.objs.size ≤ (copyHeap s.heap its).objs.size := by omega
  have oS : Own X pins ((copyHeap s.heap its).objs.size + 1) := own_of I (Nat.le_succ_of_le szc)
  have nS0 : H ((copyHeap s.heap its).objs.size + 1) = none := I.hok.fresh (Nat.le_succ_of_le szc)
  have hSD : (copyHeap s.heap its).objs.size + 1 ≠ D := by omega
  have gD : (sortingHeap (copyHeap s.heap its) D its).get? D = some (seqObj "list" #[] e1) := Heap.get?_push_of_some _ (Heap.get?_push_of_some _ ho1)
  have gS : (sortingHeap (copyHeap s.heap its) D its).get? ((copyHeap s.heap its).objs.size + 1) = some (seqObj "list" #[] 0) := by
    unfold sortingHeap
    rw [← hSe]
    exact Heap.get?_push_size _ rfl
  show wpAny _ _ (ksk_rest D (.ref q) false its.toArray e1 (.ref ((((copyHeap s.heap its).update D (Obj.mapSeq fun _ => (#[] : Array Value))).push (seqObj "tuple" its.toArray 0)).objs.size))) _ _ { s with heap := sortingHeap (copyHeap s.heap its) D its }
  rw [hSe]
  generalize (copyHeap s.heap its).objs.size + 1 = S at oS hSD gS nS0 ⊢
  generalize sortingHeap (copyHeap s.heap its) D its = hp2 at I2 gD gS ⊢
  have nH : ∀ {a : Addr}, s.heap.objs.size ≤ a → H a = none := fun h => I.hok.fresh h
  have mkp : ∀ {H1 : Hp} {s1 : Shared} {kA : Array Value} {e : Nat}, Inv X pins σ H1 s1 → s1.heap.get? D = some (seqObj "list" #[] e1) → s1.heap.get? S = some (seqObj "list" kA e) → H1 D = none → H1 S = none →
      Inv X ((D, seqObj "list" #[] e1) :: (S, seqObj "list" kA e) :: pins) σ H1 s1 := fun {H1 s1 kA e} J g1 g2 n1 n2 => by
    refine J.pins_of fun p hp => ?_
    rcases List.mem_cons.mp hp with z | hp
    · subst z
      exact ⟨g1, n1, oD.loc, oD.fs, fun v z => nomatch z⟩
    · rcases List.mem_cons.mp hp with z | hp
      · subst z
        exact ⟨g2, n2, oS.loc, oS.fs, fun v z => nomatch z⟩
      · exact J.pin p (List.mem_append_right _ hp)
  have nD0 : H D = none := nH (by omega)
  unfold ksk_rest
  refine wpAny_bind (wpAny_rule ?_)
  first
    | rw [List.forIn_toArray]
    | (rw [← Array.forIn_toList]; simp only [List.toList_toArray])
    | rw [← Array.forIn_toList]
  refine wpAny_bind (ksk_fold (fun i s' => ∃ H' kA e ks, Same H H' ∧ Inv X ((D, seqObj "list" #[] e1) :: (S, seqObj "list" kA e) :: pins) σ H' s' ∧ Vals ks kA.toList ∧ DpAll X.K H' ks ((xs.take i).map kd)) its 0 { s with heap := hp2 }
    ⟨H, #[], 0, [], Same.refl H, ?_, .nil, ?_⟩ ?step ?done)
  · exact mkp I2 gD gS nD0 nS0
  · rw [List.take_zero]
    exact .nil
  case step =>
    rintro j u s' hj ⟨H', kA, e, ks, sm, J, rk, dk⟩
    simp only [Nat.zero_add] at dk ⊢
    obtain ⟨x, hx, rx⟩ : ∃ x, xs[j]? = some x ∧ RelV x u := by
      have hjl : j < xs.length := by rw [← hlen]; exact (List.getElem?_eq_some_iff.mp hj).1
      obtain ⟨u', hu', rx⟩ := rv.get (List.getElem?_eq_getElem hjl)
      rw [hj] at hu'
      cases hu'
      exact ⟨_, List.getElem?_eq_getElem hjl, rx⟩
    have hjl : j < xs.length := (List.getElem?_eq_some_iff.mp hx).1
    refine wpAny_bind (wpAny_attempt (wpAny_mono (hcall _ H' s' x u J sm (List.mem_of_getElem? hx) rx) (fun v s'' he => ?_) fun _ _ hF => hF.elim))
    obtain ⟨v', H2, J2, rv', sm2, dv⟩ := he
    dsimp only
    have pD := J2.pin (D, seqObj "list" #[] e1) (List.mem_append_right _ List.mem_cons_self)
    have pS := J2.pin (S, seqObj "list" kA e) (List.mem_append_right _ (List.mem_cons_of_mem _ List.mem_cons_self))
    have J3 : Inv X pins σ H2 s'' := J2.pins_of fun p hp => J2.pin p (List.mem_append_right _ (List.mem_cons_of_mem _ (List.mem_cons_of_mem _ hp)))
    obtain ⟨c2, hc2⟩ : ∃ c2, (s''.heap.update S (Obj.mapSeq (·.push v))).get? S = some (seqObj "list" (kA.push v) c2) := ⟨_, get?_update_seq pS.1 (·.push v)⟩
    have sb := Heap.SameBut.update s''.heap S (Obj.mapSeq (·.push v))
    have lk : kA.size = j := by
      have h1 := Vals.length rk
      have h2 : ks.length = ((xs.take j).map kd).length := dpLen dk
      rw [List.length_map, List.length_take, Nat.min_eq_left (Nat.le_of_lt hjl)] at h2
      have h3 : kA.toList.length = kA.size := Array.length_toList
      rw [← h1, h2] at h3
      exact h3.symm
    refine wpAny_bind (listUpdate_at pS.1 rfl ?_ (by rw [lk]; omega) (by rw [Array.size_push, lk]; omega))
    have J4 : Inv X pins σ H2 { s'' with heap := s''.heap.update S (Obj.mapSeq (·.push v)), toks := s''.toks } :=
      J3.turned (it := S) (fun b o hb eo => (sb.2 b hb).trans eo) pS.2.1 oS.loc (.inr oS.old) oS.cel oS.pin
    refine wpAny_pure ⟨rfl, H2, kA.push v, c2, ks ++ [v'], sm.trans sm2, mkp J4 ((sb.2 D (Ne.symm hSD)).trans pD.1) hc2 pD.2.1 pS.2.1, ?_, ?_⟩
    · rw [Array.toList_push]
      exact rk.append (.cons rv' .nil)
    · rw [List.take_add_one, hx, List.map_append]
      exact dpApp (DpAll.same sm2 _ _ dk) (.cons dv .nil)
  case done =>
    rintro s' ⟨H', kA, e, ks, sm, J, rk, dk⟩
    have dk' : DpAll X.K H' ks (xs.map kd) := by
      rw [Nat.zero_add, hlen, List.take_length] at dk
      exact dk
    have pD := J.pin (D, seqObj "list" #[] e1) (List.mem_append_right _ List.mem_cons_self)
    have pS := J.pin (S, seqObj "list" kA e) (List.mem_append_right _ (List.mem_cons_of_mem _ List.mem_cons_self))
    have J3 : Inv X pins σ H' s' := J.pins_of fun p hp => J.pin p (List.mem_append_right _ (List.mem_cons_of_mem _ (List.mem_cons_of_mem _ hp)))
    have rd : EachIs (fun v k => ∃ as, Reads s'.heap v k as) kA.toList (xs.map kd) := eachReads J3 rk dk'
    have hsz : kA.size = its.length := by
      have h1 := rd.length
      rw [Array.length_toList, List.length_map] at h1
      omega
    obtain ⟨G, g1, g2⟩ := L2.restrict s'.heap fun b => decide (b ≠ S)
    have gk : ∀ b, b ≠ S → G.get? b = s'.heap.get? b := fun b hb => g1 b (decide_eq_true hb)
    have kpG : KeepsBut D G s'.heap := fun b o hb eo => by
      by_cases z : b = S
      · rw [z, g2 S (by simp)] at eo
        cases eo
      · rw [← gk b z]
        exact eo
    (try dsimp only)
    refine wpAny_bind (listItems_at pS.1 rfl ?_)
    refine keyH_end (κ := dataKind s'.heap (xs.map kd)) (h₁ := G) kpG (g2 S (by simp)) pS.1 pD.1 hSD (SortsAt.data (s := s') rd hal hsk (fun d hd => ?_)) hsz (by rw [hlen]; exact hz) fun h' tk c kpD hD => ⟨rfl, ?_⟩
    · obtain ⟨x, hx, rfl⟩ := List.mem_map.mp hd
      have := hdp x hx
      show X.A.units + 1 + 1 + (kd x).depth < cLine
      omega
    · have ko : KeyedOut false (xs.map kd) its (sortVals (dataKind s'.heap (xs.map kd)) false kA.toList its) := ⟨s'.heap, kA.toList, hal, rfl, rd⟩
      have eo := keyedOut_each (R := fun v x => RelV x v) kd ko (eachVals rv)
      have ov : Vals (xs.mergeSort (dataLe false kd)) (sortVals (dataKind s'.heap (xs.map kd)) false kA.toList its) := valsEach eo
      refine ⟨.ref D, upd H' D (.lst (xs.mergeSort (dataLe false kd))), ?_, rfl, hfin H' D sm pD.2.1⟩
      refine track J3 oD oS pD.2.1 pS.2.1 (fun b o h1 h2 eb => kpD b o h1 ((gk b h2).trans eb)) ⟨?_, _, c, ov, hD⟩
      rw [List.length_mergeSort]
      exact hz
/-- sorted(xs, key=x.m): the bound method at q, its def g keeps sp -/
def rSortMet (K : PySem.W.Frag) (g : Addr) (sp : Sp) : List V → List V → Hp → VK → Prop := fun vs zs H Q => ∃ (l q a : Addr) (xs : List V) (kd : V → PyData), vs = [.ref l] ∧ zs = [.ref q] ∧ SqL K H l xs ∧ H q = some (.met g a) ∧
  AllAlike (xs.map kd) ∧ Sortable (xs.map kd) ∧ (∀ x ∈ xs, (kd x).depth ≤ 50) ∧ (∀ H1 x, Same H H1 → x ∈ xs → sp [.ref a, x] H1 (fun v H2 => Same H1 H2 ∧ Dp K H2 v (kd x)) E0) ∧
  ∀ H2 p, Same H H2 → H2 p = none → Q (.ref p) (upd H2 p (.lst (xs.mergeSort (dataLe false kd))))
theorem cr_sortMet {CX : CXT} {k : Nat} {g : Addr} {fd : FuncData} {ps : List Str} {sp : Sp} (F : FnOk X.prog X.w X.K X.mg X.base CX k g fd ps sp) (hr : Room (k + 2) X.A) (hb : Binds X.K fd ps [])
    (hx : ∀ (H : Hp) (s : Shared) (e : Value) (s' : Shared), CX X.stack H s E0 e s' → False) : CallRK X (.builtin "sorted") [Str.ofString "key"] (rSortMet X.K g sp) := by
  intro pins s σ H xs0 zs us ws Q I r1 r2 h
  obtain ⟨l, q, a, xs, kd, rfl, rfl, hS, hq, hal, hsk, hdp, hkey, hfin⟩ := h
  obtain ⟨u1, rfl, e1⟩ := vals1 r1
  obtain ⟨u2, rfl, e2⟩ := vals1 r2
  cases (show u1 = Value.ref l from e1)
  cases (show u2 = Value.ref q from e2)
  refine sorted_key_run I hS hal hsk hdp (by have := hr.un; omega) (fun pins' H1 s1 x u J sm hm rx => ?_) hfin
  have hsp := hkey H1 x sm hm
  have r3 : Vals [V.ref a, x] [Value.ref a, u] := .cons rfl (.cons rx .nil)
  have hl : ([Value.ref a, u] ++ []).length = ps.length := by
    rw [← F.len _ _ _ _ hsp]
    rfl
  refine wpAny_call (call_met J (sm _ _ hq) (codeAny_mono (F.run X.A.in1.in1 X.stack s1 H1 ⟨[.ref a, u], []⟩ _ _ _ E0 (hr.in1).in1 J.env0.in1.in1 (hb s1 [.ref a, u] J.kIn hl) r3 hsp) fun r s' hq' => ?_))
  cases r with
  | error e => exact (hx H1 s1 e s' hq').elim
  | ok fl =>
    cases fl with
    | ret v => exact J.after hq'
    | next => exact False.elim hq'
    | brk => exact False.elim hq'
    | cont => exact False.elim hq'
/-- x.m as a value -/
def tMet (C g : Addr) (m : Str) (ta : TE) : TE := fun σ H Q => ta σ H fun x H1 => ∃ a dx fs, x = .ref a ∧ H1 a = some (.ins C dx fs) ∧ fs.lookup m = none ∧ ∀ q, H1 q = none → Q (.ref q) (upd H1 q (.met g a))
theorem pe_met {C g : Addr} {m : Str} {e : Expr} {pos : Pos} {ta : TE} (he : PE X e ta) (c : Cls X.K C) (k : BMeth X.K C m g) (hab : attributeBase e m X.env (eval e X.env) = eval e X.env := by rfl) : PE X (.Attribute e m pos) (tMet C g m ta) := by
  refine ⟨fun pins s σ H Q I h => ?_⟩
  refine attr_of hab (thn (he.run pins s σ H _ I h) fun u s1 ⟨x, H1, I1, rx, a, dx, fs, ex, ea, hl, q⟩ => ?_)
  subst ex
  exact op_getbound I1 ea c k hl rx q
end
end Wn
/-! systems: what stands in the heap, and its plain picture -/
namespace Wn
open PySem PySem.Spec PyProof.Rows L2 LamX He

/-! ### lists of pairs with whole numbers as keys -/
section
variable {α β : Type}
def lk : List (Int × α) → Int → Option α
  | [], _ => none
  | r :: l, n => if r.1 = n then some r.2 else lk l n
def pt : List (Int × α) → Int → α → List (Int × α)
  | [], n, x => [(n, x)]
  | r :: l, n, x => if r.1 = n then (n, x) :: l else r :: pt l n x
def dr (l : List (Int × α)) (n : Int) : List (Int × α) := l.filter fun r => decide (r.1 ≠ n)
def kv (g : α → V) (l : List (Int × α)) : List (Key × V) := l.map fun r => (Sum.inl r.1, g r.2)
theorem kv_len (g : α → V) (l : List (Int × α)) : (kv g l).length = l.length := List.length_map ..
theorem lk_nil {n : Int} : lk ([] : List (Int × α)) n = none := rfl
theorem lk_pos {r : Int × α} {l : List (Int × α)} {n : Int} (e : r.1 = n) : lk (r :: l) n = some r.2 := if_pos e
theorem lk_neg {r : Int × α} {l : List (Int × α)} {n : Int} (e : ¬ r.1 = n) : lk (r :: l) n = lk l n := if_neg e
theorem val_kv (g : α → V) (n : Int) : ∀ l : List (Int × α), valV (kv g l) (Sum.inl n : Key) = (lk l n).map g
  | [] => rfl
  | r :: l => by
    show valV (((Sum.inl r.1 : Key), g r.2) :: kv g l) (Sum.inl n) = _
    by_cases e : r.1 = n
    · rw [valV_pos (show (Sum.inl r.1 : Key) = Sum.inl n by rw [e]), lk_pos e]
      rfl
    · rw [valV_neg (fun z => e (Sum.inl.inj z)), lk_neg e, val_kv g n l]
theorem lk_mem {n : Int} {x : α} : ∀ {l : List (Int × α)}, lk l n = some x → (n, x) ∈ l
  | [], h => nomatch h
  | r :: l, h => by
    by_cases e : r.1 = n
    · rw [lk_pos e] at h
      cases h
      subst e
      exact List.mem_cons_self
    · rw [lk_neg e] at h
      exact List.mem_cons_of_mem _ (lk_mem h)
theorem lk_none {n : Int} : ∀ {l : List (Int × α)}, lk l n = none ↔ n ∉ l.map (·.1)
  | [] => ⟨fun _ => List.not_mem_nil, fun _ => rfl⟩
  | r :: l => by
    by_cases e : r.1 = n
    · rw [lk_pos e]
      exact ⟨fun z => (nomatch z), fun z => (z (by simp [e])).elim⟩
    · rw [lk_neg e, lk_none]
      simp only [List.map_cons, List.mem_cons, not_or]
      exact ⟨fun z => ⟨fun q => e q.symm, z⟩, fun z => z.2⟩
theorem lk_some_of {n : Int} {l : List (Int × α)} (h : n ∈ l.map (·.1)) : ∃ x, lk l n = some x := by
  cases e : lk l n with
  | none => exact absurd h (lk_none.mp e)
  | some x => exact ⟨x, rfl⟩
theorem lk_of_mem {n : Int} {x : α} : ∀ {l : List (Int × α)}, (l.map (·.1)).Nodup → (n, x) ∈ l → lk l n = some x
  | [], _, h => nomatch h
  | r :: l, nd, h => by
    obtain ⟨h1, h2⟩ := List.nodup_cons.mp (show (r.1 :: l.map (·.1)).Nodup from nd)
    rcases List.mem_cons.mp h with z | z
    · subst z
      exact lk_pos rfl
    · rw [lk_neg fun e => h1 (e ▸ List.mem_map.mpr ⟨_, z, rfl⟩)]
      exact lk_of_mem h2 z
theorem pt_new {n : Int} {x : α} : ∀ {l : List (Int × α)}, lk l n = none → pt l n x = l ++ [(n, x)]
  | [], _ => rfl
  | r :: l, h => by
    by_cases e : r.1 = n
    · rw [lk_pos e] at h
      cases h
    · rw [lk_neg e] at h
      show (if r.1 = n then _ else r :: pt l n x) = _
      rw [if_neg e, pt_new h]
      rfl
theorem put_kv (g : α → V) (n : Int) (x : α) {l : List (Int × α)} (h : lk l n = none) : putK (kv g l) (Sum.inl n : Key) (g x) = kv g (l ++ [(n, x)]) := by
  rw [putK_new _ (by rw [val_kv, h]; rfl)]
  unfold kv
  rw [List.map_append]
  rfl
theorem drop_kv (g : α → V) (n : Int) (l : List (Int × α)) : dropK (kv g l) (Sum.inl n : Key) = kv g (dr l n) := by
  unfold dropK kv dr
  rw [List.filter_map]
  congr 1
  refine List.filter_congr fun r _ => ?_
  refine decide_eq_decide.mpr ?_
  exact ⟨fun h z => h (congrArg Sum.inl z), fun h z => h (Sum.inl.inj z)⟩
theorem lk_app {n : Int} {l m : List (Int × α)} : lk (l ++ m) n = (lk l n).or (lk m n) := by
  induction l with
  | nil => rfl
  | cons r l ih =>
    show lk (r :: (l ++ m)) n = _
    by_cases e : r.1 = n
    · rw [lk_pos e, lk_pos e]
      rfl
    · rw [lk_neg e, lk_neg e, ih]
theorem lk_dr {n k : Int} (l : List (Int × α)) : lk (dr l n) k = if k = n then none else lk l k := by
  induction l with
  | nil =>
    unfold dr
    split <;> rfl
  | cons r l ih =>
    unfold dr at ih ⊢
    rw [List.filter_cons]
    by_cases e : r.1 = n
    · rw [if_neg (by simp [e]), ih]
      by_cases q : k = n
      · rw [if_pos q, if_pos q]
      · rw [if_neg q, if_neg q, lk_neg (fun z => q (z.symm.trans e))]
    · rw [if_pos (by simp [e])]
      by_cases q : r.1 = k
      · rw [lk_pos q, if_neg (fun z => e (q.trans z)), lk_pos q]
      · rw [lk_neg q, ih, lk_neg q]
end

/-! ### what stands in the heap -/
structure En where
  ad : Addr
  dx : Addr
  num : Int
  ser : Int
  lab : Int
  wrd : Str
  arm : Bool
inductive Tg where
  | src (dx : Addr) (u : Int) (f : Bool)
  | set (dx L R : Addr) (es : List En) (row : List Int)
structure Th where
  ad : Addr
  tg : Tg
structure Tb where
  ad : Addr
  rows : List (Int × Int)
structure Sy where
  p : Addr
  dx : Addr
  T : Addr
  G : Addr
  P : Int
  N : Int
  made : Int
  tabs : List (Int × Tb)
  ths : List (Int × Th)
def sysF (P N : Int) (T G : Addr) (m : Int) : List (Str × V) := [("process_limit", .int P), ("number_limit", .int N), ("tables", .ref T), ("things", .ref G), ("serials_made", .int m)]
def srcF (u : Int) (f : Bool) : List (Str × V) := [("unread", .int u), ("finished", .bl f)]
def setF (L R : Addr) : List (Str × V) := [("entries", .ref L), ("row", .ref R)]
def entF (e : En) : List (Str × V) := [("number", .int e.num), ("serial", .int e.ser), ("label", .int e.lab), ("word", .str e.wrd), ("armed", .bl e.arm)]
def tbV (t : Tb) : V := .ref t.ad
def thV (t : Th) : V := .ref t.ad
def TgAt (K : PySem.W.Frag) (H : Hp) (a : Addr) : Tg → Prop
  | .src dx u f => H a = some (.ins (ga K "Source") dx (srcF u f))
  | .set dx L R es row => H a = some (.ins (ga K "WaitSet") dx (setF L R)) ∧ H L = some (.lst (es.map fun e => .ref e.ad)) ∧ H R = some (.lst (row.map V.int)) ∧ ∀ e ∈ es, H e.ad = some (.ins (ga K "Entry") e.dx (entF e))
/-- the lists and the registrations of a thing -/
def Tg.lsts : Tg → List Addr
  | .src _ _ _ => []
  | .set _ L R _ _ => [L, R]
def Tg.ents : Tg → List Addr
  | .src _ _ _ => []
  | .set _ _ _ es _ => es.map (·.ad)
def Sy.dcs (s : Sy) : List Addr := s.T :: s.G :: s.tabs.map (·.2.ad)
def Sy.ths' (s : Sy) : List Addr := s.ths.map (·.2.ad)
def Sy.lsts (s : Sy) : List Addr := s.ths.flatMap (·.2.tg.lsts)
def Sy.ents (s : Sy) : List Addr := s.ths.flatMap (·.2.tg.ents)
/-- all that a system owns -/
def Sy.foot (s : Sy) : List Addr := s.p :: (s.dcs ++ (s.ths' ++ (s.lsts ++ s.ents)))
structure SyAt (K : PySem.W.Frag) (H : Hp) (s : Sy) : Prop where
  ob : H s.p = some (.ins (ga K "System") s.dx (sysF s.P s.N s.T s.G s.made))
  tb : H s.T = some (.dK (kv tbV s.tabs))
  tt : ∀ t ∈ s.tabs, H t.2.ad = some (.dK (kv V.int t.2.rows))
  gb : H s.G = some (.dK (kv thV s.ths))
  gt : ∀ t ∈ s.ths, TgAt K H t.2.ad t.2.tg
  nd : s.dcs.Nodup
  nt : s.ths'.Nodup
  nl : s.lsts.Nodup
  ne : s.ents.Nodup
/-! ### the plain picture -/
structure Ev where
  num : Int
  ser : Int
  lab : Int
  wrd : Str
  arm : Bool
  deriving DecidableEq
inductive Tv where
  | src (u : Int) (f : Bool)
  | set (es : List Ev) (row : List Int)
  deriving DecidableEq
structure Sv where
  P : Int
  N : Int
  made : Int
  tabs : List (Int × List (Int × Int))
  ths : List (Int × Tv)
def En.v (e : En) : Ev := ⟨e.num, e.ser, e.lab, e.wrd, e.arm⟩
def Tg.v : Tg → Tv
  | .src _ u f => .src u f
  | .set _ _ _ es row => .set (es.map En.v) row
def Sy.v (s : Sy) : Sv := ⟨s.P, s.N, s.made, s.tabs.map fun t => (t.1, t.2.rows), s.ths.map fun t => (t.1, t.2.tg.v)⟩
/-- behind a call: what is not the system's stands, what is the system's was or is new -/
structure Fr' (s s' : Sy) (H H' : Hp) : Prop where
  keep : ∀ b o, H b = some o → b ∉ s.foot → H' b = some o
  foot : ∀ b ∈ s'.foot, b ∈ s.foot ∨ H b = none
  same : s'.p = s.p
theorem Fr'.refl (s : Sy) (H : Hp) : Fr' s s H H := ⟨fun _ _ e _ => e, fun _ h => .inl h, rfl⟩
theorem Fr'.more {s s' : Sy} {H H' H'' : Hp} (f : Fr' s s' H H') (e : Same H' H'') : Fr' s s' H H'' := ⟨fun b o h n => e _ _ (f.keep b o h n), f.foot, f.same⟩
theorem Fr'.out {s s' : Sy} {H H' : Hp} (f : Fr' s s' H H') {b : Addr} {o : HO} (h : H b = some o) (n : b ∉ s.foot) : b ∉ s'.foot := fun m => by
  rcases f.foot b m with z | z
  · exact n z
  · rw [h] at z
    cases z
theorem Fr'.trans {s s1 s2 : Sy} {H H1 H2 : Hp} (f : Fr' s s1 H H1) (g : Fr' s1 s2 H1 H2) : Fr' s s2 H H2 := by
  refine ⟨fun b o h n => g.keep b o (f.keep b o h n) (f.out h n), fun b m => ?_, g.same.trans f.same⟩
  rcases g.foot b m with z | z
  · exact f.foot b z
  · by_cases n : b ∈ s.foot
    · exact .inl n
    · cases e : H b with
      | none => exact .inr rfl
      | some o =>
        rw [f.keep b o e n] at z
        cases z
theorem SyAt.same {K : PySem.W.Frag} {H H' : Hp} {s : Sy} (S : SyAt K H s) (e : ∀ b o, H b = some o → b ∈ s.foot → H' b = some o) : SyAt K H' s := by
  have fT : ∀ {b}, b ∈ s.dcs → b ∈ s.foot := fun h => List.mem_cons_of_mem _ (List.mem_append_left _ h)
  have fH : ∀ {b}, b ∈ s.ths' → b ∈ s.foot := fun h => List.mem_cons_of_mem _ (List.mem_append_right _ (List.mem_append_left _ h))
  have fL : ∀ {b}, b ∈ s.lsts → b ∈ s.foot := fun h => List.mem_cons_of_mem _ (List.mem_append_right _ (List.mem_append_right _ (List.mem_append_left _ h)))
  have fE : ∀ {b}, b ∈ s.ents → b ∈ s.foot := fun h => List.mem_cons_of_mem _ (List.mem_append_right _ (List.mem_append_right _ (List.mem_append_right _ h)))
  refine ⟨e _ _ S.ob List.mem_cons_self, e _ _ S.tb (fT List.mem_cons_self), fun t h => e _ _ (S.tt t h) (fT (List.mem_cons_of_mem _ (List.mem_cons_of_mem _ (List.mem_map.mpr ⟨t, h, rfl⟩)))), e _ _ S.gb (fT (List.mem_cons_of_mem _ List.mem_cons_self)),
    fun t h => ?_, S.nd, S.nt, S.nl, S.ne⟩
  have ha : t.2.ad ∈ s.foot := fH (List.mem_map.mpr ⟨t, h, rfl⟩)
  have q := S.gt t h
  cases ht : t.2.tg with
  | src dx u f =>
    rw [ht] at q
    exact e _ _ q ha
  | set dx L R es row =>
    rw [ht] at q
    obtain ⟨q1, q2, q3, q4⟩ := q
    have mL : ∀ b ∈ [L, R], b ∈ s.foot := fun b hb => fL (List.mem_flatMap.mpr ⟨t, h, by rw [ht]; exact hb⟩)
    exact ⟨e _ _ q1 ha, e _ _ q2 (mL L (by simp)), e _ _ q3 (mL R (by simp)), fun x hx => e _ _ (q4 x hx) (fE (List.mem_flatMap.mpr ⟨t, h, by rw [ht]; exact List.mem_map.mpr ⟨x, hx, rfl⟩⟩))⟩
theorem SyAt.ext {K : PySem.W.Frag} {H H' : Hp} {s : Sy} (S : SyAt K H s) (e : Same H H') : SyAt K H' s := S.same fun b o h _ => e b o h
end Wn
/-! plain facts of systems -/
namespace Wn
open PySem PySem.Spec PyProof.Rows L2 LamX He

/-! ### sorted lists of whole numbers -/
def srtI (l : List Int) : List Int := l.mergeSort fun a b => decide (a ≤ b)
theorem perm_eq : ∀ {l m : List Int}, l.Perm m → l.Pairwise (· ≤ ·) → m.Pairwise (· ≤ ·) → l = m
  | [], m, h, _, _ => by
    have := h.length_eq
    cases m with
    | nil => rfl
    | cons a m => cases this
  | a :: l, [], h, _, _ => by
    have := h.length_eq
    cases this
  | a :: l, b :: m, h, h1, h2 => by
    obtain ⟨a1, a2⟩ := List.pairwise_cons.mp h1
    obtain ⟨b1, b2⟩ := List.pairwise_cons.mp h2
    have ab : a = b := by
      have x1 : a ∈ b :: m := h.subset List.mem_cons_self
      have x2 : b ∈ a :: l := h.symm.subset List.mem_cons_self
      rcases List.mem_cons.mp x1 with z | z
      · exact z
      · rcases List.mem_cons.mp x2 with y | y
        · exact y.symm
        · exact Int.le_antisymm (a1 b y) (b1 a z)
    subst ab
    rw [perm_eq (List.Perm.cons_inv h) a2 b2]
theorem srtI_perm (l : List Int) : (srtI l).Perm l := List.mergeSort_perm _ _
theorem srtI_pw (l : List Int) : (srtI l).Pairwise (· ≤ ·) := by
  have h := List.pairwise_mergeSort (le := fun a b : Int => decide (a ≤ b)) (fun a b c h1 h2 => decide_eq_true (Int.le_trans (of_decide_eq_true h1) (of_decide_eq_true h2))) (fun a b => by
    rcases Int.le_total a b with h | h
    · simp [h]
    · simp [h]) l
  exact h.imp fun z => of_decide_eq_true z
theorem srtI_eq {l m : List Int} (h : m.Perm l) (hs : m.Pairwise (· ≤ ·)) : m = srtI l := perm_eq (h.trans (srtI_perm l).symm) hs (srtI_pw l)
theorem srtI_mem {l : List Int} {x : Int} : x ∈ srtI l ↔ x ∈ l := (srtI_perm l).mem_iff
theorem srtI_nodup {l : List Int} (h : l.Nodup) : (srtI l).Nodup := (srtI_perm l).nodup_iff.mpr h
theorem srtI_len (l : List Int) : (srtI l).length = l.length := (srtI_perm l).length_eq
theorem srtI_nil : srtI [] = [] := List.length_eq_zero_iff.mp (srtI_len [])
theorem srtI_range (n : Nat) : srtI ((List.range n).map fun (k : Nat) => (k : Int)) = (List.range n).map fun (k : Nat) => (k : Int) := by
  refine (srtI_eq (List.Perm.refl _) ?_).symm
  refine List.pairwise_map.mpr ?_
  exact List.Pairwise.imp (fun h => Int.ofNat_le.mpr (Nat.le_of_lt h)) (List.pairwise_lt_range)
/-- numbers below n, none twice, are at most n -/
theorem few : ∀ (n : Nat) {l : List Int}, l.Nodup → (∀ x ∈ l, 0 ≤ x ∧ x < (n : Int)) → l.length ≤ n
  | 0, l, _, h => by
    cases l with
    | nil => exact Nat.le_refl _
    | cons a l =>
      have := h a List.mem_cons_self
      omega
  | n + 1, l, nd, h => by
    have h1 := few n (l := l.filter fun x => decide (x ≠ (n : Int))) (nd.filter _) (fun x hx => by
      obtain ⟨h1, h2⟩ := List.mem_filter.mp hx
      have h3 := h x h1
      have h4 : x ≠ (n : Int) := of_decide_eq_true h2
      omega)
    have h2 : l.length ≤ (l.filter fun x => decide (x ≠ (n : Int))).length + 1 := by
      clear h h1
      induction l with
      | nil => exact Nat.zero_le _
      | cons a l ih =>
        obtain ⟨n1, n2⟩ := List.nodup_cons.mp nd
        by_cases e : a = (n : Int)
        · have : l.filter (fun x => decide (x ≠ (n : Int))) = l := List.filter_eq_self.mpr fun x hx => decide_eq_true fun z => n1 (by rw [e, ← z]; exact hx)
          rw [List.filter_cons, if_neg (by simp [e]), this]
          exact Nat.le_refl _
        · rw [List.filter_cons, if_pos (by simp [e])]
          have := ih n2
          simp only [List.length_cons]
          omega
    omega

/-! ### well formed systems -/
def SetOk (v : Sv) (es : List Ev) (row : List Int) : Prop :=
  (es.map (·.lab)).Nodup ∧ (es.map fun e => (e.num, e.ser)).Nodup ∧ row.Nodup ∧ (∀ x ∈ row, ∃ e ∈ es, e.lab = x ∧ e.arm = true) ∧ (∀ e ∈ es, ∃ u f, lk v.ths e.ser = some (.src u f)) ∧ es.length ≤ 1000000
structure WF (v : Sv) : Prop where
  p : 2 ≤ v.P ∧ v.P ≤ 6
  n : 3 ≤ v.N ∧ v.N ≤ 8
  ndp : (v.tabs.map (·.1)).Nodup
  rp : ∀ t ∈ v.tabs, 0 ≤ t.1 ∧ t.1 < v.P
  ndn : ∀ t ∈ v.tabs, (t.2.map (·.1)).Nodup
  rn : ∀ t ∈ v.tabs, ∀ r ∈ t.2, 0 ≤ r.1 ∧ r.1 < v.N
  th : ∀ t ∈ v.tabs, ∀ r ∈ t.2, r.2 ∈ v.ths.map (·.1)
  nds : (v.ths.map (·.1)).Nodup
  rs : ∀ t ∈ v.ths, 0 ≤ t.1 ∧ t.1 < v.made
  held : ∀ t ∈ v.ths, ∃ u ∈ v.tabs, ∃ r ∈ u.2, r.2 = t.1
  ok : ∀ t ∈ v.ths, ∀ es row, t.2 = .set es row → SetOk v es row
theorem WF.tabs6 {v : Sv} (h : WF v) : v.tabs.length ≤ 6 := by
  have h1 := few v.P.toNat (l := v.tabs.map (·.1)) h.ndp (fun x hx => by
    obtain ⟨t, ht, rfl⟩ := List.mem_map.mp hx
    have := h.rp t ht
    omega)
  rw [List.length_map] at h1
  have := h.p
  omega
theorem WF.rows8 {v : Sv} (h : WF v) {t : Int × List (Int × Int)} (ht : t ∈ v.tabs) : t.2.length ≤ 8 := by
  have h1 := few v.N.toNat (l := t.2.map (·.1)) (h.ndn t ht) (fun x hx => by
    obtain ⟨r, hr, rfl⟩ := List.mem_map.mp hx
    have := h.rn t ht r hr
    omega)
  rw [List.length_map] at h1
  have := h.n
  omega
theorem WF.thsM {v : Sv} (h : WF v) : v.ths.length ≤ v.made.toNat := by
  have h1 := few v.made.toNat (l := v.ths.map (·.1)) h.nds (fun x hx => by
    obtain ⟨t, ht, rfl⟩ := List.mem_map.mp hx
    have := h.rs t ht
    omega)
  rw [List.length_map] at h1
  exact h1
theorem WF.new {P N : Int} (h1 : 2 ≤ P ∧ P ≤ 6) (h2 : 3 ≤ N ∧ N ≤ 8) : WF ⟨P, N, 0, [(0, [])], []⟩ where
  p := h1
  n := h2
  ndp := by simp
  rp := fun t ht => by
    cases List.mem_singleton.mp ht
    show (0 : Int) ≤ 0 ∧ (0 : Int) < P
    omega
  ndn := fun t ht => by
    cases List.mem_singleton.mp ht
    exact List.nodup_nil
  rn := fun t ht r hr => by
    cases List.mem_singleton.mp ht
    cases hr
  th := fun t ht r hr => by
    cases List.mem_singleton.mp ht
    cases hr
  nds := List.nodup_nil
  rs := fun t ht => nomatch ht
  held := fun t ht => nomatch ht
  ok := fun t ht => nomatch ht
/-- the picture of the tables and of the things -/
theorem lk_map {α β : Type} (f : α → β) (n : Int) : ∀ l : List (Int × α), lk (l.map fun r => (r.1, f r.2)) n = (lk l n).map f
  | [] => rfl
  | r :: l => by
    show lk ((r.1, f r.2) :: l.map fun r => (r.1, f r.2)) n = _
    by_cases e : r.1 = n
    · rw [lk_pos (r := (r.1, f r.2)) e, lk_pos e]
      rfl
    · rw [lk_neg (r := (r.1, f r.2)) e, lk_neg e, lk_map f n l]
theorem Sy.tabs_v (s : Sy) (n : Int) : lk s.v.tabs n = (lk s.tabs n).map (·.rows) := lk_map (fun t : Tb => t.rows) n s.tabs
theorem Sy.ths_v (s : Sy) (n : Int) : lk s.v.ths n = (lk s.ths n).map (·.tg.v) := lk_map (fun t : Th => t.tg.v) n s.ths
theorem Sy.pids (s : Sy) : s.v.tabs.map (·.1) = s.tabs.map (·.1) := by
  show (s.tabs.map fun t => (t.1, t.2.rows)).map (·.1) = _
  rw [List.map_map]
  rfl
theorem Sy.sers (s : Sy) : s.v.ths.map (·.1) = s.ths.map (·.1) := by
  show (s.ths.map fun t => (t.1, t.2.tg.v)).map (·.1) = _
  rw [List.map_map]
  rfl
/-- the lowest free number -/
def lowFree (used : List Int) (n : Int) : Option Int := ((List.range n.toNat).map fun (k : Nat) => (k : Int)).find? fun k => decide (k ∉ used)
/-- the numbers that mean a thing -/
def holdsIn (ser p : Int) (rows : List (Int × Int)) : List (Int × Int) := ((srtI (rows.map (·.1))).filter fun n => decide (lk rows n = some ser)).map fun n => (p, n)
def holds (tabs : List (Int × List (Int × Int))) (ser : Int) : List (Int × Int) := (srtI (tabs.map (·.1))).flatMap fun p => match lk tabs p with
  | none => []
  | some rows => holdsIn ser p rows
end Wn
namespace Wn
open PySem PySem.Spec PyProof.Rows L2 LamX He
/-! ### things are placed -/
section
variable {α β : Type}
def upAt (l : List (Int × α)) (i : Int) (f : α → α) : List (Int × α) := l.map fun t => if t.1 = i then (t.1, f t.2) else t
theorem upAt_keys (l : List (Int × α)) (i : Int) (f : α → α) : (upAt l i f).map (·.1) = l.map (·.1) := by
  unfold upAt
  rw [List.map_map]
  refine List.map_congr_left fun t _ => ?_
  show (if t.1 = i then (t.1, f t.2) else t).1 = t.1
  split <;> rfl
theorem upAt_mem {l : List (Int × α)} {i : Int} {f : α → α} {t : Int × α} (h : t ∈ upAt l i f) : (t.1 ≠ i ∧ t ∈ l) ∨ ∃ x, (i, x) ∈ l ∧ t = (i, f x) := by
  obtain ⟨u, hu, rfl⟩ := List.mem_map.mp h
  by_cases e : u.1 = i
  · right
    refine ⟨u.2, ?_, ?_⟩
    · rw [← e]; exact hu
    · rw [if_pos e, e]
  · left
    rw [if_neg e]
    exact ⟨e, hu⟩
theorem upAt_lk (l : List (Int × α)) (i n : Int) (f : α → α) : lk (upAt l i f) n = if n = i then (lk l n).map f else lk l n := by
  induction l with
  | nil =>
    show none = _
    split <;> rfl
  | cons r l ih =>
    show lk ((if r.1 = i then (r.1, f r.2) else r) :: upAt l i f) n = _
    by_cases e : r.1 = n
    · by_cases q : r.1 = i
      · rw [if_pos q, lk_pos (r := (r.1, f r.2)) e, lk_pos e, if_pos (e ▸ q)]
        rfl
      · rw [if_neg q, lk_pos e, lk_pos e, if_neg (fun z => q (e.trans z))]
    · rw [lk_neg (r := if r.1 = i then (r.1, f r.2) else r) (by split <;> exact e), ih, lk_neg e]
theorem upAt_map (g : α → β) (f : α → α) (f' : β → β) (h : ∀ x, g (f x) = f' (g x)) (l : List (Int × α)) (i : Int) : (upAt l i f).map (fun t => (t.1, g t.2)) = upAt (l.map fun t => (t.1, g t.2)) i f' := by
  unfold upAt
  rw [List.map_map, List.map_map]
  refine List.map_congr_left fun t _ => ?_
  show ((if t.1 = i then (t.1, f t.2) else t).1, g (if t.1 = i then (t.1, f t.2) else t).2) = if t.1 = i then (t.1, f' (g t.2)) else (t.1, g t.2)
  split
  · rw [h]
  · rfl
theorem upAt_kv (g : α → V) (f : α → α) (h : ∀ x, g (f x) = g x) (l : List (Int × α)) (i : Int) : kv g (upAt l i f) = kv g l := by
  unfold upAt kv
  rw [List.map_map]
  refine List.map_congr_left fun t _ => ?_
  show (Sum.inl (if t.1 = i then (t.1, f t.2) else t).1, g (if t.1 = i then (t.1, f t.2) else t).2) = ((Sum.inl t.1 : Key), g t.2)
  split
  · rw [h]
  · rfl
end
/-- the rows of one table are changed -/
def Tb.fn (f : List (Int × Int) → List (Int × Int)) (t : Tb) : Tb := ⟨t.ad, f t.rows⟩
theorem Sy.in_dcs {s : Sy} {b : Addr} (h : b ∈ s.dcs) : b ∈ s.foot := List.mem_cons_of_mem _ (List.mem_append_left _ h)
theorem Sy.in_ths {s : Sy} {b : Addr} (h : b ∈ s.ths') : b ∈ s.foot := List.mem_cons_of_mem _ (List.mem_append_right _ (List.mem_append_left _ h))
theorem Sy.in_lsts {s : Sy} {b : Addr} (h : b ∈ s.lsts) : b ∈ s.foot := List.mem_cons_of_mem _ (List.mem_append_right _ (List.mem_append_right _ (List.mem_append_left _ h)))
theorem Sy.in_ents {s : Sy} {b : Addr} (h : b ∈ s.ents) : b ∈ s.foot := List.mem_cons_of_mem _ (List.mem_append_right _ (List.mem_append_right _ (List.mem_append_right _ h)))
theorem Sy.foot_cases {s : Sy} {b : Addr} (h : b ∈ s.foot) : b = s.p ∨ b ∈ s.dcs ∨ b ∈ s.ths' ∨ b ∈ s.lsts ∨ b ∈ s.ents := by
  rcases List.mem_cons.mp h with h | h
  · exact .inl h
  · rcases List.mem_append.mp h with h | h
    · exact .inr (.inl h)
    · rcases List.mem_append.mp h with h | h
      · exact .inr (.inr (.inl h))
      · rcases List.mem_append.mp h with h | h
        · exact .inr (.inr (.inr (.inl h)))
        · exact .inr (.inr (.inr (.inr h)))
section
variable {K : PySem.W.Frag} {H : Hp} {s : Sy}
theorem SyAt.dc (S : SyAt K H s) {b : Addr} (h : b ∈ s.dcs) : ∃ kvs, H b = some (.dK kvs) := by
  rcases List.mem_cons.mp h with z | z
  · exact ⟨_, z ▸ S.tb⟩
  · rcases List.mem_cons.mp z with z | z
    · exact ⟨_, z ▸ S.gb⟩
    · obtain ⟨t, ht, rfl⟩ := List.mem_map.mp z
      exact ⟨_, S.tt t ht⟩
theorem SyAt.th' (S : SyAt K H s) {b : Addr} (h : b ∈ s.ths') : ∃ C dx fs, fs.lookup ("tables" : Str) = none ∧ fs.lookup ("label" : Str) = none ∧ H b = some (.ins C dx fs) := by
  obtain ⟨t, ht, rfl⟩ := List.mem_map.mp h
  have q := S.gt t ht
  cases e : t.2.tg with
  | src dx u f =>
    rw [e] at q
    exact ⟨_, _, _, rfl, rfl, q⟩
  | set dx L R es row =>
    rw [e] at q
    exact ⟨_, _, _, rfl, rfl, q.1⟩
theorem SyAt.ls (S : SyAt K H s) {b : Addr} (h : b ∈ s.lsts) : ∃ xs, H b = some (.lst xs) := by
  obtain ⟨t, ht, hb⟩ := List.mem_flatMap.mp h
  have q := S.gt t ht
  cases e : t.2.tg with
  | src dx u f =>
    rw [e] at hb
    cases hb
  | set dx L R es row =>
    rw [e] at q hb
    rcases List.mem_cons.mp hb with z | z
    · exact ⟨_, z ▸ q.2.1⟩
    · cases List.mem_singleton.mp z
      exact ⟨_, q.2.2.1⟩
theorem SyAt.en (S : SyAt K H s) {b : Addr} (h : b ∈ s.ents) : ∃ dx fs, fs.lookup ("tables" : Str) = none ∧ (fs.lookup ("label" : Str)).isSome = true ∧ H b = some (.ins (ga K "Entry") dx fs) := by
  obtain ⟨t, ht, hb⟩ := List.mem_flatMap.mp h
  have q := S.gt t ht
  cases e : t.2.tg with
  | src dx u f =>
    rw [e] at hb
    cases hb
  | set dx L R es row =>
    rw [e] at q hb
    obtain ⟨x, hx, rfl⟩ := List.mem_map.mp hb
    exact ⟨_, _, rfl, rfl, q.2.2.2 x hx⟩
theorem SyAt.some_of (S : SyAt K H s) {b : Addr} (h : b ∈ s.foot) : ∃ o, H b = some o := by
  rcases Sy.foot_cases h with z | z | z | z | z
  · exact ⟨_, z ▸ S.ob⟩
  · obtain ⟨_, q⟩ := S.dc z
    exact ⟨_, q⟩
  · obtain ⟨_, _, _, _, _, q⟩ := S.th' z
    exact ⟨_, q⟩
  · obtain ⟨_, q⟩ := S.ls z
    exact ⟨_, q⟩
  · obtain ⟨_, _, _, _, q⟩ := S.en z
    exact ⟨_, q⟩
/-- a table's rows are changed -/
theorem SyAt.rows (S : SyAt K H s) {i : Int} {t : Tb} {f : List (Int × Int) → List (Int × Int)} (hl : lk s.tabs i = some t) (nd : (s.tabs.map (·.1)).Nodup) :
    SyAt K (upd H t.ad (.dK (kv V.int (f t.rows)))) { s with tabs := upAt s.tabs i (Tb.fn f) } := by
  have hm := lk_mem hl
  have ht := S.tt _ hm
  have np : s.p ≠ t.ad := ne_of S.ob ht (fun z => nomatch z)
  obtain ⟨d1, d2⟩ := List.nodup_cons.mp S.nd
  obtain ⟨d3, d4⟩ := List.nodup_cons.mp d2
  have mA : t.ad ∈ s.tabs.map (·.2.ad) := List.mem_map.mpr ⟨_, hm, rfl⟩
  have nT : s.T ≠ t.ad := fun z => d1 (z ▸ List.mem_cons_of_mem _ mA)
  have nG : s.G ≠ t.ad := fun z => d3 (z ▸ mA)
  have ads : (upAt s.tabs i (Tb.fn f)).map (·.2.ad) = s.tabs.map (·.2.ad) := by
    unfold upAt
    rw [List.map_map]
    refine List.map_congr_left fun u _ => ?_
    show (if u.1 = i then (u.1, Tb.fn f u.2) else u).2.ad = u.2.ad
    split <;> rfl
  refine ⟨by rw [upd_ne np]; exact S.ob, ?_, fun u hu => ?_, by rw [upd_ne nG]; exact S.gb, fun u hu => ?_, ?_, S.nt, S.nl, S.ne⟩
  · rw [upd_ne nT]
    show H s.T = some (.dK (kv tbV (upAt s.tabs i (Tb.fn f))))
    rw [upAt_kv tbV (Tb.fn f) (fun _ => rfl)]
    exact S.tb
  · rcases upAt_mem hu with ⟨ni, hm'⟩ | ⟨x, hx, rfl⟩
    · have na : u.2.ad ≠ t.ad := fun z => by
        have e1 : u = (i, t) := inj_of_nodup d4 hm' hm z
        exact ni (by rw [e1])
      rw [upd_ne na]
      exact S.tt u hm'
    · have e : x = t := by
        have := lk_of_mem nd hx
        rw [hl] at this
        exact (Option.some.inj this).symm
      subst e
      exact upd_same
  · have q := S.gt u hu
    have hk : ∀ {b : Addr} {o : HO}, H b = some o → (∀ kvs, o ≠ .dK kvs) → upd H t.ad (.dK (kv V.int (f t.rows))) b = some o := fun {b o} e ne => by
      rw [upd_ne (ne_of e ht (ne _))]
      exact e
    cases e : u.2.tg with
    | src dx v fi =>
      rw [e] at q
      exact hk q fun _ z => nomatch z
    | set dx L R es row =>
      rw [e] at q
      exact ⟨hk q.1 fun _ z => (nomatch z), hk q.2.1 fun _ z => (nomatch z), hk q.2.2.1 fun _ z => (nomatch z), fun x hx => hk (q.2.2.2 x hx) fun _ z => (nomatch z)⟩
  · show (s.T :: s.G :: (upAt s.tabs i (Tb.fn f)).map (·.2.ad)).Nodup
    rw [ads]
    exact S.nd
where
  inj_of_nodup {l : List (Int × Tb)} (nd : (l.map (·.2.ad)).Nodup) {x y : Int × Tb} (hx : x ∈ l) (hy : y ∈ l) (e : x.2.ad = y.2.ad) : x = y := by
    induction l with
    | nil => cases hx
    | cons a l ih =>
      obtain ⟨n1, n2⟩ := List.nodup_cons.mp (show (a.2.ad :: l.map (·.2.ad)).Nodup from nd)
      rcases List.mem_cons.mp hx with zx | zx
      · rcases List.mem_cons.mp hy with zy | zy
        · rw [zx, zy]
        · subst zx
          exact (n1 (e ▸ List.mem_map.mpr ⟨_, zy, rfl⟩)).elim
      · rcases List.mem_cons.mp hy with zy | zy
        · subst zy
          exact (n1 (e ▸ List.mem_map.mpr ⟨_, zx, rfl⟩)).elim
        · exact ih n2 zx zy
end

section
variable {K : PySem.W.Frag} {H : Hp} {s : Sy}
/-- what the object at a is not: a change there keeps the things -/
theorem TgAt.keep {a b : Addr} {o : HO} {tg : Tg} (h : TgAt K H a tg) (ha : a ≠ b) (hl : ∀ x ∈ tg.lsts, x ≠ b) (he : ∀ x ∈ tg.ents, x ≠ b) : TgAt K (upd H b o) a tg := by
  cases tg with
  | src dx u f =>
    show upd H b o a = _
    rw [upd_ne ha]
    exact h
  | set dx L R es row =>
    obtain ⟨q1, q2, q3, q4⟩ := h
    refine ⟨by rw [upd_ne ha]; exact q1, by rw [upd_ne (hl L (by simp [Tg.lsts]))]; exact q2, by rw [upd_ne (hl R (by simp [Tg.lsts]))]; exact q3, fun e h => ?_⟩
    rw [upd_ne (he e.ad (List.mem_map.mpr ⟨e, h, rfl⟩))]
    exact q4 e h
/-- the parts of a system stand apart -/
theorem ins_ne {C C' dx dx' : Addr} {fs fs' : List (Str × V)} (f : Str) (h : fs.lookup f ≠ fs'.lookup f) : HO.ins C dx fs ≠ HO.ins C' dx' fs' := fun z => by
  cases z
  exact h rfl
theorem SyAt.np (S : SyAt K H s) {b : Addr} (h : b ∈ s.dcs ∨ b ∈ s.ths' ∨ b ∈ s.lsts ∨ b ∈ s.ents) : b ≠ s.p := by
  rcases h with z | z | z | z
  · obtain ⟨_, q⟩ := S.dc z
    exact ne_of q S.ob fun z => nomatch z
  · obtain ⟨_, _, _, e, _, q⟩ := S.th' z
    exact ne_of q S.ob (ins_ne "tables" (by rw [e]; exact fun z => nomatch z))
  · obtain ⟨_, q⟩ := S.ls z
    exact ne_of q S.ob fun z => nomatch z
  · obtain ⟨_, _, e, _, q⟩ := S.en z
    exact ne_of q S.ob (ins_ne "tables" (by rw [e]; exact fun z => nomatch z))
theorem Sy.th_in {s : Sy} {t : Int × Th} (h : t ∈ s.ths) : t.2.ad ∈ s.ths' := List.mem_map.mpr ⟨t, h, rfl⟩
theorem Sy.ls_in {s : Sy} {t : Int × Th} (h : t ∈ s.ths) {x : Addr} (hx : x ∈ t.2.tg.lsts) : x ∈ s.lsts := List.mem_flatMap.mpr ⟨t, h, hx⟩
theorem Sy.en_in {s : Sy} {t : Int × Th} (h : t ∈ s.ths) {x : Addr} (hx : x ∈ t.2.tg.ents) : x ∈ s.ents := List.mem_flatMap.mpr ⟨t, h, hx⟩
theorem SyAt.dc_th (S : SyAt K H s) {a b : Addr} (ha : a ∈ s.dcs) (hb : b ∈ s.ths' ∨ b ∈ s.lsts ∨ b ∈ s.ents) : b ≠ a := by
  obtain ⟨_, q⟩ := S.dc ha
  rcases hb with z | z | z
  · obtain ⟨_, _, _, _, _, q'⟩ := S.th' z
    exact ne_of q' q fun z => nomatch z
  · obtain ⟨_, q'⟩ := S.ls z
    exact ne_of q' q fun z => nomatch z
  · obtain ⟨_, _, _, _, q'⟩ := S.en z
    exact ne_of q' q fun z => nomatch z
/-- the counter -/
theorem SyAt.count (S : SyAt K H s) (m : Int) : SyAt K (upd H s.p (.ins (ga K "System") s.dx (sysF s.P s.N s.T s.G m))) { s with made := m } := by
  refine ⟨upd_same, by rw [upd_ne (S.np (.inl List.mem_cons_self))]; exact S.tb, fun t h => ?_, by rw [upd_ne (S.np (.inl (List.mem_cons_of_mem _ List.mem_cons_self)))]; exact S.gb, fun t h => ?_, S.nd, S.nt, S.nl, S.ne⟩
  · rw [upd_ne (S.np (.inl (List.mem_cons_of_mem _ (List.mem_cons_of_mem _ (List.mem_map.mpr ⟨t, h, rfl⟩)))))]
    exact S.tt t h
  · exact (S.gt t h).keep (S.np (.inr (.inl (Sy.th_in h)))) (fun x hx => S.np (.inr (.inr (.inl (Sy.ls_in h hx))))) (fun x hx => S.np (.inr (.inr (.inr (Sy.en_in h hx)))))
/-- a new thing, which stands apart, is kept under a new serial -/
theorem SyAt.thing (S : SyAt K H s) {n : Int} {t : Th} (ht : TgAt K H t.ad t.tg) (h1 : t.ad ∉ s.foot) (h2 : ∀ x ∈ t.tg.lsts, x ∉ s.foot) (h3 : ∀ x ∈ t.tg.ents, x ∉ s.foot) (n2 : t.tg.lsts.Nodup) (n3 : t.tg.ents.Nodup) :
    SyAt K (upd H s.G (.dK (kv thV (s.ths ++ [(n, t)])))) { s with ths := s.ths ++ [(n, t)] } := by
  have mG : s.G ∈ s.dcs := List.mem_cons_of_mem _ List.mem_cons_self
  obtain ⟨d1, d2⟩ := List.nodup_cons.mp S.nd
  obtain ⟨d3, d4⟩ := List.nodup_cons.mp d2
  have fG : s.G ∈ s.foot := Sy.in_dcs mG
  have nTG : s.T ≠ s.G := fun z => d1 (by rw [z]; exact List.mem_cons_self)
  have nG : ∀ {u : Int × Tb}, u ∈ s.tabs → u.2.ad ≠ s.G := fun {u} h z => d3 (by rw [← z]; exact List.mem_map.mpr ⟨u, h, rfl⟩)
  refine ⟨by rw [upd_ne (Ne.symm (S.np (.inl mG)))]; exact S.ob, by rw [upd_ne nTG]; exact S.tb, fun u h => ?_, upd_same, fun u h => ?_, S.nd, ?_, ?_, ?_⟩
  · rw [upd_ne (nG h)]
    exact S.tt u h
  · rcases List.mem_append.mp h with h | h
    · exact (S.gt u h).keep (S.dc_th mG (.inl (Sy.th_in h))) (fun x hx => S.dc_th mG (.inr (.inl (Sy.ls_in h hx)))) (fun x hx => S.dc_th mG (.inr (.inr (Sy.en_in h hx))))
    · cases List.mem_singleton.mp h
      exact ht.keep (fun z => h1 (z ▸ fG)) (fun x hx z => h2 x hx (z ▸ fG)) (fun x hx z => h3 x hx (z ▸ fG))
  · show ((s.ths ++ [(n, t)]).map (·.2.ad)).Nodup
    rw [List.map_append]
    exact List.nodup_append.mpr ⟨S.nt, by simp, fun a ha b hb z => by
      have z' : a = t.ad := z.trans (List.mem_singleton.mp hb)
      exact h1 (by rw [← z']; exact Sy.in_ths ha)⟩
  · show ((s.ths ++ [(n, t)]).flatMap (·.2.tg.lsts)).Nodup
    rw [List.flatMap_append]
    refine List.nodup_append.mpr ⟨S.nl, by simpa using n2, fun a ha b hb z => ?_⟩
    have hb' : b ∈ t.tg.lsts := by simpa using hb
    exact h2 b hb' (z ▸ Sy.in_lsts ha)
  · show ((s.ths ++ [(n, t)]).flatMap (·.2.tg.ents)).Nodup
    rw [List.flatMap_append]
    refine List.nodup_append.mpr ⟨S.ne, by simpa using n3, fun a ha b hb z => ?_⟩
    have hb' : b ∈ t.tg.ents := by simpa using hb
    exact h3 b hb' (z ▸ Sy.in_ents ha)
/-- a new process with a table of its own -/
theorem SyAt.proc (S : SyAt K H s) {n : Int} {t : Tb} (ht : H t.ad = some (.dK (kv V.int t.rows))) (h1 : t.ad ∉ s.foot) :
    SyAt K (upd H s.T (.dK (kv tbV (s.tabs ++ [(n, t)])))) { s with tabs := s.tabs ++ [(n, t)] } := by
  have mT : s.T ∈ s.dcs := List.mem_cons_self
  obtain ⟨d1, d2⟩ := List.nodup_cons.mp S.nd
  have fT : s.T ∈ s.foot := Sy.in_dcs mT
  have nGT : s.G ≠ s.T := fun z => d1 (by rw [← z]; exact List.mem_cons_self)
  have nT : ∀ {u : Int × Tb}, u ∈ s.tabs → u.2.ad ≠ s.T := fun {u} h z => d1 (by rw [← z]; exact List.mem_cons_of_mem _ (List.mem_map.mpr ⟨u, h, rfl⟩))
  have tT : t.ad ≠ s.T := fun z => h1 (by rw [z]; exact fT)
  refine ⟨by rw [upd_ne (Ne.symm (S.np (.inl mT)))]; exact S.ob, upd_same, fun u h => ?_, by rw [upd_ne nGT]; exact S.gb, fun u h => ?_, ?_, S.nt, S.nl, S.ne⟩
  · rcases List.mem_append.mp h with h | h
    · rw [upd_ne (nT h)]
      exact S.tt u h
    · cases List.mem_singleton.mp h
      rw [upd_ne tT]
      exact ht
  · exact (S.gt u h).keep (S.dc_th mT (.inl (Sy.th_in h))) (fun x hx => S.dc_th mT (.inr (.inl (Sy.ls_in h hx)))) (fun x hx => S.dc_th mT (.inr (.inr (Sy.en_in h hx))))
  · have e : (s.T :: s.G :: (s.tabs ++ [(n, t)]).map (·.2.ad)) = s.dcs ++ [t.ad] := by
      show s.T :: s.G :: (s.tabs ++ [(n, t)]).map (·.2.ad) = s.T :: s.G :: (s.tabs.map (·.2.ad)) ++ [t.ad]
      rw [List.map_append]
      rfl
    show (s.T :: s.G :: (s.tabs ++ [(n, t)]).map (·.2.ad)).Nodup
    rw [e]
    exact List.nodup_append.mpr ⟨S.nd, by simp, fun a ha b hb z => by
      have z' : a = t.ad := z.trans (List.mem_singleton.mp hb)
      exact h1 (by rw [← z']; exact Sy.in_dcs ha)⟩
end

/-! ### the pictures of these changes -/
def Sv.place (v : Sv) (i n : Int) (tv : Tv) : Sv := { v with made := v.made + 1, tabs := upAt v.tabs i (· ++ [(n, v.made)]), ths := v.ths ++ [(v.made, tv)] }
def Sv.fork (v : Sv) (c : Int) (rows : List (Int × Int)) : Sv := { v with tabs := v.tabs ++ [(c, rows)] }
def Tv.fresh : Tv → Prop
  | .src u f => 0 ≤ u
  | .set es row => es = [] ∧ row = []
theorem WF.place {v : Sv} (h : WF v) {i n : Int} {rows : List (Int × Int)} {tv : Tv} (hl : lk v.tabs i = some rows) (hn : 0 ≤ n ∧ n < v.N ∧ n ∉ rows.map (·.1)) (hf : tv.fresh) (hm : 0 ≤ v.made) : WF (v.place i n tv) := by
  have mem : (i, rows) ∈ v.tabs := lk_mem hl
  have one : ∀ {t : Int × List (Int × Int)}, t ∈ (v.place i n tv).tabs → t ∈ v.tabs ∨ t = (i, rows ++ [(n, v.made)]) := fun {t} ht => by
    rcases upAt_mem (show t ∈ upAt v.tabs i (· ++ [(n, v.made)]) from ht) with ⟨_, z⟩ | ⟨x, hx, rfl⟩
    · exact .inl z
    · have := lk_of_mem h.ndp hx
      rw [hl] at this
      cases this
      exact .inr rfl
  have old : ∀ {k : Int}, k ∈ v.ths.map (·.1) → k ∈ (v.place i n tv).ths.map (·.1) := fun {k} hk => by
    show k ∈ (v.ths ++ [(v.made, tv)]).map (·.1)
    rw [List.map_append]
    exact List.mem_append_left _ hk
  have nm : v.made ∉ v.ths.map (·.1) := fun z => by
    obtain ⟨t, ht, e⟩ := List.mem_map.mp z
    have := h.rs t ht
    omega
  refine ⟨h.p, h.n, ?_, fun t ht => ?_, fun t ht => ?_, fun t ht r hr => ?_, fun t ht r hr => ?_, ?_, fun t ht => ?_, fun t ht => ?_, fun t ht es row e => ?_⟩
  · show ((upAt v.tabs i (· ++ [(n, v.made)])).map (·.1)).Nodup
    rw [upAt_keys]
    exact h.ndp
  · rcases one ht with z | z
    · exact h.rp t z
    · subst z
      exact h.rp (i, rows) mem
  · rcases one ht with z | z
    · exact h.ndn t z
    · subst z
      show ((rows ++ [(n, v.made)]).map (·.1)).Nodup
      rw [List.map_append]
      exact nd_snoc (h.ndn (i, rows) mem) hn.2.2
  · rcases one ht with z | z
    · exact h.rn t z r hr
    · subst z
      rcases List.mem_append.mp hr with y | y
      · exact h.rn (i, rows) mem r y
      · cases List.mem_singleton.mp y
        exact ⟨hn.1, hn.2.1⟩
  · rcases one ht with z | z
    · exact old (h.th t z r hr)
    · subst z
      rcases List.mem_append.mp hr with y | y
      · exact old (h.th (i, rows) mem r y)
      · cases List.mem_singleton.mp y
        show v.made ∈ (v.ths ++ [(v.made, tv)]).map (·.1)
        simp
  · show ((v.ths ++ [(v.made, tv)]).map (·.1)).Nodup
    rw [List.map_append]
    exact nd_snoc h.nds nm
  · show 0 ≤ t.1 ∧ t.1 < v.made + 1
    rcases List.mem_append.mp ht with y | y
    · have := h.rs t y
      omega
    · cases List.mem_singleton.mp y
      show 0 ≤ v.made ∧ v.made < v.made + 1
      omega
  · have up : ∀ {u : Int × List (Int × Int)}, u ∈ v.tabs → ∃ u' ∈ (v.place i n tv).tabs, ∀ r ∈ u.2, r ∈ u'.2 := fun {u} hu => by
      refine ⟨_, List.mem_map.mpr ⟨u, hu, rfl⟩, fun r hr => ?_⟩
      show r ∈ (if u.1 = i then (u.1, u.2 ++ [(n, v.made)]) else u).2
      split
      · exact List.mem_append_left _ hr
      · exact hr
    rcases List.mem_append.mp ht with y | y
    · obtain ⟨u, hu, r, hr, e⟩ := h.held t y
      obtain ⟨u', hu', k⟩ := up hu
      exact ⟨u', hu', r, k r hr, e⟩
    · cases List.mem_singleton.mp y
      refine ⟨(i, rows ++ [(n, v.made)]), List.mem_map.mpr ⟨(i, rows), mem, if_pos rfl⟩, (n, v.made), List.mem_append_right _ (List.mem_singleton.mpr rfl), rfl⟩
  · have ext : ∀ {k : Int} {x : Tv}, lk v.ths k = some x → lk (v.ths ++ [(v.made, tv)]) k = some x := fun {k x} hk => by rw [lk_app, hk]; rfl
    rcases List.mem_append.mp ht with y | y
    · obtain ⟨h1, h2, h3, h4, h5, h6⟩ := h.ok t y es row e
      exact ⟨h1, h2, h3, h4, fun x hx => (h5 x hx).imp fun u ⟨f, q⟩ => ⟨f, ext q⟩, h6⟩
    · cases List.mem_singleton.mp y
      have e' : tv = .set es row := e
      subst e'
      obtain ⟨rfl, rfl⟩ := hf
      exact ⟨List.nodup_nil, List.nodup_nil, List.nodup_nil, fun x hx => (nomatch hx), fun x hx => (nomatch hx), Nat.zero_le _⟩
theorem WF.fork {v : Sv} (h : WF v) {i c : Int} {rows : List (Int × Int)} (hl : lk v.tabs i = some rows) (hc : 0 ≤ c ∧ c < v.P ∧ c ∉ v.tabs.map (·.1)) : WF (v.fork c rows) := by
  have mem : (i, rows) ∈ v.tabs := lk_mem hl
  have one : ∀ {t : Int × List (Int × Int)}, t ∈ v.tabs ++ [(c, rows)] → t ∈ v.tabs ∨ t = (c, rows) := fun {t} ht => by simpa using ht
  refine ⟨h.p, h.n, ?_, fun t ht => ?_, fun t ht => ?_, fun t ht r hr => ?_, fun t ht r hr => ?_, h.nds, h.rs, fun t ht => ?_, h.ok⟩
  · show ((v.tabs ++ [(c, rows)]).map (·.1)).Nodup
    rw [List.map_append]
    exact nd_snoc h.ndp hc.2.2
  · rcases one ht with z | z
    · exact h.rp t z
    · subst z
      exact ⟨hc.1, hc.2.1⟩
  · rcases one ht with z | z
    · exact h.ndn t z
    · subst z
      exact h.ndn (i, rows) mem
  · rcases one ht with z | z
    · exact h.rn t z r hr
    · subst z
      exact h.rn (i, rows) mem r hr
  · rcases one ht with z | z
    · exact h.th t z r hr
    · subst z
      exact h.th (i, rows) mem r hr
  · obtain ⟨u, hu, q⟩ := h.held t ht
    exact ⟨u, List.mem_append_left _ hu, q⟩

end Wn
namespace Wn
open PySem PySem.Spec PyProof.Rows L2 LamX He
theorem upd_comm {H : Hp} {a b : Addr} {o u : HO} (h : a ≠ b) : upd (upd H a o) b u = upd (upd H b u) a o := by
  funext c
  by_cases c1 : c = a
  · subst c1
    rw [upd_ne h, upd_same, upd_same]
  · rw [upd_ne c1]
    by_cases c2 : c = b
    · subst c2
      rw [upd_same, upd_same]
    · rw [upd_ne c2, upd_ne c2, upd_ne c1]
theorem upd_idem {H : Hp} {a : Addr} {o : HO} (h : H a = some o) : upd H a o = H := by
  funext c
  by_cases c1 : c = a
  · subst c1
    rw [upd_same, h]
  · rw [upd_ne c1]
/-! ### a dict made by a walk -/
theorem dc_it {J : It} {n : Nat} {G : Hp → Prop} {Y : Nat → Hp → V → Hp → Prop} (w : Walk J n G Y) {g : TG} {tt : TT} {tk tv : TE} {vs : List Nat} {σ : L2.St} {H1 : Hp} {D : Addr} {Qd : Hp → Prop} (Pv : Nat → Hp → Prop) (h0 : Pv 0 (upd H1 D (.dK []))) (hG : ∀ i H, i ≤ n → Pv i H → G H)
    (hs : ∀ i x H H', i < n → Pv i H → Y i H x H' → g x (wipe σ vs) H' fun σ2 H2 => wipe σ2 vs = wipe σ vs ∧ tt σ2 H2 fun b H3 =>
      if b = true then tk σ2 H3 fun y H4 => tv σ2 H4 fun z H5 => ∃ kvs k, y = kV k ∧ H5 D = some (.dK kvs) ∧ kvs.length < sizeLine ∧ Pv (i + 1) (upd H5 D (.dK (putK kvs k z))) else Pv (i + 1) H3) (hd : ∀ H, Pv n H → Qd H) :
    ∃ W : Nat → Nat → Hp → Prop, (∃ m, W 0 m (upd H1 D (.dK []))) ∧ ∀ i m H, W i m H →
      (J.stop i H ∧ Qd H) ∨ (J.go i H ∧ ∃ Nx : Hp → Prop, (∀ H', Nx H' → ∃ m', m' < m ∧ W (i + 1) m' H') ∧ ∀ x H', J.yld i H x H' → g x (wipe σ vs) H' fun σ2 H2 => wipe σ2 vs = wipe σ vs ∧ tt σ2 H2 fun b H3 =>
        if b = true then tk σ2 H3 fun y H4 => tv σ2 H4 fun z H5 => ∃ kvs k, y = kV k ∧ H5 D = some (.dK kvs) ∧ kvs.length < sizeLine ∧ Nx (upd H5 D (.dK (putK kvs k z))) else Nx H3) := by
  refine ⟨fun i m H => m = n - i ∧ i ≤ n ∧ Pv i H, ⟨n, by simp, Nat.zero_le _, h0⟩, ?_⟩
  rintro i m H ⟨rfl, hi, p⟩
  have q := hG i H hi p
  by_cases hlt : i < n
  · exact .inr ⟨w.goes i H hlt q, Pv (i + 1), fun H' p' => ⟨n - (i + 1), by omega, rfl, hlt, p'⟩, fun x H' y => hs i x H H' hlt p (w.yields i H x H' hlt q y)⟩
  · have e : i = n := by omega
    subst e
    exact .inl ⟨w.stops H q, hd H p⟩
theorem take_put {l : List (Int × Int)} (nd : (l.map (·.1)).Nodup) {i : Nat} {r : Int × Int} (h : l[i]? = some r) : putK (kv V.int (l.take i)) (Sum.inl r.1 : Key) (.int r.2) = kv V.int (l.take (i + 1)) := by
  have e : l.take (i + 1) = l.take i ++ [r] := by rw [List.take_succ, h]; rfl
  rw [e, put_kv V.int r.1 r.2 (l := l.take i)]
  rw [lk_none]
  intro z
  have hi : i < l.length := by
    rcases Nat.lt_or_ge i l.length with h' | h'
    · exact h'
    · rw [List.getElem?_eq_none h'] at h
      cases h
  have s1 : l.map (·.1) = (l.take i).map (·.1) ++ (l.drop i).map (·.1) := by rw [← List.map_append, List.take_append_drop]
  rw [s1] at nd
  refine (List.nodup_append.mp nd).2.2 r.1 z r.1 ?_ rfl
  refine List.mem_map.mpr ⟨r, ?_, rfl⟩
  rw [List.drop_eq_getElem_cons hi]
  have : l[i] = r := by
    rw [List.getElem?_eq_getElem hi] at h
    exact Option.some.inj h
  rw [this]
  exact List.mem_cons_self
theorem kv_get {α : Type} {g : α → V} {l : List (Int × α)} {i : Nat} {k : Key} {v : V} (h : (kv g l)[i]? = some (k, v)) : ∃ r, l[i]? = some r ∧ k = Sum.inl r.1 ∧ v = g r.2 := by
  unfold kv at h
  rw [List.getElem?_map] at h
  cases e : l[i]? with
  | none => rw [e] at h; cases h
  | some r =>
    rw [e] at h
    cases h
    exact ⟨r, rfl, rfl, rfl⟩
/-! ### data that is new -/
/-- what stands in H' and not in H -/
def frs (H H' : Hp) : Hp := fun a => match H a with
  | none => H' a
  | some _ => none
def off (D : Addr) (H : Hp) : Hp := fun a => if a = D then none else H a
theorem frs_le {H H' : Hp} : Same (frs H H') H' := fun b o h => by
  unfold frs at h
  split at h
  · exact h
  · cases h
theorem off_le {D : Addr} {H : Hp} : Same (off D H) H := fun b o h => by
  unfold off at h
  split at h
  · cases h
  · exact h
theorem frs_new {H H' : Hp} {p : Addr} (h : H p = none) : frs H H' p = H' p := by
  unfold frs
  rw [h]
theorem off_ne {D p : Addr} {H : Hp} (h : p ≠ D) : off D H p = H p := if_neg h
theorem frs_mono {H H1 H2 : Hp} (e : Same H1 H2) : Same (frs H H1) (frs H H2) := fun b o h => by
  unfold frs at h ⊢
  cases q : H b with
  | none => rw [q] at h; exact e b o h
  | some _ => rw [q] at h; cases h
/-- what is new since a later heap is new since an earlier one -/
theorem frs_old {H H1 H2 : Hp} (e : Same H H1) : Same (frs H1 H2) (frs H H2) := fun b o h => by
  unfold frs at h ⊢
  cases q : H1 b with
  | none => rw [q] at h; rw [e.free q]; exact h
  | some _ => rw [q] at h; cases h
theorem off_mono {D : Addr} {H1 H2 : Hp} (e : Same H1 H2) : Same (off D H1) (off D H2) := fun b o h => by
  unfold off at h ⊢
  split at h
  · cases h
  · rw [if_neg (by assumption)]; exact e b o h
theorem off_upd {D : Addr} {H : Hp} {o : HO} : off D (upd H D o) = off D H := by
  funext b
  unfold off
  split
  · rfl
  · rw [upd_ne (by assumption)]
/-- new since a heap that holds D: off D, too -/
theorem frs_off {H H1 : Hp} {D : Addr} {o : HO} (h : H D = some o) : Same (frs H H1) (off D H1) := fun b u e => by
  have ne : b ≠ D := fun z => by
    subst z
    unfold frs at e
    rw [h] at e
    cases e
  rw [off_ne ne]
  exact frs_le b u e
/-- a list that is being made at D: what is in it is new, and not D -/
structure Gro (K : PySem.W.Frag) (H1 : Hp) (D : Addr) (H' : Hp) (ds : List PyData) : Prop where
  new : H1 D = none
  same : Same H1 H'
  has : ∃ xs, H' D = some (.lst xs) ∧ DpAll K (frs H1 (off D H')) xs ds
section
variable {K : PySem.W.Frag} {H1 H' H4 : Hp} {D : Addr} {ds : List PyData} {d : PyData} {y : V}
theorem Gro.start (h : H1 D = none) : Gro K H1 D (upd H1 D (.lst [])) [] := ⟨h, fun b o e => by rw [upd_ne (ne_of_none e h)]; exact e, [], upd_same, .nil⟩
theorem Gro.add (g : Gro K H1 D H' ds) (e : Same H' H4) (hy : Dp K (frs H1 (off D H4)) y d) : ∃ xs, H4 D = some (.lst xs) ∧ xs.length = ds.length ∧ Gro K H1 D (upd H4 D (.lst (xs ++ [y]))) (ds ++ [d]) := by
  obtain ⟨xs, h1, h2⟩ := g.has
  refine ⟨xs, e _ _ h1, dpLen h2, g.new, fun b o q => by rw [upd_ne (ne_of_none q g.new)]; exact e _ _ (g.same _ _ q), _, upd_same, ?_⟩
  rw [off_upd]
  exact dpApp (DpAll.same (frs_mono (off_mono e)) _ _ h2) (.cons hy .nil)
theorem Gro.fin (g : Gro K H1 D H' ds) : Dp K (frs H1 H') (.ref D) (.list ds) := by
  obtain ⟨xs, h1, h2⟩ := g.has
  exact .lst (SqL.of (by rw [frs_new g.new]; exact h1)) (DpAll.same (frs_mono off_le) _ _ h2)
theorem Gro.ext (g : Gro K H1 D H' ds) (e : Same H' H4) : Gro K H1 D H4 ds := by
  obtain ⟨xs, h1, h2⟩ := g.has
  exact ⟨g.new, g.same.trans e, xs, e _ _ h1, DpAll.same (frs_mono (off_mono e)) _ _ h2⟩
/-- a new tuple of data, made while D grows -/
theorem Gro.tup (g : Gro K H1 D H' ds) {p : Addr} {vs : List V} {es : List PyData} (e : Same H' H4) (hp : H4 p = none) (h : DpAll K (frs H1 (off D (upd H4 p (.tup vs)))) vs es) : Dp K (frs H1 (off D (upd H4 p (.tup vs)))) (.ref p) (.tuple es) := by
  obtain ⟨xs, h1, _⟩ := g.has
  have ne : p ≠ D := fun z => by
    subst z
    rw [e _ _ h1] at hp
    cases hp
  refine .tup (SqT.of ?_) h
  rw [frs_new ((g.same.trans e).free hp), off_ne ne, upd_same]
end
theorem new_same' {H : Hp} {p : Addr} {o : HO} (h : H p = none) : Same H (upd H p o) := fun b u e => by rw [upd_ne (ne_of_none e h)]; exact e

theorem frs_frs {H1 H' H4 : Hp} {D D2 : Addr} {o : HO} (e : Same H1 H') (hD : H' D = some o) : Same (frs H' (off D2 H4)) (frs H1 (off D H4)) := fun b u h => by
  have hb : H' b = none := by
    cases q : H' b with
    | none => rfl
    | some _ =>
      unfold frs at h
      rw [q] at h
      cases h
  rw [frs_new hb] at h
  rw [frs_new (e.free hb), off_ne (fun z => by rw [z, hD] at hb; cases hb)]
  exact off_le _ _ h
theorem Gro.addAll {K : PySem.W.Frag} {H1 H' H4 : Hp} {D D2 : Addr} {ds es : List PyData} (g : Gro K H1 D H' ds) (g2 : Gro K H' D2 H4 es) : ∃ xs zs, H4 D = some (.lst xs) ∧ H4 D2 = some (.lst zs) ∧ xs.length = ds.length ∧ zs.length = es.length ∧ Gro K H1 D (upd H4 D (.lst (xs ++ zs))) (ds ++ es) := by
  obtain ⟨xs, h1, h2⟩ := g.has
  obtain ⟨zs, h3, h4⟩ := g2.has
  refine ⟨xs, zs, g2.same _ _ h1, h3, dpLen h2, dpLen h4, g.new, fun b o q => by rw [upd_ne (ne_of_none q g.new)]; exact g2.same _ _ (g.same _ _ q), _, upd_same, ?_⟩
  rw [off_upd]
  exact dpApp (DpAll.same (frs_mono (off_mono g2.same)) _ _ h2) (DpAll.same (frs_frs g.same h1) _ _ h4)
theorem DpAll.get {K : PySem.W.Frag} {H : Hp} : ∀ {xs : List V} {ds : List PyData} {i : Nat} {d : PyData}, DpAll K H xs ds → ds[i]? = some d → ∃ v, xs[i]? = some v ∧ Dp K H v d
  | _, _, 0, _, .cons h _, e => by
    cases e
    exact ⟨_, rfl, h⟩
  | _, _, i + 1, _, .cons _ t, e => DpAll.get (i := i) t e
/-- e.f inside a comprehension: the known facts K are named -/
theorem pe_fldK {X : Cx} {e : Expr} {f : Str} {pos : Pos} {ta : TE} (K : PySem.W.Frag) (he : PE X e ta) (hb : attributeBase e f X.env (eval e X.env) = eval e X.env) (hK : X.K = K := by rfl) : PE X (.Attribute e f pos) (tFld K ta f) := by
  subst hK
  exact pe_fld he hb
theorem call_isiK {X : Cx} (K : PySem.W.Frag) (hK : X.K = K := by rfl) : CallR X (.builtin "isinstance") (rIsi K) := by
  subst hK
  exact call_isi
/-! ### a property of one of two classes -/
def tProp2 (C1 C2 : Addr) (sp1 sp2 : Sp) (E : XK) (ta : TE) : TE := fun σ H Q => ta σ H fun x H1 => ∃ a dx fs, x = .ref a ∧ ((H1 a = some (.ins C1 dx fs) ∧ sp1 [.ref a] H1 Q E) ∨ (H1 a = some (.ins C2 dx fs) ∧ sp2 [.ref a] H1 Q E))
theorem pe_prop2 {X : Cx} {CX1 CX2 : CXT} {k1 k2 : Nat} {C1 C2 p1 p2 g1 g2 : Addr} {f : Str} {fd1 fd2 : FuncData} {ps1 ps2 : List Str} {sp1 sp2 : Sp} {E : XK} {e : Expr} {pos : Pos} {ta : TE} (he : PE X e ta)
    (c1 : Cls X.K C1) (hp1 : PropOf X.K C1 f p1 g1) (F1 : FnOk X.prog X.w X.K X.mg X.base CX1 k1 g1 fd1 ps1 sp1) (hr1 : Room (k1 + 1) X.A) (hb1 : Binds X.K fd1 ps1 []) (hx1 : Passes CX1 X.nox E)
    (c2 : Cls X.K C2) (hp2 : PropOf X.K C2 f p2 g2) (F2 : FnOk X.prog X.w X.K X.mg X.base CX2 k2 g2 fd2 ps2 sp2) (hr2 : Room (k2 + 1) X.A) (hb2 : Binds X.K fd2 ps2 []) (hx2 : Passes CX2 X.nox E)
    (hab : attributeBase e f X.env (eval e X.env) = eval e X.env) : PE X (.Attribute e f pos) (tProp2 C1 C2 sp1 sp2 E ta) := by
  refine ⟨fun pins s σ H Q I h => ?_⟩
  refine attr_of hab (thn (he.run pins s σ H _ I h) fun u s1 ⟨x, H1, I1, rx, a, dx, fs, ex, q⟩ => ?_)
  subst ex
  obtain rfl : u = Value.ref a := rx
  rcases q with ⟨ea, q⟩ | ⟨ea, q⟩
  · exact getprop_ok (dvs := []) I1 ea c1 hp1 F1 hr1 hb1 .nil hx1 q
  · exact getprop_ok (dvs := []) I1 ea c2 hp2 F2 hr2 hb2 .nil hx2 q
end Wn
namespace Wn
open PySem PySem.Spec PyProof.Rows L2 LamX He
/-! ### calls in the body of a try: the wish looks at the slots -/
def tMethW (C : Addr) (m : Str) (sp : Sp) (dvs : List V) (E : L2.St → XK) (ta : TE) (t : TA) : TE := fun σ H Q => ta σ H fun x H1 => ∃ a dx fs, x = .ref a ∧ H1 a = some (.ins C dx fs) ∧ fs.lookup m = none ∧ t σ H1 fun vs H2 => sp (.ref a :: (vs ++ dvs)) H2 Q (E σ)
def tMakeKW (C : Addr) (m : Nat) (sp : Sp) (gV : List V → List V → List V) (E : L2.St → XK) (tk : TA) : TE := fun σ H Q => tk σ H fun zs H2 => zs.length = m ∧ ∀ x dx, H2 x = none → H2 dx = none → dx ≠ x →
  sp (gV [.ref x] zs) (upd (upd H2 dx (.own x)) x (.ins C dx [])) (fun v H3 => v = .non ∧ Q (.ref x) H3) (E σ)
section
variable {X : Cx} {CX : CXT} {k : Nat} {f C : Addr} {fd : FuncData} {ps ks : List Str} {sp : Sp} {dvs : List V} {ds : List Value} {E : L2.St → XK} {x m : Str} {p pos apos : Pos} {e o : Expr} {es : List Expr} {kws : List Keyword} {ta : TE} {t tk : TA} {g : List Value → List Value → List Value} {gV : List V → List V → List V}
theorem pe_methW {pl : Sem Bool} (he : PE X o ta) (c : Cls X.K C) (hm : Meth X.K C m f) (F : FnOk X.prog X.w X.K X.mg X.base CX k f fd ps sp) (hr : Room k X.A) (hb : Binds X.K fd ps ds) (hd : Vals dvs ds) (hx : ∀ σ, PassesAt CX X σ (E σ)) (ha : PA X (e :: es) t)
    (hst : starEach (e :: es) X.env = (false, eval e X.env) :: starEach es X.env := by rfl) (hpl : (backTo pos (starEach es X.env)).any (·.1) = false := by rfl)
    (ht : eval (.Call (.Attribute o m apos) (e :: es) [] pos) X.env = (do
      let ov ← eval o X.env; standAt apos.atName; let (f, first) ← holding [ov] (getMethod ov m pl); callWith pos f first (backTo pos (starEach (e :: es) X.env)) (backToKw pos (keywordEach [] X.env))) := by rfl) :
    PE X (.Call (.Attribute o m apos) (e :: es) [] pos) (tMethW C m sp dvs E ta t) := by
  refine ⟨fun pins s σ H Q I h => ?_⟩
  refine PySem.W.methodCall_KW (pl := pl) (thn (he.run pins s σ H _ I h) fun u s1 ⟨x, H1, I1, rx, a, dx, fs, ex, ea, l, q⟩ => ?_) ht
  cases ex
  cases (show u = Value.ref a from rx)
  refine getmeth_ok I1 ea c hm l (PySem.W.callWith_K (first := [.ref a]) (h₀ := X.base) I.ok.mod.kin hm.kp (thn (ha.run pos pins s1 σ H1 _ I1 q) fun us s2 ⟨vs, H2, I2, r, q2⟩ => ⟨I2.kIn, ?_⟩) hst hpl)
  exact run_fnSD (E := E) (us := .ref a :: us) (vs := .ref a :: vs) F hr hb hd (hx σ) I2 (.cons rfl r) q2
theorem run_makeKW {pins : List (Addr × Obj)} {σ : L2.St} {H : Hp} {s : Shared} {Q : VK} {ws : List Value} {zs : List V} {E : XK} (M : Mk X.K C f) (F : FnOk X.prog X.w X.K X.mg X.base CX k f fd ps sp) (hr : Room (k + 1) X.A) (hb : KBn X.K fd ps 1 ks g gV) (hx : PassesAt CX X σ E)
    (I : Inv X pins σ H s) (rz : Vals zs ws) (l2 : zs.length = ks.length)
    (h : ∀ x dx, H x = none → H dx = none → dx ≠ x → sp (gV [.ref x] zs) (upd (upd H dx (.own x)) x (.ins C dx [])) (fun v H2 => v = .non ∧ Q (.ref x) H2) E) :
    wpAny (model X.prog X.w) X.A (call (.ref C) [] (ks.zip ws)) (EP X pins σ Q) X.xe s := by
  have I2 := Inv.made (C := C) I
  have r1 : Vals [V.ref (s.heap.objs.size + 1)] [Value.ref (s.heap.objs.size + 1)] := .cons rfl .nil
  have hq := h _ _ (I.hok.fresh (Nat.le_succ _)) (I.hok.fresh (Nat.le_refl _)) (Nat.ne_of_lt (Nat.lt_succ_self _))
  refine wpAny_call (make_map (f := f) I.kIn M.makes M.init (beq_iff_eq.mp M.fn) (codeAny_mono (F.run _ X.stack _ _ ⟨[Value.ref (s.heap.objs.size + 1)], ks.zip ws⟩ (g [Value.ref (s.heap.objs.size + 1)] ws) _ _ E (hr.make C [] (ks.zip ws))
    (I2.env0.make C [] (ks.zip ws)) (hb.to _ [Value.ref (s.heap.objs.size + 1)] ws I2.kIn rfl (rz.length.symm.trans l2)) (hb.rel r1 rz) hq) fun r s' hq' => ?_))
  rcases r with e | fl
  · exact hx pins _ _ e s' I2 hq'
  · cases fl with
    | ret u =>
      obtain ⟨v, H', I3, rv, ev, q3⟩ := I2.after hq'
      cases ev
      exact ⟨rv, ⟨V.ref (s.heap.objs.size + 1), H', I3, rfl, q3⟩⟩
    | _ => exact hq'.elim
theorem pe_makeKW (M : Mk X.K C f) (F : FnOk X.prog X.w X.K X.mg X.base CX k f fd ps sp) (hr : Room (k + 1) X.A) (hg : Gl X x) (hm : X.mg x = some (.ref C)) (hb : KBn X.K fd ps 1 ks g gV) (hx : ∀ σ, PassesAt CX X σ (E σ)) (hkw : PK X kws tk)
    (hall : (backToKw pos (keywordEach kws X.env)).all (·.1.isSome) = true := by rfl) (hks : (backToKw pos (keywordEach kws X.env)).filterMap (·.1) = ks := by rfl) (hdb : (x == ("__debug__" : Str)) = false := by decide)
    (hpl : ((backTo pos (starEach [] X.env)).any (·.1) || (backToKw pos (keywordEach kws X.env)).any (·.1.isNone)) = false := by rfl) :
    PE X (.Call (.Name x p) [] kws pos) (tMakeKW C ks.length sp gV E tk) := by
  refine ⟨fun pins s σ H Q I h => wpAny_Call_Name_kw (ld_glob I hg hm ?_ hdb)⟩
  refine PySem.W.callWith_KW0 (h₀ := X.base) I.ok.mod.kin M.kp hall (thn (hkw.run pos pins s σ H _ I h) fun ws s2 ⟨zs, H2, I2, rz, l2, q2⟩ => ⟨I2.kIn, ?_⟩) hpl
  rw [hks]
  exact run_makeKW M F hr hb (hx σ) I2 rz l2 q2
end
end Wn
namespace Wn
open PySem PySem.Spec PyProof.Rows L2 LamX He
/-! ### list(range(..)) -/
def rngV (lo : Int) (n : Nat) : List V := (List.range n).map fun k => .int (lo + (k : Nat))
def tListR (lo hi : Int) (n : Nat) (Q : VK) (H : Hp) : Prop := (-(2 ^ 62) ≤ lo ∧ lo < 2 ^ 62 ∧ -(2 ^ 62) ≤ hi ∧ hi < 2 ^ 62) ∧ (hi - lo).toNat ≤ 2 ^ 24 ∧ ∀ p, H p = none → Q (.ref p) (upd H p (.lst (rngV lo (hi - lo).toNat)))
def tListR1 (ta : TA) : TE := fun σ H Q => ta σ H fun vs H1 => ∃ j : Int, vs = [.int j] ∧ tListR 0 j 0 Q H1
def tListR2 (ta : TA) : TE := fun σ H Q => ta σ H fun vs H1 => ∃ i j : Int, vs = [.int i, .int j] ∧ tListR i j 0 Q H1
theorem vals_of : ∀ {xs : List V} {us : List Value}, xs.length = us.length → (∀ (k : Nat) v u, xs[k]? = some v → us[k]? = some u → L2.RelV v u) → Vals xs us
  | [], [], _, _ => .nil
  | _ :: _, [], h, _ => by cases h
  | [], _ :: _, h, _ => by cases h
  | x :: xs, u :: us, h, r => .cons (r 0 x u rfl rfl) (vals_of (Nat.succ.inj h) fun k v w e1 e2 => r (k + 1) v w e1 e2)
section
variable {X : Cx} {a b : Expr} {ta : TA} {p p2 pos pos2 : Pos}
theorem list_range_run {pins : List (Addr × Obj)} {σ : L2.St} {H : Hp} {s : Shared} {Q : VK} {lo hi : Int} {t u v : Tok} {tk : Nat} (hc : X.calm = true) (I : Inv X pins σ H s) (q : tListR lo hi 0 Q H) :
    wpAny (model X.prog X.w) X.A (call (.type "list") [.ref s.heap.objs.size]) (EP X pins σ Q) X.xe { s with heap := s.heap.push { cls := .type "range", data := .fields #[.int lo t, .int hi u, .int 1 v] }, toks := tk } := by
  obtain ⟨⟨h1, h2, h3, h4⟩, hz, q⟩ := q
  have I1 : Inv X pins σ H { s with heap := s.heap.push { cls := .type "range", data := .fields #[.int lo t, .int hi u, .int 1 v] }, toks := tk } := I.kept fun b o e => Heap.get?_push_of_some _ e
  have hn : Builtin.Range.rangeSize lo hi 1 = ((hi - lo).toNat : Nat) := by rw [rangeSize_one]; split <;> omega
  refine call_list_range (I.ok.hd hc) (IsRange.new ..) (small_one h1 h2 h3 h4) hn hz fun h' tk' acc c hk hD hI => ?_
  have rl : (rngV lo (hi - lo).toNat).length = (hi - lo).toNat := by unfold rngV; rw [List.length_map, List.length_range]
  have rv : Vals (rngV lo (hi - lo).toNat) acc.toList := vals_of (by rw [rl, Array.length_toList, hI.1]) fun k x y e1 e2 => by
    obtain ⟨t', ht⟩ := hI.2 k y (by rw [← e2, Array.getElem?_toList])
    unfold rngV at e1
    rw [List.getElem?_map] at e1
    cases e3 : (List.range (hi - lo).toNat)[k]? with
    | none => rw [e3] at e1; cases e1
    | some k' =>
      rw [e3] at e1
      cases e1
      have : k' = k := by
        obtain ⟨_, h⟩ := List.getElem?_eq_some_iff.mp e3
        simpa using h.symm
      subst this
      rw [ht, Int.mul_one]
      exact ⟨t', rfl⟩
  refine ⟨.ref _, _, I1.laid (t' := tk') hk (Nat.le_refl _) (show ObjOk X.prog X.w _ h' _ (.lst (rngV lo (hi - lo).toNat)) from ⟨by rw [rl]; exact hz, acc.toList, c, rv, by rw [Array.toArray_toList]; exact hD⟩), rfl, q _ (I1.hok.fresh (Nat.le_refl _))⟩
theorem pe_listR1 (hc : X.calm = true) (hg : Gl X "list") (hm : X.mg "list" = none) (hgr : Gl X "range") (hmr : X.mg "range" = none) (ha : PA X [a] ta) (hs : starEach [a] X.env = [(false, eval a X.env)] := by rfl)
    (hsl : starEach [.Call (.Name "range" p2) [a] [] pos2] X.env = [(false, eval (.Call (.Name "range" p2) [a] [] pos2) X.env)] := by rfl) :
    PE X (.Call (.Name "list" p) [.Call (.Name "range" p2) [a] [] pos2] [] pos) (tListR1 ta) := by
  refine ⟨fun pins s σ H Q I h => wpAny_Call_Name_kw (ld_blt I hg hm (show bootBuiltins "list" = some (.type "list") by decide +kernel) (PyProof.Rows.callWith_type1 ?_ hsl rfl))⟩
  rw [hsl]
  show wpAny _ _ (spliced ((false, eval (.Call (.Name "range" p2) [a] [] pos2) X.env) :: backTo pos [])) _ _ s
  refine Calls.spliced_cons (Call_ (ld_blt I hgr hmr boot_range (PyProof.Rows.callWith_type1 (thn (ha.run pos2 pins s σ H _ I h) fun us s1 ⟨vs, H1, I1, r1, j, e, q⟩ => ?_) hs rfl)))
  cases e
  obtain ⟨u1, rfl, t, rfl⟩ := vals1 r1
  exact call_range_1 (Calls.spliced_nil (list_range_run hc I1 q))
theorem pe_listR2 (hc : X.calm = true) (hg : Gl X "list") (hm : X.mg "list" = none) (hgr : Gl X "range") (hmr : X.mg "range" = none) (ha : PA X [a, b] ta) (hs : starEach [a, b] X.env = [(false, eval a X.env), (false, eval b X.env)] := by rfl) (hs2 : starEach [b] X.env = [(false, eval b X.env)] := by rfl)
    (hsl : starEach [.Call (.Name "range" p2) [a, b] [] pos2] X.env = [(false, eval (.Call (.Name "range" p2) [a, b] [] pos2) X.env)] := by rfl) :
    PE X (.Call (.Name "list" p) [.Call (.Name "range" p2) [a, b] [] pos2] [] pos) (tListR2 ta) := by
  refine ⟨fun pins s σ H Q I h => wpAny_Call_Name_kw (ld_blt I hg hm (show bootBuiltins "list" = some (.type "list") by decide +kernel) (PyProof.Rows.callWith_type1 ?_ hsl rfl))⟩
  rw [hsl]
  show wpAny _ _ (spliced ((false, eval (.Call (.Name "range" p2) [a, b] [] pos2) X.env) :: backTo pos [])) _ _ s
  refine Calls.spliced_cons (Call_ (ld_blt I hgr hmr boot_range (PyProof.Rows.callWith_type1 (thn (ha.run pos2 pins s σ H _ I h) fun us s1 ⟨vs, H1, I1, r1, i, j, e, q⟩ => ?_) (by rw [hs, hs2]) (by rw [hs2]; rfl))))
  cases e
  obtain ⟨u1, u2, rfl, ⟨t, rfl⟩, ⟨t', rfl⟩⟩ := vals2 r1
  exact call_range_2 (Calls.spliced_nil (list_range_run hc I1 q))
end
end Wn
namespace Wn
open PySem PySem.Spec PyProof.Rows L2 LamX He
/-! ### len(o), o an instance of an own class -/
def rLenO (C : Addr) (sp : Sp) : List V → Hp → VK → Prop := fun xs H Q => ∃ a dx fs, xs = [.ref a] ∧ H a = some (.ins C dx fs) ∧ sp [.ref a] H (fun v H' => ∃ n : Int, v = .int n ∧ 0 ≤ n ∧ n < 2 ^ 63 ∧ Q (.int n) H') E0
theorem call_lenO {X : Cx} {CX : CXT} {k : Nat} {C g : Addr} {fd : FuncData} {ps : List Str} {sp : Sp} (m : Meth X.K C "__len__" g) (F : FnOk X.prog X.w X.K X.mg X.base CX k g fd ps sp) (hr : Room (k + 1) X.A) (hb : Binds X.K fd ps [])
    (hx : ∀ (H : Hp) (s : Shared) (e : Value) (s' : Shared), CX X.stack H s E0 e s' → False) : CallR X (.builtin "len") (rLenO C sp) := by
  intro pins s σ H xs us Q I r h
  obtain ⟨a, dx, fs, rfl, ea, q⟩ := h
  obtain ⟨u, rfl, ru⟩ := vals1 r
  cases (show u = Value.ref a from ru)
  obtain ⟨mA, O, _, _, _, _⟩ := ins_get I.hok ea
  obtain ⟨od, J, _⟩ := O.look
  have hl : ([Value.ref a] ++ []).length = ps.length := by
    rw [← F.len _ _ _ _ q]
    rfl
  have rv : Vals [V.ref a] [Value.ref a] := .cons rfl .nil
  refine Calls.call_function_entry kind_len plain_len entry_len (args_len1 _) ?_
  unfold Builtin.«len»
  refine wpAny_bind (m := oneArg "len" _) (wpAny_pure ?_)
  refine wpAny_bind (m := callSpecial? (.ref a) (Str.ofString "__len__")) ?_
  unfold callSpecial? specialOf
  refine wpAny_bind (wpAny_bind (J.type.here ((PySem.W.looks_findIn I.kIn m.at_).here ?_)))
  refine wpAny_holding (wpAny_bind ?_)
  unfold bindSpecial
  refine wpAny_bind ((PySem.W.looks_typeIn I.kIn (beq_iff_eq.mp m.fn)).here ?_)
  rw [if_pos (by decide)]
  refine wpAny_pure (wpAny_bind (wpAny_call (codeAny_mono (F.run X.A.in1 X.stack s H ⟨[.ref a], []⟩ [.ref a] [.ref a] _ E0 hr.in1 I.env0.in1 (hb _ [.ref a] I.kIn hl) rv q) fun r s' hq => ?_)))
  rcases r with e | fl
  · exact (hx _ _ _ _ hq).elim
  · cases fl with
    | ret u =>
      obtain ⟨v, H', I3, rv3, n, rfl, h0, h1, q3⟩ := I.after hq
      obtain ⟨t, rfl⟩ := rv3
      refine wpAny_pure (wpAny_bind (wpAny_holding (wpAny_pure (wpAny_bind (wpAny_letGo ?_)))))
      show wpAny _ _ (if n < 0 then _ else _) _ _ _
      rw [if_neg (by omega)]
      show wpAny _ _ (if n ≥ 2 ^ 63 then _ else _) _ _ _
      rw [if_neg (by omega)]
      exact wpAny_bind (wpAny_mkInt (wpAny_pure ⟨_, rfl, .int n, H', I3.tok _, ⟨_, rfl⟩, q3⟩))
    | _ => exact hq.elim
/-- xs.append(e) where the known facts K are named -/
theorem pe_bmK {X : Cx} {T : String} {name : Str} {id : String} {r : V → List V → Hp → VK → Prop} {o e : Expr} {es : List Expr} {to : TE} {t : TA} {apos cpos : Pos} (K : PySem.W.Frag) (pa : PlainAttrs T) (slot : Slot T name id) (hty : typeOf (.builtin id) = pure (.type "method_descriptor")) (hm : MtR X id r) (ho : PE X o to) (ha : PA X (e :: es) t)
    (hbase : attributeBase o name X.env (eval o X.env) = eval o X.env := by rfl)
    (hfew : ((backTo cpos (starEach (e :: es) X.env)).all (fun x => !x.1) && (backToKw cpos (keywordEach [] X.env)).all (fun x => x.1.isSome) && decide ((e :: es).length + ([] : List Keyword).length + (if ([] : List Keyword).isEmpty then 0 else 1) < 30)) = true := by rfl)
    (hline : (apos.endLine == cpos.line) = true := by rfl) (hs : starEach (e :: es) X.env = (false, eval e X.env) :: starEach es X.env := by rfl) (hplain : (backTo cpos (starEach es X.env)).any (·.1) = false := by rfl) (hK : X.K = K := by rfl) :
    PE X (.Call (.Attribute o name apos) (e :: es) [] cpos) (tBM K T r to t) := by
  subst hK
  exact pe_bm pa slot hty hm ho ha hbase hfew hline hs hplain
theorem eqv_same {d : PyData} (h : SeqAt.shaped d = true) : PyData.eqv d d = true := SeqAt.eqv_refl d (Bool.and_eq_true_iff.mp h).1
end Wn
namespace Wn
open PySem PySem.Spec PyProof.Rows L2 LamX He
/-! ### the text by places -/
def top (i : Nat) : Stmt := PySem.Challenge.pw_waitnumbers_k23_limits_of_systems.main.body.getD i (.Pass ⟨0, 0, 0, 0⟩)
abbrev s_NoProcess___init__ : Stmt := inClass (top 2) 0
abbrev s_NotOpen___init__ : Stmt := inClass (top 3) 0
abbrev s_NotASource___init__ : Stmt := inClass (top 4) 0
abbrev s_BadCount___init__ : Stmt := inClass (top 5) 0
abbrev s_BadLimit___init__ : Stmt := inClass (top 6) 0
abbrev s_Full___init__ : Stmt := inClass (top 7) 0
abbrev s_NoRoom___init__ : Stmt := inClass (top 8) 0
abbrev s_is_integer : Stmt := top 13
abbrev s_is_between : Stmt := top 14
abbrev s_Source___init__ : Stmt := inClass (top 15) 0
abbrev s_Source_kind : Stmt := inClass (top 15) 1
abbrev s_Source_taken : Stmt := inClass (top 15) 3
abbrev s_WaitSet___init__ : Stmt := inClass (top 16) 0
abbrev s_WaitSet_kind : Stmt := inClass (top 16) 1
abbrev s_WaitSet_drop : Stmt := inClass (top 16) 5
abbrev s_WaitSet_forget : Stmt := inClass (top 16) 6
abbrev s_look_count : Stmt := top 21
abbrev s_System___init__ : Stmt := inClass (top 22) 2
abbrev s_System_limits : Stmt := inClass (top 22) 4
abbrev s_System_alive : Stmt := inClass (top 22) 5
abbrev s_System_table_of : Stmt := inClass (top 22) 6
abbrev s_System_serial_at : Stmt := inClass (top 22) 7
abbrev s_System_source_at : Stmt := inClass (top 22) 8
abbrev s_System_holders : Stmt := inClass (top 22) 10
abbrev s_System_name_of : Stmt := inClass (top 22) 11
abbrev s_System_set_serials : Stmt := inClass (top 22) 13
abbrev s_System_lowest_free : Stmt := inClass (top 22) 15
abbrev s_System_placed : Stmt := inClass (top 22) 16
abbrev s_System_new_source : Stmt := inClass (top 22) 17
abbrev s_System_new_set : Stmt := inClass (top 22) 18
abbrev s_System_close : Stmt := inClass (top 22) 20
abbrev s_System_fork : Stmt := inClass (top 22) 21
abbrev s_System_read : Stmt := inClass (top 22) 26
abbrev s_System_numbers : Stmt := inClass (top 22) 32
abbrev s_System_same : Stmt := inClass (top 22) 33
abbrev s_System_units : Stmt := inClass (top 22) 34
abbrev s_System_name : Stmt := inClass (top 22) 35
abbrev s_System_registrations : Stmt := inClass (top 22) 37
abbrev s_System___eq__ : Stmt := inClass (top 22) 44
abbrev s_System___len__ : Stmt := inClass (top 22) 45
abbrev s_System___contains__ : Stmt := inClass (top 22) 46
abbrev s_System___repr__ : Stmt := inClass (top 22) 47
abbrev s_picture_of : Stmt := top 23
abbrev s__law_bag : Stmt := top 25
abbrev s__law_take : Stmt := top 26
abbrev s__law_of : Stmt := top 27
abbrev s__law_object : Stmt := top 28
abbrev s__law_is_from : Stmt := top 29
abbrev s__law_refused : Stmt := top 30
abbrev s__law_fills : Stmt := top 31
abbrev s_law : Stmt := top 32
/-! ### what the walk asks of the top -/
structure Tx (K : PySem.W.Frag) (mg : Str → Option Value) : Prop where
  g_BadCount : mg "BadCount" = some (.ref (ga K "BadCount"))
  g_BadLimit : mg "BadLimit" = some (.ref (ga K "BadLimit"))
  g_Full : mg "Full" = some (.ref (ga K "Full"))
  i_LEAST_NUMBERS : ∃ t, mg "LEAST_NUMBERS" = some (.int 3 t)
  i_LEAST_PROCESSES : ∃ t, mg "LEAST_PROCESSES" = some (.int 2 t)
  i_MOST_COUNT : ∃ t, mg "MOST_COUNT" = some (.int 1000000 t)
  g_NoProcess : mg "NoProcess" = some (.ref (ga K "NoProcess"))
  g_NoRoom : mg "NoRoom" = some (.ref (ga K "NoRoom"))
  g_NotASource : mg "NotASource" = some (.ref (ga K "NotASource"))
  g_NotOpen : mg "NotOpen" = some (.ref (ga K "NotOpen"))
  free_OverflowError : mg "OverflowError" = none
  t_SET : ∃ t, mg "SET" = some (.str "set" t)
  t_SOURCE : ∃ t, mg "SOURCE" = some (.str "source" t)
  g_Source : mg "Source" = some (.ref (ga K "Source"))
  g_System : mg "System" = some (.ref (ga K "System"))
  free_ValueError : mg "ValueError" = none
  g_WaitSet : mg "WaitSet" = some (.ref (ga K "WaitSet"))
  g__law_bag : mg "_law_bag" = some (.ref (ga K "_law_bag"))
  g__law_fills : mg "_law_fills" = some (.ref (ga K "_law_fills"))
  g__law_is_from : mg "_law_is_from" = some (.ref (ga K "_law_is_from"))
  g__law_object : mg "_law_object" = some (.ref (ga K "_law_object"))
  g__law_of : mg "_law_of" = some (.ref (ga K "_law_of"))
  g__law_refused : mg "_law_refused" = some (.ref (ga K "_law_refused"))
  g__law_take : mg "_law_take" = some (.ref (ga K "_law_take"))
  free_abs : mg "abs" = none
  free_bool : mg "bool" = none
  free_enumerate : mg "enumerate" = none
  free_int : mg "int" = none
  g_is_between : mg "is_between" = some (.ref (ga K "is_between"))
  g_is_integer : mg "is_integer" = some (.ref (ga K "is_integer"))
  free_isinstance : mg "isinstance" = none
  g_law : mg "law" = some (.ref (ga K "law"))
  free_len : mg "len" = none
  free_list : mg "list" = none
  g_look_count : mg "look_count" = some (.ref (ga K "look_count"))
  free_max : mg "max" = none
  free_min : mg "min" = none
  g_picture_of : mg "picture_of" = some (.ref (ga K "picture_of"))
  free_range : mg "range" = none
  free_repr : mg "repr" = none
  free_sorted : mg "sorted" = none
  x_NoProcess : XT K "NoProcess" "LookupError" "LookupError.__new__" "LookupError.__init__" [.type "LookupError", .type "Exception", .type "BaseException", .type "object"] ["caption", "process"]
  o_NoProcess : PySem.W.mroIn K (ga K "NoProcess") (.type "object") = some true
  x_NotOpen : XT K "NotOpen" "LookupError" "LookupError.__new__" "LookupError.__init__" [.type "LookupError", .type "Exception", .type "BaseException", .type "object"] ["caption", "number"]
  o_NotOpen : PySem.W.mroIn K (ga K "NotOpen") (.type "object") = some true
  x_NotASource : XT K "NotASource" "TypeError" "TypeError.__new__" "TypeError.__init__" [.type "TypeError", .type "Exception", .type "BaseException", .type "object"] ["caption", "number"]
  o_NotASource : PySem.W.mroIn K (ga K "NotASource") (.type "object") = some true
  x_BadCount : XT K "BadCount" "ValueError" "ValueError.__new__" "ValueError.__init__" [.type "ValueError", .type "Exception", .type "BaseException", .type "object"] ["caption", "count"]
  o_BadCount : PySem.W.mroIn K (ga K "BadCount") (.type "object") = some true
  x_BadLimit : XT K "BadLimit" "ValueError" "ValueError.__new__" "ValueError.__init__" [.type "ValueError", .type "Exception", .type "BaseException", .type "object"] ["caption", "limit"]
  o_BadLimit : PySem.W.mroIn K (ga K "BadLimit") (.type "object") = some true
  x_Full : XT K "Full" "OverflowError" "OverflowError.__new__" "OverflowError.__init__" [.type "OverflowError", .type "ArithmeticError", .type "Exception", .type "BaseException", .type "object"] ["caption", "process"]
  o_Full : PySem.W.mroIn K (ga K "Full") (.type "object") = some true
  x_NoRoom : XT K "NoRoom" "OverflowError" "OverflowError.__new__" "OverflowError.__init__" [.type "OverflowError", .type "ArithmeticError", .type "Exception", .type "BaseException", .type "object"] ["caption"]
  o_NoRoom : PySem.W.mroIn K (ga K "NoRoom") (.type "object") = some true
  c_Source : Cls K (ga K "Source")
  ci_Source : PySem.W.findIn K (.ref (ga K "Source")) "__class__" = some (some (.builtin "object.__class__"))
  o_Source : PySem.W.mroIn K (ga K "Source") (.type "object") = some true
  n_Source_unread : NoAttr K (ga K "Source") "unread"
  n_Source_finished : NoAttr K (ga K "Source") "finished"
  k_Source : Mk K (ga K "Source") (mA "Source" "__init__" K)
  c_WaitSet : Cls K (ga K "WaitSet")
  ci_WaitSet : PySem.W.findIn K (.ref (ga K "WaitSet")) "__class__" = some (some (.builtin "object.__class__"))
  o_WaitSet : PySem.W.mroIn K (ga K "WaitSet") (.type "object") = some true
  n_WaitSet_entries : NoAttr K (ga K "WaitSet") "entries"
  n_WaitSet_row : NoAttr K (ga K "WaitSet") "row"
  k_WaitSet : Mk K (ga K "WaitSet") (mA "WaitSet" "__init__" K)
  c_System : Cls K (ga K "System")
  ci_System : PySem.W.findIn K (.ref (ga K "System")) "__class__" = some (some (.builtin "object.__class__"))
  o_System : PySem.W.mroIn K (ga K "System") (.type "object") = some true
  n_System_process_limit : NoAttr K (ga K "System") "process_limit"
  n_System_number_limit : NoAttr K (ga K "System") "number_limit"
  n_System_tables : NoAttr K (ga K "System") "tables"
  n_System_things : NoAttr K (ga K "System") "things"
  n_System_serials_made : NoAttr K (ga K "System") "serials_made"
  k_System : Mk K (ga K "System") (mA "System" "__init__" K)
  v_System_MOST_PROCESSES : ClX.CRead K (ga K "System") (.type "type") ∧ ∃ u, ClX.CVal K (ga K "System") (.type "type") "MOST_PROCESSES" (Dv.v K (.int 6)) u
  v_System_MOST_NUMBERS : ClX.CRead K (ga K "System") (.type "type") ∧ ∃ u, ClX.CVal K (ga K "System") (.type "type") "MOST_NUMBERS" (Dv.v K (.int 8)) u
  p_Source_kind : PropOf K (ga K "Source") "kind" (mA "Source" "kind" K) (pA "Source" "kind" K)
  m_Source_taken : Meth K (ga K "Source") "taken" (mA "Source" "taken" K)
  p_WaitSet_kind : PropOf K (ga K "WaitSet") "kind" (mA "WaitSet" "kind" K) (pA "WaitSet" "kind" K)
  m_WaitSet_drop : Meth K (ga K "WaitSet") "drop" (mA "WaitSet" "drop" K)
  m_WaitSet_forget : Meth K (ga K "WaitSet") "forget" (mA "WaitSet" "forget" K)
  p_System_limits : PropOf K (ga K "System") "limits" (mA "System" "limits" K) (pA "System" "limits" K)
  m_System_alive : Meth K (ga K "System") "alive" (mA "System" "alive" K)
  m_System_table_of : Meth K (ga K "System") "table_of" (mA "System" "table_of" K)
  m_System_serial_at : Meth K (ga K "System") "serial_at" (mA "System" "serial_at" K)
  m_System_source_at : Meth K (ga K "System") "source_at" (mA "System" "source_at" K)
  m_System_holders : Meth K (ga K "System") "holders" (mA "System" "holders" K)
  m_System_name_of : Meth K (ga K "System") "name_of" (mA "System" "name_of" K)
  m_System_set_serials : Meth K (ga K "System") "set_serials" (mA "System" "set_serials" K)
  m_System_lowest_free : Meth K (ga K "System") "lowest_free" (mA "System" "lowest_free" K)
  m_System_placed : Meth K (ga K "System") "placed" (mA "System" "placed" K)
  m_System_new_source : Meth K (ga K "System") "new_source" (mA "System" "new_source" K)
  m_System_new_set : Meth K (ga K "System") "new_set" (mA "System" "new_set" K)
  m_System_close : Meth K (ga K "System") "close" (mA "System" "close" K)
  m_System_fork : Meth K (ga K "System") "fork" (mA "System" "fork" K)
  m_System_read : Meth K (ga K "System") "read" (mA "System" "read" K)
  m_System_numbers : Meth K (ga K "System") "numbers" (mA "System" "numbers" K)
  m_System_same : Meth K (ga K "System") "same" (mA "System" "same" K)
  m_System_units : Meth K (ga K "System") "units" (mA "System" "units" K)
  m_System_name : Meth K (ga K "System") "name" (mA "System" "name" K)
  m_System_registrations : Meth K (ga K "System") "registrations" (mA "System" "registrations" K)
  m_System___eq__ : Meth K (ga K "System") "__eq__" (mA "System" "__eq__" K)
  m_System___len__ : Meth K (ga K "System") "__len__" (mA "System" "__len__" K)
  m_System___contains__ : Meth K (ga K "System") "__contains__" (mA "System" "__contains__" K)
  m_System___repr__ : Meth K (ga K "System") "__repr__" (mA "System" "__repr__" K)
  bm_System_name_of : PySem.W.specialIn K (.ref (mA "System" "name_of" K)) "__get__" = some (some (.builtin "function.__get__")) ∧ PySem.W.takesIn K (.ref (mA "System" "name_of" K)) = some false ∧ PySem.W.fnIn K (mA "System" "name_of" K) = true
  q_NoProcess_OverflowError : PySem.W.kitOne K (.ref (ga K "NoProcess")) (.type "OverflowError") = some false
  q_NotOpen_OverflowError : PySem.W.kitOne K (.ref (ga K "NotOpen")) (.type "OverflowError") = some false
  q_NotASource_OverflowError : PySem.W.kitOne K (.ref (ga K "NotASource")) (.type "OverflowError") = some false
  q_BadCount_OverflowError : PySem.W.kitOne K (.ref (ga K "BadCount")) (.type "OverflowError") = some false
  q_BadLimit_OverflowError : PySem.W.kitOne K (.ref (ga K "BadLimit")) (.type "OverflowError") = some false
  q_Full_OverflowError : PySem.W.kitOne K (.ref (ga K "Full")) (.type "OverflowError") = some true
  q_NoRoom_OverflowError : PySem.W.kitOne K (.ref (ga K "NoRoom")) (.type "OverflowError") = some true
  q_Source_Source : PySem.W.kitOne K (.ref (ga K "Source")) (.ref (ga K "Source")) = some true
  q_WaitSet_Source : PySem.W.kitOne K (.ref (ga K "WaitSet")) (.ref (ga K "Source")) = some false
  q_System_Source : PySem.W.kitOne K (.ref (ga K "System")) (.ref (ga K "Source")) = some false
  q_Source_System : PySem.W.kitOne K (.ref (ga K "Source")) (.ref (ga K "System")) = some false
  q_WaitSet_System : PySem.W.kitOne K (.ref (ga K "WaitSet")) (.ref (ga K "System")) = some false
  q_System_System : PySem.W.kitOne K (.ref (ga K "System")) (.ref (ga K "System")) = some true
  q_NoProcess_ValueError : PySem.W.kitOne K (.ref (ga K "NoProcess")) (.type "ValueError") = some false
  q_NotOpen_ValueError : PySem.W.kitOne K (.ref (ga K "NotOpen")) (.type "ValueError") = some false
  q_NotASource_ValueError : PySem.W.kitOne K (.ref (ga K "NotASource")) (.type "ValueError") = some false
  q_BadCount_ValueError : PySem.W.kitOne K (.ref (ga K "BadCount")) (.type "ValueError") = some true
  q_BadLimit_ValueError : PySem.W.kitOne K (.ref (ga K "BadLimit")) (.type "ValueError") = some true
  q_Full_ValueError : PySem.W.kitOne K (.ref (ga K "Full")) (.type "ValueError") = some false
  q_NoRoom_ValueError : PySem.W.kitOne K (.ref (ga K "NoRoom")) (.type "ValueError") = some false
  q_Source_WaitSet : PySem.W.kitOne K (.ref (ga K "Source")) (.ref (ga K "WaitSet")) = some false
  q_WaitSet_WaitSet : PySem.W.kitOne K (.ref (ga K "WaitSet")) (.ref (ga K "WaitSet")) = some true
  q_System_WaitSet : PySem.W.kitOne K (.ref (ga K "System")) (.ref (ga K "WaitSet")) = some false
  e_NoProcess_BadLimit : PySem.W.exmOne K (.ref (ga K "NoProcess")) (.ref (ga K "BadLimit")) = some false
  e_NotOpen_BadLimit : PySem.W.exmOne K (.ref (ga K "NotOpen")) (.ref (ga K "BadLimit")) = some false
  e_NotASource_BadLimit : PySem.W.exmOne K (.ref (ga K "NotASource")) (.ref (ga K "BadLimit")) = some false
  e_BadCount_BadLimit : PySem.W.exmOne K (.ref (ga K "BadCount")) (.ref (ga K "BadLimit")) = some false
  e_BadLimit_BadLimit : PySem.W.exmOne K (.ref (ga K "BadLimit")) (.ref (ga K "BadLimit")) = some true
  e_Full_BadLimit : PySem.W.exmOne K (.ref (ga K "Full")) (.ref (ga K "BadLimit")) = some false
  e_NoRoom_BadLimit : PySem.W.exmOne K (.ref (ga K "NoRoom")) (.ref (ga K "BadLimit")) = some false
  e_NoProcess_Full : PySem.W.exmOne K (.ref (ga K "NoProcess")) (.ref (ga K "Full")) = some false
  e_NotOpen_Full : PySem.W.exmOne K (.ref (ga K "NotOpen")) (.ref (ga K "Full")) = some false
  e_NotASource_Full : PySem.W.exmOne K (.ref (ga K "NotASource")) (.ref (ga K "Full")) = some false
  e_BadCount_Full : PySem.W.exmOne K (.ref (ga K "BadCount")) (.ref (ga K "Full")) = some false
  e_BadLimit_Full : PySem.W.exmOne K (.ref (ga K "BadLimit")) (.ref (ga K "Full")) = some false
  e_Full_Full : PySem.W.exmOne K (.ref (ga K "Full")) (.ref (ga K "Full")) = some true
  e_NoRoom_Full : PySem.W.exmOne K (.ref (ga K "NoRoom")) (.ref (ga K "Full")) = some false
  e_NoProcess_NoRoom : PySem.W.exmOne K (.ref (ga K "NoProcess")) (.ref (ga K "NoRoom")) = some false
  e_NotOpen_NoRoom : PySem.W.exmOne K (.ref (ga K "NotOpen")) (.ref (ga K "NoRoom")) = some false
  e_NotASource_NoRoom : PySem.W.exmOne K (.ref (ga K "NotASource")) (.ref (ga K "NoRoom")) = some false
  e_BadCount_NoRoom : PySem.W.exmOne K (.ref (ga K "BadCount")) (.ref (ga K "NoRoom")) = some false
  e_BadLimit_NoRoom : PySem.W.exmOne K (.ref (ga K "BadLimit")) (.ref (ga K "NoRoom")) = some false
  e_Full_NoRoom : PySem.W.exmOne K (.ref (ga K "Full")) (.ref (ga K "NoRoom")) = some false
  e_NoRoom_NoRoom : PySem.W.exmOne K (.ref (ga K "NoRoom")) (.ref (ga K "NoRoom")) = some true
  f_NoProcess___init__ : FD K "__init__" "NoProcess.__init__" s_NoProcess___init__ [] [] (mA "NoProcess" "__init__" K)
  f_NotOpen___init__ : FD K "__init__" "NotOpen.__init__" s_NotOpen___init__ [] [] (mA "NotOpen" "__init__" K)
  f_NotASource___init__ : FD K "__init__" "NotASource.__init__" s_NotASource___init__ [] [] (mA "NotASource" "__init__" K)
  f_BadCount___init__ : FD K "__init__" "BadCount.__init__" s_BadCount___init__ [] [] (mA "BadCount" "__init__" K)
  f_BadLimit___init__ : FD K "__init__" "BadLimit.__init__" s_BadLimit___init__ [] [] (mA "BadLimit" "__init__" K)
  f_Full___init__ : FD K "__init__" "Full.__init__" s_Full___init__ [] [] (mA "Full" "__init__" K)
  f_NoRoom___init__ : FD K "__init__" "NoRoom.__init__" s_NoRoom___init__ [] [] (mA "NoRoom" "__init__" K)
  f_is_integer : FD K "is_integer" "is_integer" s_is_integer [] [] (gA "is_integer" K)
  f_is_between : FD K "is_between" "is_between" s_is_between [] [] (gA "is_between" K)
  f_Source___init__ : FD K "__init__" "Source.__init__" s_Source___init__ [.int 0, .bl false] [] (mA "Source" "__init__" K)
  f_Source_kind : FD K "kind" "Source.kind" s_Source_kind [] [] (pA "Source" "kind" K)
  f_Source_taken : FD K "taken" "Source.taken" s_Source_taken [] [] (mA "Source" "taken" K)
  f_WaitSet___init__ : FD K "__init__" "WaitSet.__init__" s_WaitSet___init__ [] [] (mA "WaitSet" "__init__" K)
  f_WaitSet_kind : FD K "kind" "WaitSet.kind" s_WaitSet_kind [] [] (pA "WaitSet" "kind" K)
  f_WaitSet_drop : FD K "drop" "WaitSet.drop" s_WaitSet_drop [] [] (mA "WaitSet" "drop" K)
  f_WaitSet_forget : FD K "forget" "WaitSet.forget" s_WaitSet_forget [] [] (mA "WaitSet" "forget" K)
  f_look_count : FD K "look_count" "look_count" s_look_count [] [] (gA "look_count" K)
  f_System___init__ : FD K "__init__" "System.__init__" s_System___init__ [] [("processes", .int 4), ("numbers", .int 8)] (mA "System" "__init__" K)
  f_System_limits : FD K "limits" "System.limits" s_System_limits [] [] (pA "System" "limits" K)
  f_System_alive : FD K "alive" "System.alive" s_System_alive [] [] (mA "System" "alive" K)
  f_System_table_of : FD K "table_of" "System.table_of" s_System_table_of [] [] (mA "System" "table_of" K)
  f_System_serial_at : FD K "serial_at" "System.serial_at" s_System_serial_at [] [] (mA "System" "serial_at" K)
  f_System_source_at : FD K "source_at" "System.source_at" s_System_source_at [] [] (mA "System" "source_at" K)
  f_System_holders : FD K "holders" "System.holders" s_System_holders [] [] (mA "System" "holders" K)
  f_System_name_of : FD K "name_of" "System.name_of" s_System_name_of [] [] (mA "System" "name_of" K)
  f_System_set_serials : FD K "set_serials" "System.set_serials" s_System_set_serials [] [] (mA "System" "set_serials" K)
  f_System_lowest_free : FD K "lowest_free" "System.lowest_free" s_System_lowest_free [] [] (mA "System" "lowest_free" K)
  f_System_placed : FD K "placed" "System.placed" s_System_placed [] [] (mA "System" "placed" K)
  f_System_new_source : FD K "new_source" "System.new_source" s_System_new_source [] [] (mA "System" "new_source" K)
  f_System_new_set : FD K "new_set" "System.new_set" s_System_new_set [] [] (mA "System" "new_set" K)
  f_System_close : FD K "close" "System.close" s_System_close [] [] (mA "System" "close" K)
  f_System_fork : FD K "fork" "System.fork" s_System_fork [] [] (mA "System" "fork" K)
  f_System_read : FD K "read" "System.read" s_System_read [.non] [] (mA "System" "read" K)
  f_System_numbers : FD K "numbers" "System.numbers" s_System_numbers [] [] (mA "System" "numbers" K)
  f_System_same : FD K "same" "System.same" s_System_same [] [] (mA "System" "same" K)
  f_System_units : FD K "units" "System.units" s_System_units [] [] (mA "System" "units" K)
  f_System_name : FD K "name" "System.name" s_System_name [] [] (mA "System" "name" K)
  f_System_registrations : FD K "registrations" "System.registrations" s_System_registrations [] [] (mA "System" "registrations" K)
  f_System___eq__ : FD K "__eq__" "System.__eq__" s_System___eq__ [] [] (mA "System" "__eq__" K)
  f_System___len__ : FD K "__len__" "System.__len__" s_System___len__ [] [] (mA "System" "__len__" K)
  f_System___contains__ : FD K "__contains__" "System.__contains__" s_System___contains__ [] [] (mA "System" "__contains__" K)
  f_System___repr__ : FD K "__repr__" "System.__repr__" s_System___repr__ [] [] (mA "System" "__repr__" K)
  f_picture_of : FD K "picture_of" "picture_of" s_picture_of [] [] (gA "picture_of" K)
  f__law_bag : FD K "_law_bag" "_law_bag" s__law_bag [] [] (gA "_law_bag" K)
  f__law_take : FD K "_law_take" "_law_take" s__law_take [] [] (gA "_law_take" K)
  f__law_of : FD K "_law_of" "_law_of" s__law_of [] [] (gA "_law_of" K)
  f__law_object : FD K "_law_object" "_law_object" s__law_object [] [] (gA "_law_object" K)
  f__law_is_from : FD K "_law_is_from" "_law_is_from" s__law_is_from [] [] (gA "_law_is_from" K)
  f__law_refused : FD K "_law_refused" "_law_refused" s__law_refused [] [] (gA "_law_refused" K)
  f__law_fills : FD K "_law_fills" "_law_fills" s__law_fills [] [] (gA "_law_fills" K)
  f_law : FD K "law" "law" s_law [] [] (gA "law" K)
def fcL : List Fc := [
  .fa (.glo "BadCount"),
  .fa (.glo "BadLimit"),
  .fa (.glo "Full"),
  .fa (.int "LEAST_NUMBERS" 3),
  .fa (.int "LEAST_PROCESSES" 2),
  .fa (.int "MOST_COUNT" 1000000),
  .fa (.glo "NoProcess"),
  .fa (.glo "NoRoom"),
  .fa (.glo "NotASource"),
  .fa (.glo "NotOpen"),
  .fa (.free "OverflowError"),
  .fa (.str "SET" "set"),
  .fa (.str "SOURCE" "source"),
  .fa (.glo "Source"),
  .fa (.glo "System"),
  .fa (.free "ValueError"),
  .fa (.glo "WaitSet"),
  .fa (.glo "_law_bag"),
  .fa (.glo "_law_fills"),
  .fa (.glo "_law_is_from"),
  .fa (.glo "_law_object"),
  .fa (.glo "_law_of"),
  .fa (.glo "_law_refused"),
  .fa (.glo "_law_take"),
  .fa (.free "abs"),
  .fa (.free "bool"),
  .fa (.free "enumerate"),
  .fa (.free "int"),
  .fa (.glo "is_between"),
  .fa (.glo "is_integer"),
  .fa (.free "isinstance"),
  .fa (.glo "law"),
  .fa (.free "len"),
  .fa (.free "list"),
  .fa (.glo "look_count"),
  .fa (.free "max"),
  .fa (.free "min"),
  .fa (.glo "picture_of"),
  .fa (.free "range"),
  .fa (.free "repr"),
  .fa (.free "sorted"),
  .exc "NoProcess" [.type "LookupError", .type "Exception", .type "BaseException", .type "object"] "LookupError.__new__" ["caption", "process"],
  .mro "NoProcess",
  .exc "NotOpen" [.type "LookupError", .type "Exception", .type "BaseException", .type "object"] "LookupError.__new__" ["caption", "number"],
  .mro "NotOpen",
  .exc "NotASource" [.type "TypeError", .type "Exception", .type "BaseException", .type "object"] "TypeError.__new__" ["caption", "number"],
  .mro "NotASource",
  .exc "BadCount" [.type "ValueError", .type "Exception", .type "BaseException", .type "object"] "ValueError.__new__" ["caption", "count"],
  .mro "BadCount",
  .exc "BadLimit" [.type "ValueError", .type "Exception", .type "BaseException", .type "object"] "ValueError.__new__" ["caption", "limit"],
  .mro "BadLimit",
  .exc "Full" [.type "OverflowError", .type "ArithmeticError", .type "Exception", .type "BaseException", .type "object"] "OverflowError.__new__" ["caption", "process"],
  .mro "Full",
  .exc "NoRoom" [.type "OverflowError", .type "ArithmeticError", .type "Exception", .type "BaseException", .type "object"] "OverflowError.__new__" ["caption"],
  .mro "NoRoom",
  .fa (.cls "Source"),
  .ins "Source",
  .mro "Source",
  .fa (.noat "Source" "unread"),
  .fa (.noat "Source" "finished"),
  .fa (.mkr "Source"),
  .fa (.cls "WaitSet"),
  .ins "WaitSet",
  .mro "WaitSet",
  .fa (.noat "WaitSet" "entries"),
  .fa (.noat "WaitSet" "row"),
  .fa (.mkr "WaitSet"),
  .fa (.cls "System"),
  .ins "System",
  .mro "System",
  .fa (.noat "System" "process_limit"),
  .fa (.noat "System" "number_limit"),
  .fa (.noat "System" "tables"),
  .fa (.noat "System" "things"),
  .fa (.noat "System" "serials_made"),
  .fa (.mkr "System"),
  .cval "System" "MOST_PROCESSES" (.int 6),
  .cval "System" "MOST_NUMBERS" (.int 8),
  .prop "Source" "kind",
  .fa (.meth "Source" "taken"),
  .prop "WaitSet" "kind",
  .fa (.meth "WaitSet" "drop"),
  .fa (.meth "WaitSet" "forget"),
  .prop "System" "limits",
  .fa (.meth "System" "alive"),
  .fa (.meth "System" "table_of"),
  .fa (.meth "System" "serial_at"),
  .fa (.meth "System" "source_at"),
  .fa (.meth "System" "holders"),
  .fa (.meth "System" "name_of"),
  .fa (.meth "System" "set_serials"),
  .fa (.meth "System" "lowest_free"),
  .fa (.meth "System" "placed"),
  .fa (.meth "System" "new_source"),
  .fa (.meth "System" "new_set"),
  .fa (.meth "System" "close"),
  .fa (.meth "System" "fork"),
  .fa (.meth "System" "read"),
  .fa (.meth "System" "numbers"),
  .fa (.meth "System" "same"),
  .fa (.meth "System" "units"),
  .fa (.meth "System" "name"),
  .fa (.meth "System" "registrations"),
  .fa (.meth "System" "__eq__"),
  .fa (.meth "System" "__len__"),
  .fa (.meth "System" "__contains__"),
  .fa (.meth "System" "__repr__"),
  .bmt "System" "name_of",
  .sub "NoProcess" "OverflowError" false,
  .sub "NotOpen" "OverflowError" false,
  .sub "NotASource" "OverflowError" false,
  .sub "BadCount" "OverflowError" false,
  .sub "BadLimit" "OverflowError" false,
  .sub "Full" "OverflowError" true,
  .sub "NoRoom" "OverflowError" true,
  .isc "Source" "Source" true,
  .isc "WaitSet" "Source" false,
  .isc "System" "Source" false,
  .isc "Source" "System" false,
  .isc "WaitSet" "System" false,
  .isc "System" "System" true,
  .sub "NoProcess" "ValueError" false,
  .sub "NotOpen" "ValueError" false,
  .sub "NotASource" "ValueError" false,
  .sub "BadCount" "ValueError" true,
  .sub "BadLimit" "ValueError" true,
  .sub "Full" "ValueError" false,
  .sub "NoRoom" "ValueError" false,
  .isc "Source" "WaitSet" false,
  .isc "WaitSet" "WaitSet" true,
  .isc "System" "WaitSet" false,
  .fa (.exm "NoProcess" "BadLimit" false),
  .fa (.exm "NotOpen" "BadLimit" false),
  .fa (.exm "NotASource" "BadLimit" false),
  .fa (.exm "BadCount" "BadLimit" false),
  .fa (.exm "BadLimit" "BadLimit" true),
  .fa (.exm "Full" "BadLimit" false),
  .fa (.exm "NoRoom" "BadLimit" false),
  .fa (.exm "NoProcess" "Full" false),
  .fa (.exm "NotOpen" "Full" false),
  .fa (.exm "NotASource" "Full" false),
  .fa (.exm "BadCount" "Full" false),
  .fa (.exm "BadLimit" "Full" false),
  .fa (.exm "Full" "Full" true),
  .fa (.exm "NoRoom" "Full" false),
  .fa (.exm "NoProcess" "NoRoom" false),
  .fa (.exm "NotOpen" "NoRoom" false),
  .fa (.exm "NotASource" "NoRoom" false),
  .fa (.exm "BadCount" "NoRoom" false),
  .fa (.exm "BadLimit" "NoRoom" false),
  .fa (.exm "Full" "NoRoom" false),
  .fa (.exm "NoRoom" "NoRoom" true)]
def fwL : List DefW := [
  ⟨(mA "NoProcess" "__init__"), "__init__", "NoProcess.__init__", s_NoProcess___init__, [], []⟩,
  ⟨(mA "NotOpen" "__init__"), "__init__", "NotOpen.__init__", s_NotOpen___init__, [], []⟩,
  ⟨(mA "NotASource" "__init__"), "__init__", "NotASource.__init__", s_NotASource___init__, [], []⟩,
  ⟨(mA "BadCount" "__init__"), "__init__", "BadCount.__init__", s_BadCount___init__, [], []⟩,
  ⟨(mA "BadLimit" "__init__"), "__init__", "BadLimit.__init__", s_BadLimit___init__, [], []⟩,
  ⟨(mA "Full" "__init__"), "__init__", "Full.__init__", s_Full___init__, [], []⟩,
  ⟨(mA "NoRoom" "__init__"), "__init__", "NoRoom.__init__", s_NoRoom___init__, [], []⟩,
  ⟨(gA "is_integer"), "is_integer", "is_integer", s_is_integer, [], []⟩,
  ⟨(gA "is_between"), "is_between", "is_between", s_is_between, [], []⟩,
  ⟨(mA "Source" "__init__"), "__init__", "Source.__init__", s_Source___init__, [.int 0, .bl false], []⟩,
  ⟨(pA "Source" "kind"), "kind", "Source.kind", s_Source_kind, [], []⟩,
  ⟨(mA "Source" "taken"), "taken", "Source.taken", s_Source_taken, [], []⟩,
  ⟨(mA "WaitSet" "__init__"), "__init__", "WaitSet.__init__", s_WaitSet___init__, [], []⟩,
  ⟨(pA "WaitSet" "kind"), "kind", "WaitSet.kind", s_WaitSet_kind, [], []⟩,
  ⟨(mA "WaitSet" "drop"), "drop", "WaitSet.drop", s_WaitSet_drop, [], []⟩,
  ⟨(mA "WaitSet" "forget"), "forget", "WaitSet.forget", s_WaitSet_forget, [], []⟩,
  ⟨(gA "look_count"), "look_count", "look_count", s_look_count, [], []⟩,
  ⟨(mA "System" "__init__"), "__init__", "System.__init__", s_System___init__, [], [("processes", .int 4), ("numbers", .int 8)]⟩,
  ⟨(pA "System" "limits"), "limits", "System.limits", s_System_limits, [], []⟩,
  ⟨(mA "System" "alive"), "alive", "System.alive", s_System_alive, [], []⟩,
  ⟨(mA "System" "table_of"), "table_of", "System.table_of", s_System_table_of, [], []⟩,
  ⟨(mA "System" "serial_at"), "serial_at", "System.serial_at", s_System_serial_at, [], []⟩,
  ⟨(mA "System" "source_at"), "source_at", "System.source_at", s_System_source_at, [], []⟩,
  ⟨(mA "System" "holders"), "holders", "System.holders", s_System_holders, [], []⟩,
  ⟨(mA "System" "name_of"), "name_of", "System.name_of", s_System_name_of, [], []⟩,
  ⟨(mA "System" "set_serials"), "set_serials", "System.set_serials", s_System_set_serials, [], []⟩,
  ⟨(mA "System" "lowest_free"), "lowest_free", "System.lowest_free", s_System_lowest_free, [], []⟩,
  ⟨(mA "System" "placed"), "placed", "System.placed", s_System_placed, [], []⟩,
  ⟨(mA "System" "new_source"), "new_source", "System.new_source", s_System_new_source, [], []⟩,
  ⟨(mA "System" "new_set"), "new_set", "System.new_set", s_System_new_set, [], []⟩,
  ⟨(mA "System" "close"), "close", "System.close", s_System_close, [], []⟩,
  ⟨(mA "System" "fork"), "fork", "System.fork", s_System_fork, [], []⟩,
  ⟨(mA "System" "read"), "read", "System.read", s_System_read, [.non], []⟩,
  ⟨(mA "System" "numbers"), "numbers", "System.numbers", s_System_numbers, [], []⟩,
  ⟨(mA "System" "same"), "same", "System.same", s_System_same, [], []⟩,
  ⟨(mA "System" "units"), "units", "System.units", s_System_units, [], []⟩,
  ⟨(mA "System" "name"), "name", "System.name", s_System_name, [], []⟩,
  ⟨(mA "System" "registrations"), "registrations", "System.registrations", s_System_registrations, [], []⟩,
  ⟨(mA "System" "__eq__"), "__eq__", "System.__eq__", s_System___eq__, [], []⟩,
  ⟨(mA "System" "__len__"), "__len__", "System.__len__", s_System___len__, [], []⟩,
  ⟨(mA "System" "__contains__"), "__contains__", "System.__contains__", s_System___contains__, [], []⟩,
  ⟨(mA "System" "__repr__"), "__repr__", "System.__repr__", s_System___repr__, [], []⟩,
  ⟨(gA "picture_of"), "picture_of", "picture_of", s_picture_of, [], []⟩,
  ⟨(gA "_law_bag"), "_law_bag", "_law_bag", s__law_bag, [], []⟩,
  ⟨(gA "_law_take"), "_law_take", "_law_take", s__law_take, [], []⟩,
  ⟨(gA "_law_of"), "_law_of", "_law_of", s__law_of, [], []⟩,
  ⟨(gA "_law_object"), "_law_object", "_law_object", s__law_object, [], []⟩,
  ⟨(gA "_law_is_from"), "_law_is_from", "_law_is_from", s__law_is_from, [], []⟩,
  ⟨(gA "_law_refused"), "_law_refused", "_law_refused", s__law_refused, [], []⟩,
  ⟨(gA "_law_fills"), "_law_fills", "_law_fills", s__law_fills, [], []⟩,
  ⟨(gA "law"), "law", "law", s_law, [], []⟩]
def tsL : List Tab := []
def tfL : List Defn := []
theorem tx_of {K : PySem.W.Frag} {mg : Str → Option Value} {w : World} {h : Heap} (X : K.In h) (G : h.Ns mainGlobals mg) (c : SaysW fcL fwL tsL tfL w h K) : Tx K mg where
  g_BadCount := glo_ok X G (c.fact 0 (f := .fa (.glo "BadCount")))
  g_BadLimit := glo_ok X G (c.fact 1 (f := .fa (.glo "BadLimit")))
  g_Full := glo_ok X G (c.fact 2 (f := .fa (.glo "Full")))
  i_LEAST_NUMBERS := int_ok X G (c.fact 3 (f := .fa (.int "LEAST_NUMBERS" 3)))
  i_LEAST_PROCESSES := int_ok X G (c.fact 4 (f := .fa (.int "LEAST_PROCESSES" 2)))
  i_MOST_COUNT := int_ok X G (c.fact 5 (f := .fa (.int "MOST_COUNT" 1000000)))
  g_NoProcess := glo_ok X G (c.fact 6 (f := .fa (.glo "NoProcess")))
  g_NoRoom := glo_ok X G (c.fact 7 (f := .fa (.glo "NoRoom")))
  g_NotASource := glo_ok X G (c.fact 8 (f := .fa (.glo "NotASource")))
  g_NotOpen := glo_ok X G (c.fact 9 (f := .fa (.glo "NotOpen")))
  free_OverflowError := free_ok X G (c.fact 10 (f := .fa (.free "OverflowError")))
  t_SET := str_ok X G (c.fact 11 (f := .fa (.str "SET" "set")))
  t_SOURCE := str_ok X G (c.fact 12 (f := .fa (.str "SOURCE" "source")))
  g_Source := glo_ok X G (c.fact 13 (f := .fa (.glo "Source")))
  g_System := glo_ok X G (c.fact 14 (f := .fa (.glo "System")))
  free_ValueError := free_ok X G (c.fact 15 (f := .fa (.free "ValueError")))
  g_WaitSet := glo_ok X G (c.fact 16 (f := .fa (.glo "WaitSet")))
  g__law_bag := glo_ok X G (c.fact 17 (f := .fa (.glo "_law_bag")))
  g__law_fills := glo_ok X G (c.fact 18 (f := .fa (.glo "_law_fills")))
  g__law_is_from := glo_ok X G (c.fact 19 (f := .fa (.glo "_law_is_from")))
  g__law_object := glo_ok X G (c.fact 20 (f := .fa (.glo "_law_object")))
  g__law_of := glo_ok X G (c.fact 21 (f := .fa (.glo "_law_of")))
  g__law_refused := glo_ok X G (c.fact 22 (f := .fa (.glo "_law_refused")))
  g__law_take := glo_ok X G (c.fact 23 (f := .fa (.glo "_law_take")))
  free_abs := free_ok X G (c.fact 24 (f := .fa (.free "abs")))
  free_bool := free_ok X G (c.fact 25 (f := .fa (.free "bool")))
  free_enumerate := free_ok X G (c.fact 26 (f := .fa (.free "enumerate")))
  free_int := free_ok X G (c.fact 27 (f := .fa (.free "int")))
  g_is_between := glo_ok X G (c.fact 28 (f := .fa (.glo "is_between")))
  g_is_integer := glo_ok X G (c.fact 29 (f := .fa (.glo "is_integer")))
  free_isinstance := free_ok X G (c.fact 30 (f := .fa (.free "isinstance")))
  g_law := glo_ok X G (c.fact 31 (f := .fa (.glo "law")))
  free_len := free_ok X G (c.fact 32 (f := .fa (.free "len")))
  free_list := free_ok X G (c.fact 33 (f := .fa (.free "list")))
  g_look_count := glo_ok X G (c.fact 34 (f := .fa (.glo "look_count")))
  free_max := free_ok X G (c.fact 35 (f := .fa (.free "max")))
  free_min := free_ok X G (c.fact 36 (f := .fa (.free "min")))
  g_picture_of := glo_ok X G (c.fact 37 (f := .fa (.glo "picture_of")))
  free_range := free_ok X G (c.fact 38 (f := .fa (.free "range")))
  free_repr := free_ok X G (c.fact 39 (f := .fa (.free "repr")))
  free_sorted := free_ok X G (c.fact 40 (f := .fa (.free "sorted")))
  x_NoProcess := exc_okW PySem.F.excBase_LookupError PySem.F.store_LookupError (c.fact 41 (f := .exc "NoProcess" [.type "LookupError", .type "Exception", .type "BaseException", .type "object"] "LookupError.__new__" ["caption", "process"]))
  o_NoProcess := of_decide_eq_true (c.fact 42 (f := .mro "NoProcess"))
  x_NotOpen := exc_okW PySem.F.excBase_LookupError PySem.F.store_LookupError (c.fact 43 (f := .exc "NotOpen" [.type "LookupError", .type "Exception", .type "BaseException", .type "object"] "LookupError.__new__" ["caption", "number"]))
  o_NotOpen := of_decide_eq_true (c.fact 44 (f := .mro "NotOpen"))
  x_NotASource := exc_okW PySem.F.excBase_TypeError PySem.F.store_TypeError (c.fact 45 (f := .exc "NotASource" [.type "TypeError", .type "Exception", .type "BaseException", .type "object"] "TypeError.__new__" ["caption", "number"]))
  o_NotASource := of_decide_eq_true (c.fact 46 (f := .mro "NotASource"))
  x_BadCount := exc_okW PySem.F.excBase_ValueError PySem.F.store_ValueError (c.fact 47 (f := .exc "BadCount" [.type "ValueError", .type "Exception", .type "BaseException", .type "object"] "ValueError.__new__" ["caption", "count"]))
  o_BadCount := of_decide_eq_true (c.fact 48 (f := .mro "BadCount"))
  x_BadLimit := exc_okW PySem.F.excBase_ValueError PySem.F.store_ValueError (c.fact 49 (f := .exc "BadLimit" [.type "ValueError", .type "Exception", .type "BaseException", .type "object"] "ValueError.__new__" ["caption", "limit"]))
  o_BadLimit := of_decide_eq_true (c.fact 50 (f := .mro "BadLimit"))
  x_Full := exc_okW PySem.F.excBase_OverflowError PySem.F.store_OverflowError (c.fact 51 (f := .exc "Full" [.type "OverflowError", .type "ArithmeticError", .type "Exception", .type "BaseException", .type "object"] "OverflowError.__new__" ["caption", "process"]))
  o_Full := of_decide_eq_true (c.fact 52 (f := .mro "Full"))
  x_NoRoom := exc_okW PySem.F.excBase_OverflowError PySem.F.store_OverflowError (c.fact 53 (f := .exc "NoRoom" [.type "OverflowError", .type "ArithmeticError", .type "Exception", .type "BaseException", .type "object"] "OverflowError.__new__" ["caption"]))
  o_NoRoom := of_decide_eq_true (c.fact 54 (f := .mro "NoRoom"))
  c_Source := cls_ok (c.fact 55 (f := .fa (.cls "Source")))
  ci_Source := eqO_ok (c.fact 56 (f := .ins "Source"))
  o_Source := of_decide_eq_true (c.fact 57 (f := .mro "Source"))
  n_Source_unread := noat_ok (c.fact 58 (f := .fa (.noat "Source" "unread")))
  n_Source_finished := noat_ok (c.fact 59 (f := .fa (.noat "Source" "finished")))
  k_Source := mkr_ok (c.fact 60 (f := .fa (.mkr "Source")))
  c_WaitSet := cls_ok (c.fact 61 (f := .fa (.cls "WaitSet")))
  ci_WaitSet := eqO_ok (c.fact 62 (f := .ins "WaitSet"))
  o_WaitSet := of_decide_eq_true (c.fact 63 (f := .mro "WaitSet"))
  n_WaitSet_entries := noat_ok (c.fact 64 (f := .fa (.noat "WaitSet" "entries")))
  n_WaitSet_row := noat_ok (c.fact 65 (f := .fa (.noat "WaitSet" "row")))
  k_WaitSet := mkr_ok (c.fact 66 (f := .fa (.mkr "WaitSet")))
  c_System := cls_ok (c.fact 67 (f := .fa (.cls "System")))
  ci_System := eqO_ok (c.fact 68 (f := .ins "System"))
  o_System := of_decide_eq_true (c.fact 69 (f := .mro "System"))
  n_System_process_limit := noat_ok (c.fact 70 (f := .fa (.noat "System" "process_limit")))
  n_System_number_limit := noat_ok (c.fact 71 (f := .fa (.noat "System" "number_limit")))
  n_System_tables := noat_ok (c.fact 72 (f := .fa (.noat "System" "tables")))
  n_System_things := noat_ok (c.fact 73 (f := .fa (.noat "System" "things")))
  n_System_serials_made := noat_ok (c.fact 74 (f := .fa (.noat "System" "serials_made")))
  k_System := mkr_ok (c.fact 75 (f := .fa (.mkr "System")))
  v_System_MOST_PROCESSES := cval_ok (c.fact 76 (f := .cval "System" "MOST_PROCESSES" (.int 6)))
  v_System_MOST_NUMBERS := cval_ok (c.fact 77 (f := .cval "System" "MOST_NUMBERS" (.int 8)))
  p_Source_kind := prop_ok (c.fact 78 (f := .prop "Source" "kind"))
  m_Source_taken := meth_ok (c.fact 79 (f := .fa (.meth "Source" "taken")))
  p_WaitSet_kind := prop_ok (c.fact 80 (f := .prop "WaitSet" "kind"))
  m_WaitSet_drop := meth_ok (c.fact 81 (f := .fa (.meth "WaitSet" "drop")))
  m_WaitSet_forget := meth_ok (c.fact 82 (f := .fa (.meth "WaitSet" "forget")))
  p_System_limits := prop_ok (c.fact 83 (f := .prop "System" "limits"))
  m_System_alive := meth_ok (c.fact 84 (f := .fa (.meth "System" "alive")))
  m_System_table_of := meth_ok (c.fact 85 (f := .fa (.meth "System" "table_of")))
  m_System_serial_at := meth_ok (c.fact 86 (f := .fa (.meth "System" "serial_at")))
  m_System_source_at := meth_ok (c.fact 87 (f := .fa (.meth "System" "source_at")))
  m_System_holders := meth_ok (c.fact 88 (f := .fa (.meth "System" "holders")))
  m_System_name_of := meth_ok (c.fact 89 (f := .fa (.meth "System" "name_of")))
  m_System_set_serials := meth_ok (c.fact 90 (f := .fa (.meth "System" "set_serials")))
  m_System_lowest_free := meth_ok (c.fact 91 (f := .fa (.meth "System" "lowest_free")))
  m_System_placed := meth_ok (c.fact 92 (f := .fa (.meth "System" "placed")))
  m_System_new_source := meth_ok (c.fact 93 (f := .fa (.meth "System" "new_source")))
  m_System_new_set := meth_ok (c.fact 94 (f := .fa (.meth "System" "new_set")))
  m_System_close := meth_ok (c.fact 95 (f := .fa (.meth "System" "close")))
  m_System_fork := meth_ok (c.fact 96 (f := .fa (.meth "System" "fork")))
  m_System_read := meth_ok (c.fact 97 (f := .fa (.meth "System" "read")))
  m_System_numbers := meth_ok (c.fact 98 (f := .fa (.meth "System" "numbers")))
  m_System_same := meth_ok (c.fact 99 (f := .fa (.meth "System" "same")))
  m_System_units := meth_ok (c.fact 100 (f := .fa (.meth "System" "units")))
  m_System_name := meth_ok (c.fact 101 (f := .fa (.meth "System" "name")))
  m_System_registrations := meth_ok (c.fact 102 (f := .fa (.meth "System" "registrations")))
  m_System___eq__ := meth_ok (c.fact 103 (f := .fa (.meth "System" "__eq__")))
  m_System___len__ := meth_ok (c.fact 104 (f := .fa (.meth "System" "__len__")))
  m_System___contains__ := meth_ok (c.fact 105 (f := .fa (.meth "System" "__contains__")))
  m_System___repr__ := meth_ok (c.fact 106 (f := .fa (.meth "System" "__repr__")))
  bm_System_name_of := bm_ok (c.fact 107 (f := .bmt "System" "name_of"))
  q_NoProcess_OverflowError := of_decide_eq_true (c.fact 108 (f := .sub "NoProcess" "OverflowError" false))
  q_NotOpen_OverflowError := of_decide_eq_true (c.fact 109 (f := .sub "NotOpen" "OverflowError" false))
  q_NotASource_OverflowError := of_decide_eq_true (c.fact 110 (f := .sub "NotASource" "OverflowError" false))
  q_BadCount_OverflowError := of_decide_eq_true (c.fact 111 (f := .sub "BadCount" "OverflowError" false))
  q_BadLimit_OverflowError := of_decide_eq_true (c.fact 112 (f := .sub "BadLimit" "OverflowError" false))
  q_Full_OverflowError := of_decide_eq_true (c.fact 113 (f := .sub "Full" "OverflowError" true))
  q_NoRoom_OverflowError := of_decide_eq_true (c.fact 114 (f := .sub "NoRoom" "OverflowError" true))
  q_Source_Source := of_decide_eq_true (c.fact 115 (f := .isc "Source" "Source" true))
  q_WaitSet_Source := of_decide_eq_true (c.fact 116 (f := .isc "WaitSet" "Source" false))
  q_System_Source := of_decide_eq_true (c.fact 117 (f := .isc "System" "Source" false))
  q_Source_System := of_decide_eq_true (c.fact 118 (f := .isc "Source" "System" false))
  q_WaitSet_System := of_decide_eq_true (c.fact 119 (f := .isc "WaitSet" "System" false))
  q_System_System := of_decide_eq_true (c.fact 120 (f := .isc "System" "System" true))
  q_NoProcess_ValueError := of_decide_eq_true (c.fact 121 (f := .sub "NoProcess" "ValueError" false))
  q_NotOpen_ValueError := of_decide_eq_true (c.fact 122 (f := .sub "NotOpen" "ValueError" false))
  q_NotASource_ValueError := of_decide_eq_true (c.fact 123 (f := .sub "NotASource" "ValueError" false))
  q_BadCount_ValueError := of_decide_eq_true (c.fact 124 (f := .sub "BadCount" "ValueError" true))
  q_BadLimit_ValueError := of_decide_eq_true (c.fact 125 (f := .sub "BadLimit" "ValueError" true))
  q_Full_ValueError := of_decide_eq_true (c.fact 126 (f := .sub "Full" "ValueError" false))
  q_NoRoom_ValueError := of_decide_eq_true (c.fact 127 (f := .sub "NoRoom" "ValueError" false))
  q_Source_WaitSet := of_decide_eq_true (c.fact 128 (f := .isc "Source" "WaitSet" false))
  q_WaitSet_WaitSet := of_decide_eq_true (c.fact 129 (f := .isc "WaitSet" "WaitSet" true))
  q_System_WaitSet := of_decide_eq_true (c.fact 130 (f := .isc "System" "WaitSet" false))
  e_NoProcess_BadLimit := exm_ok (c.fact 131 (f := .fa (.exm "NoProcess" "BadLimit" false)))
  e_NotOpen_BadLimit := exm_ok (c.fact 132 (f := .fa (.exm "NotOpen" "BadLimit" false)))
  e_NotASource_BadLimit := exm_ok (c.fact 133 (f := .fa (.exm "NotASource" "BadLimit" false)))
  e_BadCount_BadLimit := exm_ok (c.fact 134 (f := .fa (.exm "BadCount" "BadLimit" false)))
  e_BadLimit_BadLimit := exm_ok (c.fact 135 (f := .fa (.exm "BadLimit" "BadLimit" true)))
  e_Full_BadLimit := exm_ok (c.fact 136 (f := .fa (.exm "Full" "BadLimit" false)))
  e_NoRoom_BadLimit := exm_ok (c.fact 137 (f := .fa (.exm "NoRoom" "BadLimit" false)))
  e_NoProcess_Full := exm_ok (c.fact 138 (f := .fa (.exm "NoProcess" "Full" false)))
  e_NotOpen_Full := exm_ok (c.fact 139 (f := .fa (.exm "NotOpen" "Full" false)))
  e_NotASource_Full := exm_ok (c.fact 140 (f := .fa (.exm "NotASource" "Full" false)))
  e_BadCount_Full := exm_ok (c.fact 141 (f := .fa (.exm "BadCount" "Full" false)))
  e_BadLimit_Full := exm_ok (c.fact 142 (f := .fa (.exm "BadLimit" "Full" false)))
  e_Full_Full := exm_ok (c.fact 143 (f := .fa (.exm "Full" "Full" true)))
  e_NoRoom_Full := exm_ok (c.fact 144 (f := .fa (.exm "NoRoom" "Full" false)))
  e_NoProcess_NoRoom := exm_ok (c.fact 145 (f := .fa (.exm "NoProcess" "NoRoom" false)))
  e_NotOpen_NoRoom := exm_ok (c.fact 146 (f := .fa (.exm "NotOpen" "NoRoom" false)))
  e_NotASource_NoRoom := exm_ok (c.fact 147 (f := .fa (.exm "NotASource" "NoRoom" false)))
  e_BadCount_NoRoom := exm_ok (c.fact 148 (f := .fa (.exm "BadCount" "NoRoom" false)))
  e_BadLimit_NoRoom := exm_ok (c.fact 149 (f := .fa (.exm "BadLimit" "NoRoom" false)))
  e_Full_NoRoom := exm_ok (c.fact 150 (f := .fa (.exm "Full" "NoRoom" false)))
  e_NoRoom_NoRoom := exm_ok (c.fact 151 (f := .fa (.exm "NoRoom" "NoRoom" true)))
  f_NoProcess___init__ := c.def_ 0 (d := ⟨(mA "NoProcess" "__init__"), "__init__", "NoProcess.__init__", s_NoProcess___init__, [], []⟩)
  f_NotOpen___init__ := c.def_ 1 (d := ⟨(mA "NotOpen" "__init__"), "__init__", "NotOpen.__init__", s_NotOpen___init__, [], []⟩)
  f_NotASource___init__ := c.def_ 2 (d := ⟨(mA "NotASource" "__init__"), "__init__", "NotASource.__init__", s_NotASource___init__, [], []⟩)
  f_BadCount___init__ := c.def_ 3 (d := ⟨(mA "BadCount" "__init__"), "__init__", "BadCount.__init__", s_BadCount___init__, [], []⟩)
  f_BadLimit___init__ := c.def_ 4 (d := ⟨(mA "BadLimit" "__init__"), "__init__", "BadLimit.__init__", s_BadLimit___init__, [], []⟩)
  f_Full___init__ := c.def_ 5 (d := ⟨(mA "Full" "__init__"), "__init__", "Full.__init__", s_Full___init__, [], []⟩)
  f_NoRoom___init__ := c.def_ 6 (d := ⟨(mA "NoRoom" "__init__"), "__init__", "NoRoom.__init__", s_NoRoom___init__, [], []⟩)
  f_is_integer := c.def_ 7 (d := ⟨(gA "is_integer"), "is_integer", "is_integer", s_is_integer, [], []⟩)
  f_is_between := c.def_ 8 (d := ⟨(gA "is_between"), "is_between", "is_between", s_is_between, [], []⟩)
  f_Source___init__ := c.def_ 9 (d := ⟨(mA "Source" "__init__"), "__init__", "Source.__init__", s_Source___init__, [.int 0, .bl false], []⟩)
  f_Source_kind := c.def_ 10 (d := ⟨(pA "Source" "kind"), "kind", "Source.kind", s_Source_kind, [], []⟩)
  f_Source_taken := c.def_ 11 (d := ⟨(mA "Source" "taken"), "taken", "Source.taken", s_Source_taken, [], []⟩)
  f_WaitSet___init__ := c.def_ 12 (d := ⟨(mA "WaitSet" "__init__"), "__init__", "WaitSet.__init__", s_WaitSet___init__, [], []⟩)
  f_WaitSet_kind := c.def_ 13 (d := ⟨(pA "WaitSet" "kind"), "kind", "WaitSet.kind", s_WaitSet_kind, [], []⟩)
  f_WaitSet_drop := c.def_ 14 (d := ⟨(mA "WaitSet" "drop"), "drop", "WaitSet.drop", s_WaitSet_drop, [], []⟩)
  f_WaitSet_forget := c.def_ 15 (d := ⟨(mA "WaitSet" "forget"), "forget", "WaitSet.forget", s_WaitSet_forget, [], []⟩)
  f_look_count := c.def_ 16 (d := ⟨(gA "look_count"), "look_count", "look_count", s_look_count, [], []⟩)
  f_System___init__ := c.def_ 17 (d := ⟨(mA "System" "__init__"), "__init__", "System.__init__", s_System___init__, [], [("processes", .int 4), ("numbers", .int 8)]⟩)
  f_System_limits := c.def_ 18 (d := ⟨(pA "System" "limits"), "limits", "System.limits", s_System_limits, [], []⟩)
  f_System_alive := c.def_ 19 (d := ⟨(mA "System" "alive"), "alive", "System.alive", s_System_alive, [], []⟩)
  f_System_table_of := c.def_ 20 (d := ⟨(mA "System" "table_of"), "table_of", "System.table_of", s_System_table_of, [], []⟩)
  f_System_serial_at := c.def_ 21 (d := ⟨(mA "System" "serial_at"), "serial_at", "System.serial_at", s_System_serial_at, [], []⟩)
  f_System_source_at := c.def_ 22 (d := ⟨(mA "System" "source_at"), "source_at", "System.source_at", s_System_source_at, [], []⟩)
  f_System_holders := c.def_ 23 (d := ⟨(mA "System" "holders"), "holders", "System.holders", s_System_holders, [], []⟩)
  f_System_name_of := c.def_ 24 (d := ⟨(mA "System" "name_of"), "name_of", "System.name_of", s_System_name_of, [], []⟩)
  f_System_set_serials := c.def_ 25 (d := ⟨(mA "System" "set_serials"), "set_serials", "System.set_serials", s_System_set_serials, [], []⟩)
  f_System_lowest_free := c.def_ 26 (d := ⟨(mA "System" "lowest_free"), "lowest_free", "System.lowest_free", s_System_lowest_free, [], []⟩)
  f_System_placed := c.def_ 27 (d := ⟨(mA "System" "placed"), "placed", "System.placed", s_System_placed, [], []⟩)
  f_System_new_source := c.def_ 28 (d := ⟨(mA "System" "new_source"), "new_source", "System.new_source", s_System_new_source, [], []⟩)
  f_System_new_set := c.def_ 29 (d := ⟨(mA "System" "new_set"), "new_set", "System.new_set", s_System_new_set, [], []⟩)
  f_System_close := c.def_ 30 (d := ⟨(mA "System" "close"), "close", "System.close", s_System_close, [], []⟩)
  f_System_fork := c.def_ 31 (d := ⟨(mA "System" "fork"), "fork", "System.fork", s_System_fork, [], []⟩)
  f_System_read := c.def_ 32 (d := ⟨(mA "System" "read"), "read", "System.read", s_System_read, [.non], []⟩)
  f_System_numbers := c.def_ 33 (d := ⟨(mA "System" "numbers"), "numbers", "System.numbers", s_System_numbers, [], []⟩)
  f_System_same := c.def_ 34 (d := ⟨(mA "System" "same"), "same", "System.same", s_System_same, [], []⟩)
  f_System_units := c.def_ 35 (d := ⟨(mA "System" "units"), "units", "System.units", s_System_units, [], []⟩)
  f_System_name := c.def_ 36 (d := ⟨(mA "System" "name"), "name", "System.name", s_System_name, [], []⟩)
  f_System_registrations := c.def_ 37 (d := ⟨(mA "System" "registrations"), "registrations", "System.registrations", s_System_registrations, [], []⟩)
  f_System___eq__ := c.def_ 38 (d := ⟨(mA "System" "__eq__"), "__eq__", "System.__eq__", s_System___eq__, [], []⟩)
  f_System___len__ := c.def_ 39 (d := ⟨(mA "System" "__len__"), "__len__", "System.__len__", s_System___len__, [], []⟩)
  f_System___contains__ := c.def_ 40 (d := ⟨(mA "System" "__contains__"), "__contains__", "System.__contains__", s_System___contains__, [], []⟩)
  f_System___repr__ := c.def_ 41 (d := ⟨(mA "System" "__repr__"), "__repr__", "System.__repr__", s_System___repr__, [], []⟩)
  f_picture_of := c.def_ 42 (d := ⟨(gA "picture_of"), "picture_of", "picture_of", s_picture_of, [], []⟩)
  f__law_bag := c.def_ 43 (d := ⟨(gA "_law_bag"), "_law_bag", "_law_bag", s__law_bag, [], []⟩)
  f__law_take := c.def_ 44 (d := ⟨(gA "_law_take"), "_law_take", "_law_take", s__law_take, [], []⟩)
  f__law_of := c.def_ 45 (d := ⟨(gA "_law_of"), "_law_of", "_law_of", s__law_of, [], []⟩)
  f__law_object := c.def_ 46 (d := ⟨(gA "_law_object"), "_law_object", "_law_object", s__law_object, [], []⟩)
  f__law_is_from := c.def_ 47 (d := ⟨(gA "_law_is_from"), "_law_is_from", "_law_is_from", s__law_is_from, [], []⟩)
  f__law_refused := c.def_ 48 (d := ⟨(gA "_law_refused"), "_law_refused", "_law_refused", s__law_refused, [], []⟩)
  f__law_fills := c.def_ 49 (d := ⟨(gA "_law_fills"), "_law_fills", "_law_fills", s__law_fills, [], []⟩)
  f_law := c.def_ 50 (d := ⟨(gA "law"), "law", "law", s_law, [], []⟩)
/-! ### is_integer, is_between -/
/-- an object as a value: None, a truth, a whole number, a text, a list or a tuple that is tracked -/
def Obj' (H : Hp) : V → Prop
  | .non => True
  | .bl _ => True
  | .int _ => True
  | .str _ => True
  | .ref a => (∃ xs, H a = some (.lst xs)) ∨ ∃ xs, H a = some (.tup xs)
  | _ => False
def isI : V → Bool
  | .int _ => true
  | _ => false
def betw (x : V) (lo hi : Int) : Bool := match x with
  | .int i => decide (lo ≤ i) && decide (i ≤ hi)
  | _ => false
theorem Obj'.same {H H' : Hp} (e : Same H H') : ∀ {x : V}, Obj' H x → Obj' H' x
  | .non, h => h
  | .bl _, h => h
  | .int _, h => h
  | .str _, h => h
  | .ref a, h => by
    rcases h with ⟨xs, h⟩ | ⟨xs, h⟩
    · exact .inl ⟨xs, e _ _ h⟩
    · exact .inr ⟨xs, e _ _ h⟩
  | .byt _, h => h.elim
  | .flt _, h => h.elim
  | .ty _, h => h.elim
/-- its type, and what isinstance tells of int, bool -/
theorem obj_ty {K : PySem.W.Frag} {H : Hp} : ∀ {x : V}, Obj' H x → ∃ (t : Value) (b c : Bool), TyX K H x t ∧ PySem.W.kitOne K t (.type "int") = some b ∧ PySem.W.kitOne K t (.type "bool") = some c ∧ (b && !c) = isI x
  | .non, _ => ⟨.type "NoneType", false, false, .base .non, kit_ty (by decide +kernel), kit_ty (by decide +kernel), rfl⟩
  | .bl y, _ => ⟨.type "bool", true, true, .base (.bl y), kit_ty (by decide +kernel), kit_ty (by decide +kernel), rfl⟩
  | .int i, _ => ⟨.type "int", true, false, .base (.int i), kit_ty (by decide +kernel), kit_ty (by decide +kernel), rfl⟩
  | .str y, _ => ⟨.type "str", false, false, .base (.str y), kit_ty (by decide +kernel), kit_ty (by decide +kernel), rfl⟩
  | .ref a, h => by
    rcases h with ⟨xs, h⟩ | ⟨xs, h⟩
    · exact ⟨.type "list", false, false, .base (.lst h), kit_ty (by decide +kernel), kit_ty (by decide +kernel), rfl⟩
    · exact ⟨.type "tuple", false, false, .base (.tup h), kit_ty (by decide +kernel), kit_ty (by decide +kernel), rfl⟩
  | .byt _, h => h.elim
  | .flt _, h => h.elim
  | .ty _, h => h.elim
def sp_is_integer : Sp := fun vs H Q _ => ∃ x, vs = [x] ∧ Obj' H x ∧ Q (.bl (isI x)) H
def sp_is_between : Sp := fun vs H Q _ => ∃ x lo hi, vs = [x, .int lo, .int hi] ∧ Obj' H x ∧ Q (.bl (betw x lo hi)) H
section
variable {P : Program} {w : World} {K : PySem.W.Frag} {mg : Str → Option Value} {base : Heap}
theorem sc_is_integer : FnScope ["thing"] ["thing"] (defScope s_is_integer) := ⟨rfl, rfl, rfl, by decide +kernel, rfl, by decide +kernel, by decide +kernel⟩
theorem ok_is_integer (T : Tx K mg) : FnOk P w K mg base CX0 1 (gA "is_integer" K) (fdAt K (gA "is_integer" K)) ["thing"] sp_is_integer := by
  refine FunD.ok T.f_is_integer sc_is_integer (fun vs H Q E h => ?_) (fun cdv A outer s H vs Q E hr h => ?_)
  · obtain ⟨x, rfl, _⟩ := h
    rfl
  · obtain ⟨x, rfl, hx, q⟩ := h
    refine ⟨_, PSs.nox (pss_one (ps_ret (pe_and (pe_callB call_isi (by rfl) T.free_isinstance (by decide +kernel) (pa_cons (pv 0) (pa_cons (pe_bltn (v := .ty "int") (by rfl) T.free_int (by decide +kernel) rfl) pa_nil)))
      (pe_one (pe_not (pe_callB call_isi (by rfl) T.free_isinstance (by decide +kernel) (pa_cons (pv 0) (pa_cons (pe_bltn (v := .ty "bool") (by rfl) T.free_bool (by decide +kernel) rfl) pa_nil)))))))), ?_⟩
    obtain ⟨t, b, c, ty, h1, h2, e⟩ := obj_ty (K := K) hx
    refine ⟨_, rfl, _, _, t, .type "int", b, rfl, .ty "int", ty, h1, b, rfl, ?_⟩
    cases b with
    | false =>
      refine iteF ?_
      rw [← e] at q
      exact q
    | true =>
      refine iteT ?_
      refine ⟨_, rfl, _, _, t, .type "bool", c, rfl, .ty "bool", ty, h2, c, rfl, ?_⟩
      rw [← e] at q
      exact q
theorem b_is_integer (T : Tx K mg) : Binds K (fdAt K (gA "is_integer" K)) ["thing"] [] := FunD.bindsN T.f_is_integer fun _ _ _ _ _ _ us hl => match us, hl with | [_], _ => rfl
theorem sc_is_between : FnScope ["thing", "low", "high"] ["thing", "low", "high"] (defScope s_is_between) := ⟨rfl, rfl, rfl, by decide +kernel, rfl, by decide +kernel, by decide +kernel⟩
theorem ok_is_between (T : Tx K mg) : FnOk P w K mg base CX0 2 (gA "is_between" K) (fdAt K (gA "is_between" K)) ["thing", "low", "high"] sp_is_between := by
  refine FunD.ok T.f_is_between sc_is_between (fun vs H Q E h => ?_) (fun cdv A outer s H vs Q E hr h => ?_)
  · obtain ⟨x, lo, hi, rfl, _⟩ := h
    rfl
  · obtain ⟨x, lo, hi, rfl, hx, q⟩ := h
    refine ⟨_, PSs.nox (pss_one (ps_ret (pe_and (pe_call (ok_is_integer T) hr (by rfl) T.g_is_integer T.f_is_integer.kp (b_is_integer T) .nil pass0 (pa_cons (pv 0) pa_nil))
      (pe_one (pe_chain op_le op_le (pv 1) (pv 0) (pv 2)))))), ?_⟩
    refine ⟨_, rfl, x, rfl, hx, isI x, rfl, ?_⟩
    cases x with
    | int i =>
      refine iteT ?_
      refine ⟨_, rfl, _, rfl, lo, i, rfl, rfl, _, rfl, ?_⟩
      by_cases c : lo ≤ i
      · rw [decide_eq_true c]
        refine iteT ?_
        refine ⟨_, rfl, i, hi, rfl, rfl, ?_⟩
        have e : betw (.int i) lo hi = decide (i ≤ hi) := by show (decide (lo ≤ i) && decide (i ≤ hi)) = _; rw [decide_eq_true c]; rfl
        rw [e] at q
        exact q
      · rw [decide_eq_false c]
        refine iteF ?_
        have e : betw (.int i) lo hi = false := by show (decide (lo ≤ i) && decide (i ≤ hi)) = _; rw [decide_eq_false c]; rfl
        rw [e] at q
        exact q
    | _ => exact iteF q
theorem b_is_between (T : Tx K mg) : Binds K (fdAt K (gA "is_between" K)) ["thing", "low", "high"] [] := FunD.bindsN T.f_is_between fun _ _ _ _ _ _ us hl => match us, hl with | [_, _, _], _ => rfl
end

/-! ### errors -/
section
variable {P : Program} {w : World} {K : PySem.W.Frag} {mg : Str → Option Value} {base : Heap}
theorem ei_NoProcess (T : Tx K mg) : FnOk P w K mg base CX0 1 (mA "NoProcess" "__init__" K) (fdAt K (mA "NoProcess" "__init__" K)) ["self", "process"] (spErr (ga K "NoProcess") "process" "NoProcess") :=
  err_init T.x_NoProcess T.f_NoProcess___init__ ⟨rfl, rfl, rfl, by decide +kernel, rfl, by decide +kernel, by decide +kernel⟩ rfl ⟨by decide, by decide⟩ ⟨by decide, by decide⟩ (fun _ => ⟨rfl, rfl⟩) ⟨.inl rfl, .inl rfl⟩
theorem eb_NoProcess (T : Tx K mg) : Binds K (fdAt K (mA "NoProcess" "__init__" K)) ["self", "process"] [] := FunD.bindsN T.f_NoProcess___init__ fun _ _ _ _ _ _ us hl => match us, hl with | [_, _], _ => rfl
end
def isSys (K : PySem.W.Frag) (H : Hp) (v : V) (s : Sy) : Prop := v = .ref s.p ∧ SyAt K H s
/-- an error: for every heap that extends H, its own dict d new -/
def Raised (K : PySem.W.Frag) (H : Hp) (E : XK) (C : Str) (fs : List (Str × V)) : Prop := ∀ H' d, Same H H' → H d = none → H' d = some (.xd fs) → E (.ref (ga K C)) (some d) H'
theorem Raised.here {K : PySem.W.Frag} {H : Hp} {E : XK} {C : Str} {fs : List (Str × V)} (h : Raised K H E C fs) {d : Addr} (hd : H d = none) : E (.ref (ga K C)) (some d) (upd H d (.xd fs)) :=
  h _ d (fun b o e => by rw [upd_ne (ne_of_none e hd)]; exact e) hd upd_same
theorem Raised.ext {K : PySem.W.Frag} {H H1 : Hp} {E : XK} {C : Str} {fs : List (Str × V)} (e : Same H H1) (h : Raised K H E C fs) : Raised K H1 E C fs := fun H' d s1 hd h2 => h H' d (e.trans s1) (e.free hd) h2
def sp_table_of (K : PySem.W.Frag) : Sp := fun vs H Q E => ∃ (s : Sy) (x : V), vs = [.ref s.p, x] ∧ SyAt K H s ∧ Obj' H x ∧
  ((∃ i t, x = .int i ∧ lk s.tabs i = some t ∧ Q (.ref t.ad) H) ∨ ((∀ i, x = .int i → lk s.tabs i = none) ∧ Raised K H E "NoProcess" [("process", x), ("caption", .str "NoProcess")]))
section
variable {P : Program} {w : World} {K : PySem.W.Frag} {mg : Str → Option Value} {base : Heap}
theorem sc_table_of : FnScope ["self", "process"] ["self", "process"] (defScope s_System_table_of) := ⟨rfl, rfl, rfl, by decide +kernel, rfl, by decide +kernel, by decide +kernel⟩
theorem ok_table_of (T : Tx K mg) : FnOk P w K mg base (L2.CX P w) 3 (mA "System" "table_of" K) (fdAt K (mA "System" "table_of" K)) ["self", "process"] (sp_table_of K) := by
  refine FunD.ok T.f_System_table_of sc_table_of (fun vs H Q E h => ?_) (fun cdv A outer s H vs Q E hr h => ?_)
  · obtain ⟨x, lo, rfl, _⟩ := h
    rfl
  · obtain ⟨S, x, rfl, hS, hx, q⟩ := h
    have hu := hu_of hr
    refine ⟨_, pss_cons (ps_if (PW.pt (pw_or (pt_not (pt_val (pe_call (ok_is_integer T) (hr.mono (by decide)) (by rfl) T.g_is_integer T.f_is_integer.kp (b_is_integer T) .nil pass0 (pa_cons (pv 1) pa_nil)))) (pw_or1 (pt_cmp (pc_dnotin hu (pv 1) (pe_fld (pv 0) rfl))))))
        (pss_one (ps_raise rfl (takes_of rfl rfl rfl rfl) (pmk_err T.x_NoProcess (ei_NoProcess T) hr (eb_NoProcess T) pass0 (by rfl) T.g_NoProcess (pv 1)))) pss_nil)
      (pss_one (ps_ret (pe_dget hu (pe_fld (pv 0) rfl) (pv 1) (fun _ _ => rfl)))), ?_⟩
    refine ⟨_, rfl, x, rfl, hx, isI x, rfl, ?_⟩
    have rs : ∀ (i : Int) {Q' : VK}, Q' (.bl (!(lk S.tabs i).isSome)) H → tDNotIn (tVar 1) (tFld K (tVar 0) "tables") [some (.ref S.p), some (.int i)] H Q' := fun i Q' h => by
      refine ⟨_, rfl, _, rfl, _, _, _, _, _, rfl, hS.ob, T.c_System, T.n_System_tables, rfl, _, _, rfl, DGet.k (k := Sum.inl i) hS.tb, ?_⟩
      rw [val_kv, Option.isSome_map]
      exact h
    have er : ∀ {D : Ends}, Raised K H E "NoProcess" [("process", x), ("caption", .str "NoProcess")] → (∃ v, ([some (V.ref S.p), some x] : L2.St)[1]? = some (some v) ∧ ∀ d, H d = none → E (.ref (ga K "NoProcess")) (some d) (upd H d (.xd [("process", v), ("caption", .str "NoProcess")]))) := fun {D} hq => ⟨x, rfl, fun d hd => hq.here hd⟩
    cases x with
    | int i =>
      refine iteF ?_
      refine rs i ⟨_, rfl, ?_⟩
      rcases q with ⟨j, t, e, hl, q⟩ | ⟨hn, q⟩
      · cases e
        rw [hl]
        refine iteF ?_
        refine ⟨_, rfl, _, _, _, _, _, rfl, hS.ob, T.c_System, T.n_System_tables, rfl, _, rfl, _, _, rfl, ?_, q⟩
        have e := DGet.k (k := Sum.inl i) hS.tb
        rw [val_kv, hl] at e
        exact e
      · rw [hn i rfl]
        exact iteT (er (D := { nx := fun _ _ => True, rt := fun _ _ => True }) q)
    | _ =>
      refine iteT ?_
      rcases q with ⟨j, t, e, _⟩ | ⟨hn, q⟩
      · cases e
      · exact er (D := { nx := fun _ _ => True, rt := fun _ _ => True }) q
end

/-! ### a system is made -/
section
variable {P : Program} {w : World} {K : PySem.W.Frag} {mg : Str → Option Value} {base : Heap}
theorem ei_BadLimit (T : Tx K mg) : FnOk P w K mg base CX0 1 (mA "BadLimit" "__init__" K) (fdAt K (mA "BadLimit" "__init__" K)) ["self", "limit"] (spErr (ga K "BadLimit") "limit" "BadLimit") :=
  err_init T.x_BadLimit T.f_BadLimit___init__ ⟨rfl, rfl, rfl, by decide +kernel, rfl, by decide +kernel, by decide +kernel⟩ rfl ⟨by decide, by decide⟩ ⟨by decide, by decide⟩ (fun _ => ⟨rfl, rfl⟩) ⟨.inl rfl, .inl rfl⟩
theorem eb_BadLimit (T : Tx K mg) : Binds K (fdAt K (mA "BadLimit" "__init__" K)) ["self", "limit"] [] := FunD.bindsN T.f_BadLimit___init__ fun _ _ _ _ _ _ us hl => match us, hl with | [_, _], _ => rfl
end
/-- a new system -/
def newSv (P N : Int) : Sv := ⟨P, N, 0, [(0, [])], []⟩
def sp_Sys_init (K : PySem.W.Frag) : Sp := fun vs H Q E => ∃ (p dx : Addr) (x y : V), vs = [.ref p, x, y] ∧ H p = some (.ins (ga K "System") dx []) ∧ Obj' H x ∧ Obj' H y ∧
  (betw x 2 6 = false → Raised K H E "BadLimit" [("limit", x), ("caption", .str "BadLimit")]) ∧
  (betw x 2 6 = true → betw y 3 8 = false → Raised K H E "BadLimit" [("limit", y), ("caption", .str "BadLimit")]) ∧
  (∀ a b, x = .int a → y = .int b → 2 ≤ a → a ≤ 6 → 3 ≤ b → b ≤ 8 → ∀ H' s, SyAt K H' s → s.p = p → s.v = newSv a b → (∀ c o, H c = some o → c ≠ p → H' c = some o) → (∀ c ∈ s.foot, c = p ∨ H c = none) → Q .non H')
section
variable {P : Program} {w : World} {K : PySem.W.Frag} {mg : Str → Option Value} {base : Heap}
theorem sc_Sys_init : FnScope ["self", "processes", "numbers"] ["self", "processes", "numbers"] (defScope s_System___init__) := ⟨rfl, rfl, rfl, by decide +kernel, rfl, by decide +kernel, by decide +kernel⟩
theorem betw_int {x : V} {lo hi : Int} (h : betw x lo hi = true) : ∃ i, x = .int i ∧ lo ≤ i ∧ i ≤ hi := by
  cases x with
  | int i =>
    obtain ⟨h1, h2⟩ := ba (show (decide (lo ≤ i) && decide (i ≤ hi)) = true from h)
    exact ⟨i, rfl, of_decide_eq_true h1, of_decide_eq_true h2⟩
  | _ => cases h
theorem ok_Sys_init (T : Tx K mg) : FnOk P w K mg base (L2.CX P w) 4 (mA "System" "__init__" K) (fdAt K (mA "System" "__init__" K)) ["self", "processes", "numbers"] (sp_Sys_init K) := by
  refine FunD.ok T.f_System___init__ sc_Sys_init (fun vs H Q E h => ?_) (fun cdv A outer s H vs Q E hr h => ?_)
  · obtain ⟨p, dx, x, y, rfl, _⟩ := h
    rfl
  · obtain ⟨p, dx, x, y, rfl, hp, hx, hy, q1, q2, q3⟩ := h
    have hu := hu_of hr
    obtain ⟨t1, i1⟩ := T.i_LEAST_PROCESSES
    obtain ⟨t2, i2⟩ := T.i_LEAST_NUMBERS
    obtain ⟨rd, u1, v1⟩ := T.v_System_MOST_PROCESSES
    obtain ⟨_, u2, v2⟩ := T.v_System_MOST_NUMBERS
    refine ⟨_, pss_cons (ps_if (pt_not (pt_val (pe_call (ok_is_between T) (hr.mono (by decide)) (by rfl) T.g_is_between T.f_is_between.kp (b_is_between T) .nil pass0 (pa_cons (pv 1) (pa_cons (pe_glob (v := .int 2) (by rfl) i1 ⟨_, rfl⟩) (pa_cons (ClX.pe_cval (pe_glob (v := .ref (ga K "System")) (by rfl) T.g_System rfl)) pa_nil))))))
        (pss_one (ps_raise rfl (takes_of rfl rfl rfl rfl) (pmk_err T.x_BadLimit (ei_BadLimit T) (hr.mono (by decide)) (eb_BadLimit T) pass0 (by rfl) T.g_BadLimit (pv 1)))) pss_nil)
      (pss_cons (ps_if (pt_not (pt_val (pe_call (ok_is_between T) (hr.mono (by decide)) (by rfl) T.g_is_between T.f_is_between.kp (b_is_between T) .nil pass0 (pa_cons (pv 2) (pa_cons (pe_glob (v := .int 3) (by rfl) i2 ⟨_, rfl⟩) (pa_cons (ClX.pe_cval (pe_glob (v := .ref (ga K "System")) (by rfl) T.g_System rfl)) pa_nil))))))
        (pss_one (ps_raise rfl (takes_of rfl rfl rfl rfl) (pmk_err T.x_BadLimit (ei_BadLimit T) (hr.mono (by decide)) (eb_BadLimit T) pass0 (by rfl) T.g_BadLimit (pv 2)))) pss_nil)
      (pss_cons (ps_fld (pv 0) (pv 1) rfl)
      (pss_cons (ps_fld (pv 0) (pv 2) rfl)
      (pss_cons (ps_fld (pv 0) (pe_disp (pps_cons pe_int pe_dnewK pps_nil) (by rfl) (by rfl) (fun z => by cases z) (by decide)) rfl)
      (pss_cons (ps_fld (pv 0) pe_dnewK rfl)
      (pss_one (ps_fld (pv 0) pe_int rfl))))))), ?_⟩
    refine ⟨_, rfl, _, _, _, _, rfl, rd, v1, x, 2, 6, rfl, hx, _, rfl, ?_⟩
    cases c1 : betw x 2 6 with
    | false => exact iteT ⟨_, rfl, fun d hd => (q1 c1).here hd⟩
    | true =>
      refine iteF ?_
      refine ⟨_, rfl, _, _, _, _, rfl, rd, v2, y, 3, 8, rfl, hy, _, rfl, ?_⟩
      cases c2 : betw y 3 8 with
      | false => exact iteT ⟨_, rfl, fun d hd => (q2 c1 c2).here hd⟩
      | true =>
        refine iteF ?_
        obtain ⟨a, rfl, a1, a2⟩ := betw_int c1
        obtain ⟨b, rfl, b1, b2⟩ := betw_int c2
        refine ⟨_, rfl, _, rfl, p, _, dx, _, rfl, hp, T.c_System, T.n_System_process_limit, (by show 0 < 1000; decide), ?_⟩
        refine ⟨_, rfl, _, rfl, p, _, dx, _, rfl, upd_same, T.c_System, T.n_System_number_limit, (by show 1 < 1000; decide), ?_⟩
        intro tT nT tt ntt
        have nTp : tT ≠ p := fun z => by rw [z, upd_same] at nT; cases nT
        have e1 : ∀ {c : Addr}, c ≠ p → upd (upd H p (.ins (ga K "System") dx (putF "process_limit" (.int a) []))) p (.ins (ga K "System") dx (putF "number_limit" (.int b) (putF "process_limit" (.int a) []))) c = H c := fun hc => by rw [upd_ne hc, upd_ne hc]
        have ntT : tt ≠ tT := fun z => by rw [z, upd_same] at ntt; cases ntt
        have ntp : tt ≠ p := fun z => by rw [z, upd_ne (Ne.symm nTp), upd_same] at ntt; cases ntt
        refine ⟨by rw [upd_ne (Ne.symm ntT), upd_same], [(Sum.inl 0, .ref tt)], rfl, (by show 1 ≤ 15; decide), ?_⟩
        refine ⟨_, rfl, p, _, dx, putF "number_limit" (.int b) (putF "process_limit" (.int a) []), rfl, by rw [upd_ne (Ne.symm nTp), upd_ne (Ne.symm ntp), upd_ne (Ne.symm nTp), upd_same], T.c_System, T.n_System_tables, (by show 2 < 1000; decide), ?_⟩
        intro tG nG
        have nGp : tG ≠ p := fun z => by rw [z, upd_same] at nG; cases nG
        rw [upd_ne nGp] at nG
        have nGT : tG ≠ tT := fun z => by rw [z, upd_same] at nG; cases nG
        rw [upd_ne nGT] at nG
        have nGt : tG ≠ tt := fun z => by rw [z, upd_same] at nG; cases nG
        rw [upd_ne nGt, upd_ne nGT, e1 nGp] at nG
        refine ⟨_, rfl, p, _, dx, _, rfl, by rw [upd_ne (Ne.symm nGp), upd_same], T.c_System, T.n_System_things, (by show 3 < 1000; decide), ?_⟩
        refine ⟨_, rfl, p, _, dx, _, rfl, upd_same, T.c_System, T.n_System_serials_made, (by show 4 < 1000; decide), ?_⟩
        have hT0 : H tT = none := by rw [e1 nTp] at nT; exact nT
        have ht0 : H tt = none := by rw [upd_ne ntT, e1 ntp] at ntt; exact ntt
        refine q3 a b rfl rfl a1 a2 b1 b2 _ ⟨p, dx, tT, tG, a, b, 0, [(0, ⟨tt, []⟩)], []⟩ ⟨upd_same, ?_, ?_, ?_, fun t h => (nomatch h), ?_, List.nodup_nil, List.nodup_nil, List.nodup_nil⟩ rfl rfl (fun c o e hc => ?_) fun c hc => ?_
        · show _ = some (HO.dK [(Sum.inl 0, .ref tt)])
          rw [upd_ne nTp, upd_ne nTp, upd_ne (Ne.symm nGT), upd_ne nTp, upd_same]
          rfl
        · intro t ht
          cases List.mem_singleton.mp ht
          show _ = some (HO.dK [])
          rw [upd_ne ntp, upd_ne ntp, upd_ne (Ne.symm nGt), upd_ne ntp, upd_ne ntT, upd_same]
        · show _ = some (HO.dK [])
          rw [upd_ne nGp, upd_ne nGp, upd_same]
        · show ([tT, tG, tt] : List Addr).Nodup
          simp only [List.nodup_cons, List.mem_cons, List.not_mem_nil, or_false, not_or, List.nodup_nil, and_true]
          exact ⟨⟨Ne.symm nGT, Ne.symm ntT⟩, nGt, not_false⟩
        · have c1 : c ≠ tT := ne_of_none e hT0
          have c2 : c ≠ tt := ne_of_none e ht0
          have c3 : c ≠ tG := ne_of_none e nG
          rw [upd_ne hc, upd_ne hc, upd_ne c3, upd_ne hc, upd_ne c1, upd_ne c2, upd_ne c1, e1 hc]
          exact e
        · have h2 : c = p ∨ c = tT ∨ c = tG ∨ c = tt := by
            have z : c ∈ ([p, tT, tG, tt] : List Addr) := hc
            simpa using z
          rcases h2 with z | z | z | z
          · exact .inl z
          · exact .inr (z ▸ hT0)
          · exact .inr (z ▸ nG)
          · exact .inr (z ▸ ht0)
/-- System(), System(processes=..), System(numbers=..), both -/
theorem b_Sys0 (T : Tx K mg) : ∃ ds, Vals [.int 4, .int 8] ds ∧ Binds K (fdAt K (mA "System" "__init__" K)) ["self", "processes", "numbers"] ds :=
  FunD.binds0 T.f_System___init__ 1 (fun z => nomatch z) rfl fun D doc pm an cdv ct us ks l1 l2 => match us, ks, l1, l2 with | [_], [_, _], _, _ => ⟨_, _, _, _, _, _, rfl, rfl, _, _, _, _, _, _, rfl, rfl, rfl⟩
theorem b_SysN (T : Tx K mg) : ∃ mv, KBn K (fdAt K (mA "System" "__init__" K)) ["self", "processes", "numbers"] 1 ["numbers"] (fun us ws => us ++ (mv ++ ws)) (fun vs zs => vs ++ ([.int 4] ++ zs)) :=
  FunD.kbinds0 T.f_System___init__ 1 ["numbers"] [("processes", .int 4)] (fun a b c => a ++ (b ++ c)) (fun z => nomatch z) (fun q hq => by simp at hq; simp [hq]) (fun r1 r2 r3 => r1.append (r2.append r3)) fun D doc pm an cdv ct us mv ws l1 l2 l3 => match us, mv, ws, l1, l2, l3 with | [_], [_], [_], _, _, _ => ⟨_, _, _, _, _, _, rfl, rfl, rfl⟩
end

/-! ### looks at the limits and the processes -/
/-- a new list of data; a new tuple -/
structure NewL (K : PySem.W.Frag) (H H' : Hp) (p : Addr) (vs : List V) (ds : List PyData) : Prop where
  same : Same H H'
  new : H p = none
  at_ : H' p = some (.lst vs)
  dat : DpAll K H' vs ds
theorem NewL.dp {K : PySem.W.Frag} {H H' : Hp} {p : Addr} {vs : List V} {ds : List PyData} (n : NewL K H H' p vs ds) : Dp K H' (.ref p) (.list ds) := .lst (SqL.of n.at_) n.dat
theorem new_same {H : Hp} {p : Addr} {o : HO} (h : H p = none) : Same H (upd H p o) := fun b u e => by rw [upd_ne (ne_of_none e h)]; exact e
theorem dp_ints {K : PySem.W.Frag} {H : Hp} : ∀ ns : List Int, DpAll K H (ns.map V.int) (ns.map PyData.int)
  | [] => .nil
  | n :: ns => .cons (.int n) (dp_ints ns)
def sp_limits (K : PySem.W.Frag) : Sp := fun vs H Q _ => ∃ s : Sy, vs = [.ref s.p] ∧ SyAt K H s ∧ ∀ p, H p = none → Q (.ref p) (upd H p (.tup [.int s.P, .int s.N]))
def sp_len (K : PySem.W.Frag) : Sp := fun vs H Q _ => ∃ s : Sy, vs = [.ref s.p] ∧ SyAt K H s ∧ Q (.int s.tabs.length) H
def sp_alive (K : PySem.W.Frag) : Sp := fun vs H Q _ => ∃ s : Sy, vs = [.ref s.p] ∧ SyAt K H s ∧ s.tabs.length < 64 ∧ ∀ p, H p = none → Q (.ref p) (upd H p (.lst ((srtI (s.tabs.map (·.1))).map V.int)))
section
variable {P : Program} {w : World} {K : PySem.W.Frag} {mg : Str → Option Value} {base : Heap}
theorem sc_limits : FnScope ["self"] ["self"] (defScope s_System_limits) := ⟨rfl, rfl, rfl, by decide +kernel, rfl, by decide +kernel, by decide +kernel⟩
theorem ok_limits (T : Tx K mg) : FnOk P w K mg base CX0 1 (pA "System" "limits" K) (fdAt K (pA "System" "limits" K)) ["self"] (sp_limits K) := by
  refine FunD.ok T.f_System_limits sc_limits (fun vs H Q E h => ?_) (fun cdv A outer s H vs Q E hr h => ?_)
  · obtain ⟨x, rfl, _⟩ := h
    rfl
  · obtain ⟨S, rfl, hS, q⟩ := h
    refine ⟨_, PSs.nox (pss_one (ps_ret (pe_tup (pa_cons (pe_fld (pv 0) rfl) (pa_cons (pe_fld (pv 0) rfl) pa_nil))))), ?_⟩
    exact ⟨_, rfl, _, _, _, _, _, rfl, hS.ob, T.c_System, T.n_System_process_limit, rfl, _, rfl, _, _, _, _, _, rfl, hS.ob, T.c_System, T.n_System_number_limit, rfl, (by show 2 ≤ sizeLine; decide), q⟩
theorem b_limits (T : Tx K mg) : Binds K (fdAt K (pA "System" "limits" K)) ["self"] [] := FunD.bindsN T.f_System_limits fun _ _ _ _ _ _ us hl => match us, hl with | [_], _ => rfl
theorem sc_len : FnScope ["self"] ["self"] (defScope s_System___len__) := ⟨rfl, rfl, rfl, by decide +kernel, rfl, by decide +kernel, by decide +kernel⟩
theorem ok_len (T : Tx K mg) : FnOk P w K mg base CX0 1 (mA "System" "__len__" K) (fdAt K (mA "System" "__len__" K)) ["self"] (sp_len K) := by
  refine FunD.ok T.f_System___len__ sc_len (fun vs H Q E h => ?_) (fun cdv A outer s H vs Q E hr h => ?_)
  · obtain ⟨x, rfl, _⟩ := h
    rfl
  · obtain ⟨S, rfl, hS, q⟩ := h
    refine ⟨_, PSs.nox (pss_one (ps_ret (pe_callB call_lenD (by rfl) T.free_len PySem.boot_len (pa_cons (pe_fld (pv 0) rfl) pa_nil)))), ?_⟩
    refine ⟨_, rfl, _, _, _, _, _, rfl, hS.ob, T.c_System, T.n_System_tables, rfl, _, _, rfl, hS.tb, ?_⟩
    rw [kv_len]
    exact q
theorem b_len (T : Tx K mg) : Binds K (fdAt K (mA "System" "__len__" K)) ["self"] [] := FunD.bindsN T.f_System___len__ fun _ _ _ _ _ _ us hl => match us, hl with | [_], _ => rfl
theorem kv_keys {α : Type} (g : α → V) (l : List (Int × α)) : (kv g l).map (·.1) = (l.map (·.1)).map Sum.inl := by
  unfold kv
  rw [List.map_map, List.map_map]
  rfl
theorem sc_alive : FnScope ["self"] ["self"] (defScope s_System_alive) := ⟨rfl, rfl, rfl, by decide +kernel, rfl, by decide +kernel, by decide +kernel⟩
theorem ok_alive (T : Tx K mg) : FnOk P w K mg base CX0 1 (mA "System" "alive" K) (fdAt K (mA "System" "alive" K)) ["self"] (sp_alive K) := by
  refine FunD.ok T.f_System_alive sc_alive (fun vs H Q E h => ?_) (fun cdv A outer s H vs Q E hr h => ?_)
  · obtain ⟨x, rfl, _⟩ := h
    rfl
  · obtain ⟨S, rfl, hS, h64, q⟩ := h
    refine ⟨_, PSs.nox (pss_one (ps_ret (pe_callB (call_sortedDI rfl) (by rfl) T.free_sorted (by decide +kernel) (pa_cons (pe_fld (pv 0) rfl) pa_nil)))), ?_⟩
    refine ⟨_, rfl, _, _, _, _, _, rfl, hS.ob, T.c_System, T.n_System_tables, rfl, _, _, S.tabs.map (·.1), rfl, .inl hS.tb, kv_keys _ _, by rw [List.length_map]; exact h64, fun ys p h1 h2 np => ?_⟩
    rw [srtI_eq h1 h2]
    exact q p np
theorem b_alive (T : Tx K mg) : Binds K (fdAt K (mA "System" "alive" K)) ["self"] [] := FunD.bindsN T.f_System_alive fun _ _ _ _ _ _ us hl => match us, hl with | [_], _ => rfl
/-! ### new things -/
theorem sc_Src_init : FnScope ["self", "unread", "finished"] ["self", "unread", "finished"] (defScope s_Source___init__) := ⟨rfl, rfl, rfl, by decide +kernel, rfl, by decide +kernel, by decide +kernel⟩
theorem sc_Set_init : FnScope ["self"] ["self"] (defScope s_WaitSet___init__) := ⟨rfl, rfl, rfl, by decide +kernel, rfl, by decide +kernel, by decide +kernel⟩
end
def sp_Src_init (K : PySem.W.Frag) : Sp := fun vs H Q _ => ∃ (p dx : Addr) (u : Int) (f : Bool), vs = [.ref p, .int u, .bl f] ∧ H p = some (.ins (ga K "Source") dx []) ∧ Q .non (upd H p (.ins (ga K "Source") dx (srcF u f)))
def sp_Set_init (K : PySem.W.Frag) : Sp := fun vs H Q _ => ∃ (p dx : Addr), vs = [.ref p] ∧ H p = some (.ins (ga K "WaitSet") dx []) ∧ ∀ L R, H L = none → H R = none → L ≠ R → ∀ H', (∀ b o, H b = some o → b ≠ p → H' b = some o) → H' p = some (.ins (ga K "WaitSet") dx (setF L R)) → H' L = some (.lst []) → H' R = some (.lst []) → Q .non H'
section
variable {P : Program} {w : World} {K : PySem.W.Frag} {mg : Str → Option Value} {base : Heap}
theorem ok_Src_init (T : Tx K mg) : FnOk P w K mg base CX0 1 (mA "Source" "__init__" K) (fdAt K (mA "Source" "__init__" K)) ["self", "unread", "finished"] (sp_Src_init K) := by
  refine FunD.ok T.f_Source___init__ sc_Src_init (fun vs H Q E h => ?_) (fun cdv A outer s H vs Q E hr h => ?_)
  · obtain ⟨p, dx, u, f, rfl, _⟩ := h
    rfl
  · obtain ⟨p, dx, u, f, rfl, hp, q⟩ := h
    refine ⟨_, PSs.nox (pss_cons (ps_fld (pv 0) (pv 1) rfl) (pss_one (ps_fld (pv 0) (pv 2) rfl))), ?_⟩
    refine ⟨_, rfl, _, rfl, p, _, dx, _, rfl, hp, T.c_Source, T.n_Source_unread, (by show 0 < 1000; decide), _, rfl, _, rfl, p, _, dx, _, rfl, upd_same, T.c_Source, T.n_Source_finished, (by show 1 < 1000; decide), ?_⟩
    rw [upd_upd]
    exact q
theorem b_Src0 (T : Tx K mg) : ∃ ds, Vals [.int 0, .bl false] ds ∧ Binds K (fdAt K (mA "Source" "__init__" K)) ["self", "unread", "finished"] ds := by
  have z := FunD.binds1 (ps := ["self", "unread", "finished"]) T.f_Source___init__ 1 0 (fun z => nomatch z) rfl fun T kV doc pm an cdv ct us its l1 l2 => match us, its, l1, l2 with | [_], [_, _], _, _ => ⟨_, rfl, rfl⟩
  exact z
theorem ok_Set_init (T : Tx K mg) : FnOk P w K mg base CX0 1 (mA "WaitSet" "__init__" K) (fdAt K (mA "WaitSet" "__init__" K)) ["self"] (sp_Set_init K) := by
  refine FunD.ok T.f_WaitSet___init__ sc_Set_init (fun vs H Q E h => ?_) (fun cdv A outer s H vs Q E hr h => ?_)
  · obtain ⟨p, dx, rfl, _⟩ := h
    rfl
  · obtain ⟨p, dx, rfl, hp, q⟩ := h
    refine ⟨_, PSs.nox (pss_cons (ps_fld (pv 0) (pe_lst pa_nil) rfl) (pss_one (ps_fld (pv 0) (pe_lst pa_nil) rfl))), ?_⟩
    refine ⟨by decide, fun L nL => ?_⟩
    have pL : p ≠ L := ne_of_none hp nL
    refine ⟨_, rfl, p, _, dx, _, rfl, by rw [upd_ne pL]; exact hp, T.c_WaitSet, T.n_WaitSet_entries, (by show 0 < 1000; decide), (by decide), fun R nR => ?_⟩
    have pR : p ≠ R := fun z => by rw [← z, upd_same] at nR; cases nR
    rw [upd_ne (Ne.symm pR)] at nR
    have LR : L ≠ R := fun z => by rw [← z, upd_same] at nR; cases nR
    rw [upd_ne (Ne.symm LR)] at nR
    refine ⟨_, rfl, p, _, dx, _, rfl, by rw [upd_ne pR, upd_same], T.c_WaitSet, T.n_WaitSet_row, (by show 1 < 1000; decide), ?_⟩
    refine q L R nL nR LR _ (fun b o e hb => ?_) upd_same ?_ ?_
    · rw [upd_ne hb, upd_ne (ne_of_none e nR), upd_ne hb, upd_ne (ne_of_none e nL)]
      exact e
    · rw [upd_ne (Ne.symm pL), upd_ne LR, upd_ne (Ne.symm pL), upd_same]
    · rw [upd_ne (Ne.symm pR), upd_same]
theorem b_Set0 (T : Tx K mg) : Binds K (fdAt K (mA "WaitSet" "__init__" K)) ["self"] [] := FunD.bindsN T.f_WaitSet___init__ fun _ _ _ _ _ _ us hl => match us, hl with | [_], _ => rfl
end

/-! ### the lowest free number -/
section
variable {P : Program} {w : World} {K : PySem.W.Frag} {mg : Str → Option Value} {base : Heap}
theorem ei_Full (T : Tx K mg) : FnOk P w K mg base CX0 1 (mA "Full" "__init__" K) (fdAt K (mA "Full" "__init__" K)) ["self", "process"] (spErr (ga K "Full") "process" "Full") :=
  err_init T.x_Full T.f_Full___init__ ⟨rfl, rfl, rfl, by decide +kernel, rfl, by decide +kernel, by decide +kernel⟩ rfl ⟨by decide, by decide⟩ ⟨by decide, by decide⟩ (fun _ => ⟨rfl, rfl⟩) ⟨.inl rfl, .inl rfl⟩
theorem eb_Full (T : Tx K mg) : Binds K (fdAt K (mA "Full" "__init__" K)) ["self", "process"] [] := FunD.bindsN T.f_Full___init__ fun _ _ _ _ _ _ us hl => match us, hl with | [_, _], _ => rfl
theorem b_table_of (T : Tx K mg) : Binds K (fdAt K (mA "System" "table_of" K)) ["self", "process"] [] := FunD.bindsN T.f_System_table_of fun _ _ _ _ _ _ us hl => match us, hl with | [_, _], _ => rfl
end
theorem lowFree_some {used : List Int} {n : Int} {k : Nat} (hk : (k : Int) < n) (hb : ∀ j : Nat, j < k → (j : Int) ∈ used) (hn : (k : Int) ∉ used) : lowFree used n = some (k : Int) := by
  unfold lowFree
  rw [List.find?_map]
  have e : (List.range n.toNat).find? ((fun k : Int => decide (k ∉ used)) ∘ fun (k : Nat) => (k : Int)) = some k := by
    rw [List.find?_range_eq_some]
    refine ⟨decide_eq_true hn, List.mem_range.mpr (by omega), fun j hj => ?_⟩
    show (!decide ((j : Int) ∉ used)) = true
    rw [decide_eq_false (fun z => z (hb j hj))]
    rfl
  rw [e]
  rfl
theorem lowFree_none {used : List Int} {n : Int} (hb : ∀ j : Nat, (j : Int) < n → (j : Int) ∈ used) : lowFree used n = none := by
  unfold lowFree
  rw [List.find?_eq_none]
  intro x hx
  obtain ⟨j, hj, rfl⟩ := List.mem_map.mp hx
  have := List.mem_range.mp hj
  rw [decide_eq_false (fun z => z (hb j (by omega)))]
  exact Bool.false_ne_true
theorem lowFree_spec {used : List Int} {n k : Int} (h : lowFree used n = some k) : 0 ≤ k ∧ k < n ∧ k ∉ used := by
  unfold lowFree at h
  have h1 := List.find?_some h
  obtain ⟨j, hj, rfl⟩ := List.mem_map.mp (List.mem_of_find?_eq_some h)
  have := List.mem_range.mp hj
  exact ⟨by omega, by omega, of_decide_eq_true h1⟩
def errP (x : V) : List (Str × V) := [("process", x), ("caption", .str "NoProcess")]
def errF (x : V) : List (Str × V) := [("process", x), ("caption", .str "Full")]
/-- the first argument x: no alive process, or the process i with the table t -/
def ByProc (K : PySem.W.Frag) (s : Sy) (x : V) (H : Hp) (E : XK) (R : Int → Tb → Prop) : Prop := (∃ i t, x = .int i ∧ lk s.tabs i = some t ∧ R i t) ∨ ((∀ i, x = .int i → lk s.tabs i = none) ∧ Raised K H E "NoProcess" (errP x))
def sp_lowest_free (K : PySem.W.Frag) : Sp := fun vs H Q E => ∃ (s : Sy) (x : V), vs = [.ref s.p, x] ∧ SyAt K H s ∧ Obj' H x ∧ WF s.v ∧ ByProc K s x H E fun i t => (∀ n, lowFree (t.rows.map (·.1)) s.N = some n → Q (.int n) H) ∧ (lowFree (t.rows.map (·.1)) s.N = none → Raised K H E "Full" (errF x))
section
variable {P : Program} {w : World} {K : PySem.W.Frag} {mg : Str → Option Value} {base : Heap}
theorem sc_lowest_free : FnScope ["self", "process", "table", "number"] ["self", "process"] (defScope s_System_lowest_free) := ⟨rfl, rfl, rfl, by decide +kernel, rfl, by decide +kernel, by decide +kernel⟩
theorem ok_lowest_free (T : Tx K mg) : FnOk P w K mg base (L2.CX P w) 4 (mA "System" "lowest_free" K) (fdAt K (mA "System" "lowest_free" K)) ["self", "process"] (sp_lowest_free K) := by
  refine FunD.ok T.f_System_lowest_free sc_lowest_free (fun vs H Q E h => ?_) (fun cdv A outer s H vs Q E hr h => ?_)
  · obtain ⟨x, lo, rfl, _⟩ := h
    rfl
  · obtain ⟨S, x, rfl, hS, hx, hw, q⟩ := h
    have hu := hu_of hr
    refine ⟨_, pss_cons (ps_set (i := 2) sc_lowest_free.nd rfl (Or.inl rfl) (pe_meth (pv 0) T.c_System T.m_System_table_of (ok_table_of T) hr (b_table_of T) .nil (passes_call (takes_of rfl rfl rfl rfl) (fun _ _ _ _ h => h)) (pa_cons (pv 1) pa_nil)))
      (pss_cons (ps_for (passes_of rfl) rfl (pi_range1 (by rfl) T.free_range (pa_cons (pe_fld (pv 0) rfl) pa_nil)) (pg_name (i := 3) sc_lowest_free.nd rfl (Or.inl rfl))
        (pss_one (ps_if (pt_cmp (pc_dnotin hu (pv 3) (pv 2))) (pss_one (ps_ret (pv 3))) pss_nil)))
      (pss_one (ps_raise rfl (takes_of rfl rfl rfl rfl) (pmk_err T.x_Full (ei_Full T) (hr.mono (by decide)) (eb_Full T) pass0 (by rfl) T.g_Full (pv 1))))), ?_⟩
    refine ⟨_, rfl, S.p, S.dx, _, rfl, hS.ob, rfl, _, rfl, S, x, rfl, hS, hx, ?_⟩
    rcases q with ⟨i, t, rfl, hl, q1, q2⟩ | ⟨hn, q⟩
    · refine .inl ⟨i, t, rfl, hl, ?_⟩
      have ht := hS.tt _ (lk_mem hl)
      have hN := hw.n
      refine ⟨_, rfl, _, _, _, _, _, rfl, hS.ob, T.c_System, T.n_System_number_limit, rfl, S.N, rfl, (by have : S.v.N = S.N := rfl; omega), (by have : S.v.N = S.N := rfl; omega), ?_⟩
      refine for_range (lo := 0) (n := S.N.toNat) (fun k σ H' => H' = H ∧ (∃ v, σ = [some (.ref S.p), some (.int i), some (.ref t.ad), v]) ∧ ∀ j : Nat, j < k → (j : Int) ∈ t.rows.map (·.1)) ⟨rfl, ⟨_, rfl⟩, fun j hj => absurd hj (Nat.not_lt_zero _)⟩ ?_ ?_
      · rintro k σ H' hk ⟨rfl, ⟨v, rfl⟩, hb⟩
        have e0 : (0 : Int) + (k : Int) = (k : Int) := Int.zero_add _
        rw [e0]
        refine ⟨_, rfl, _, rfl, _, _, rfl, DGet.k (k := Sum.inl (k : Int)) ht, _, rfl, ?_⟩
        rw [val_kv, Option.isSome_map]
        cases e : lk t.rows (k : Int) with
        | none =>
          refine iteT ?_
          exact ⟨_, rfl, q1 _ (lowFree_some (by omega) hb (lk_none.mp e))⟩
        | some z =>
          refine iteF ?_
          refine ⟨rfl, ⟨_, rfl⟩, fun j hj => ?_⟩
          by_cases c : j < k
          · exact hb j c
          · have : j = k := by omega
            subst this
            exact List.mem_map.mpr ⟨_, lk_mem e, rfl⟩
      · rintro σ H' ⟨rfl, ⟨v, rfl⟩, hb⟩
        exact ⟨_, rfl, fun d hd => (q2 (lowFree_none fun j hj => hb j (by omega))).here hd⟩
    · exact .inr ⟨hn, q⟩
theorem b_lowest_free (T : Tx K mg) : Binds K (fdAt K (mA "System" "lowest_free" K)) ["self", "process"] [] := FunD.bindsN T.f_System_lowest_free fun _ _ _ _ _ _ us hl => match us, hl with | [_, _], _ => rfl
end

/-! ### things are placed in a table -/
structure Apart (s : Sy) (t : Th) : Prop where
  ad : t.ad ∉ s.foot
  ls : ∀ x ∈ t.tg.lsts, x ∉ s.foot
  en : ∀ x ∈ t.tg.ents, x ∉ s.foot
  n2 : t.tg.lsts.Nodup
  n3 : t.tg.ents.Nodup
structure Placed (K : PySem.W.Frag) (s s' : Sy) (H H' : Hp) (t : Th) (i n : Int) : Prop where
  at_ : SyAt K H' s'
  v : s'.v = s.v.place i n t.tg.v
  p : s'.p = s.p
  keep : ∀ b o, H b = some o → b ∉ s.foot → H' b = some o
  foot : ∀ b ∈ s'.foot, b ∈ s.foot ∨ b = t.ad ∨ b ∈ t.tg.lsts ∨ b ∈ t.tg.ents
def sp_placed (K : PySem.W.Frag) : Sp := fun vs H Q E => ∃ (s : Sy) (x : V) (t : Th), vs = [.ref s.p, x, .ref t.ad] ∧ SyAt K H s ∧ Obj' H x ∧ WF s.v ∧ (0 ≤ s.made ∧ s.made ≤ 1000000) ∧ TgAt K H t.ad t.tg ∧ Apart s t ∧
  ByProc K s x H E fun i tb => (∀ n, lowFree (tb.rows.map (·.1)) s.N = some n → ∀ H' s', Placed K s s' H H' t i n → Q (.int n) H') ∧ (lowFree (tb.rows.map (·.1)) s.N = none → Raised K H E "Full" (errF x))
section
variable {P : Program} {w : World} {K : PySem.W.Frag} {mg : Str → Option Value} {base : Heap}
theorem WF.fresh {s : Sy} (h : WF s.v) (hm : 0 ≤ s.made) : lk s.ths s.made = none := by
  rw [lk_none, ← Sy.sers]
  intro z
  obtain ⟨t, ht, e⟩ := List.mem_map.mp z
  have := h.rs t ht
  have e2 : s.v.made = s.made := rfl
  omega
theorem placed_of {H : Hp} {s : Sy} {t : Th} {i n : Int} {tb : Tb} (S : SyAt K H s) (hw : WF s.v) (A : Apart s t) (ht : TgAt K H t.ad t.tg) (hl : lk s.tabs i = some tb) :
    Placed K s ({ ({ ({ s with ths := s.ths ++ [(s.made, t)] } : Sy) with tabs := upAt s.tabs i (Tb.fn (· ++ [(n, s.made)])) } : Sy) with made := s.made + 1 } : Sy) H
      (upd (upd (upd H s.G (.dK (kv thV (s.ths ++ [(s.made, t)])))) tb.ad (.dK (kv V.int (tb.rows ++ [(n, s.made)])))) s.p (.ins (ga K "System") s.dx (sysF s.P s.N s.T s.G (s.made + 1)))) t i n := by
  have S1 := S.thing (n := s.made) ht A.ad A.ls A.en A.n2 A.n3
  have S2 := S1.rows (i := i) (t := tb) (f := (· ++ [(n, s.made)])) hl (by rw [← Sy.pids]; exact hw.ndp)
  have S3 := S2.count (s.made + 1)
  refine ⟨S3, ?_, rfl, fun b o e nb => ?_, fun b hb => ?_⟩
  · show (⟨s.P, s.N, s.made + 1, (upAt s.tabs i (Tb.fn (· ++ [(n, s.made)]))).map (fun t => (t.1, t.2.rows)), (s.ths ++ [(s.made, t)]).map (fun t => (t.1, t.2.tg.v))⟩ : Sv) = _
    rw [upAt_map (fun t : Tb => t.rows) (Tb.fn (· ++ [(n, s.made)])) (· ++ [(n, s.made)]) (fun _ => rfl), List.map_append]
    rfl
  · have b1 : b ≠ s.p := fun z => nb (z ▸ List.mem_cons_self)
    have b2 : b ≠ tb.ad := fun z => nb (Sy.in_dcs (z ▸ List.mem_cons_of_mem _ (List.mem_cons_of_mem _ (List.mem_map.mpr ⟨_, lk_mem hl, rfl⟩))))
    have b3 : b ≠ s.G := fun z => nb (Sy.in_dcs (z ▸ List.mem_cons_of_mem _ List.mem_cons_self))
    rw [upd_ne b1, upd_ne b2, upd_ne b3]
    exact e
  · have ads : (upAt s.tabs i (Tb.fn (· ++ [(n, s.made)]))).map (·.2.ad) = s.tabs.map (·.2.ad) := by
      unfold upAt
      rw [List.map_map]
      refine List.map_congr_left fun u _ => ?_
      show (if u.1 = i then (u.1, Tb.fn (· ++ [(n, s.made)]) u.2) else u).2.ad = u.2.ad
      split <;> rfl
    rcases Sy.foot_cases hb with z | z | z | z | z
    · exact .inl (z ▸ List.mem_cons_self)
    · have z' : b ∈ s.T :: s.G :: (upAt s.tabs i (Tb.fn (· ++ [(n, s.made)]))).map (·.2.ad) := z
      rw [ads] at z'
      exact .inl (Sy.in_dcs z')
    · have z' : b ∈ (s.ths ++ [(s.made, t)]).map (·.2.ad) := z
      rw [List.map_append] at z'
      rcases List.mem_append.mp z' with y | y
      · exact .inl (Sy.in_ths y)
      · exact .inr (.inl (List.mem_singleton.mp y))
    · have z' : b ∈ (s.ths ++ [(s.made, t)]).flatMap (·.2.tg.lsts) := z
      rw [List.flatMap_append] at z'
      rcases List.mem_append.mp z' with y | y
      · exact .inl (Sy.in_lsts y)
      · exact .inr (.inr (.inl (by simpa using y)))
    · have z' : b ∈ (s.ths ++ [(s.made, t)]).flatMap (·.2.tg.ents) := z
      rw [List.flatMap_append] at z'
      rcases List.mem_append.mp z' with y | y
      · exact .inl (Sy.in_ents y)
      · exact .inr (.inr (.inr (by simpa using y)))
theorem sc_placed : FnScope ["self", "process", "thing", "number"] ["self", "process", "thing"] (defScope s_System_placed) := ⟨rfl, rfl, rfl, by decide +kernel, rfl, by decide +kernel, by decide +kernel⟩
theorem ok_placed (T : Tx K mg) : FnOk P w K mg base (L2.CX P w) 5 (mA "System" "placed" K) (fdAt K (mA "System" "placed" K)) ["self", "process", "thing"] (sp_placed K) := by
  refine FunD.ok T.f_System_placed sc_placed (fun vs H Q E h => ?_) (fun cdv A outer s H vs Q E hr h => ?_)
  · obtain ⟨s, x, t, rfl, _⟩ := h
    rfl
  · obtain ⟨S, x, t, rfl, hS, hx, hw, hm, ht, hA, q⟩ := h
    have hu := hu_of hr
    refine ⟨_, pss_cons (ps_set (i := 3) sc_placed.nd rfl (Or.inl rfl) (pe_meth (pv 0) T.c_System T.m_System_lowest_free (ok_lowest_free T) hr (b_lowest_free T) .nil (passes_call (takes_of rfl rfl rfl rfl) (fun _ _ _ _ h => h)) (pa_cons (pv 1) pa_nil)))
      (pss_cons (ps_dput hu (pe_fld (pv 0) rfl) (pe_fld (pv 0) rfl) (pv 2) rfl)
      (pss_cons (ps_dput hu (pe_dget hu (pe_fld (pv 0) rfl) (pv 1) (fun _ _ => rfl)) (pv 3) (pe_fld (pv 0) rfl) rfl)
      (pss_cons (ps_fldaug (pv 0) pe_int in_add)
      (pss_one (ps_ret (pv 3)))))), ?_⟩
    refine ⟨_, rfl, S.p, S.dx, _, rfl, hS.ob, rfl, _, rfl, S, x, rfl, hS, hx, hw, ?_⟩
    rcases q with ⟨i, tb, rfl, hl, q1, q2⟩ | ⟨hn, q⟩
    · refine .inl ⟨i, tb, rfl, hl, fun n hn => ?_, q2⟩
      have S1 := hS.thing (n := S.made) ht hA.ad hA.ls hA.en hA.n2 hA.n3
      have hlen : S.ths.length ≤ S.made.toNat := by
        have := hw.thsM
        rw [show S.v.ths.length = S.ths.length from List.length_map ..] at this
        exact this
      have hsz : (1000001 : Nat) < sizeLine := by decide
      have g1 := DPut.k (k := Sum.inl S.made) (v := thV t) hS.gb (show (kv thV S.ths).length < sizeLine from by rw [kv_len]; omega)
      rw [put_kv thV S.made t (hw.fresh hm.1)] at g1
      refine ⟨_, rfl, _, rfl, _, _, _, _, _, rfl, hS.ob, T.c_System, T.n_System_things, rfl, _, rfl, _, _, _, _, _, rfl, hS.ob, T.c_System, T.n_System_serials_made, rfl, _, _, rfl, g1, ?_⟩
      have g2 := DGet.k (k := Sum.inl i) S1.tb
      rw [val_kv, hl] at g2
      have hf := lowFree_spec hn
      have r8 : tb.rows.length ≤ 8 := hw.rows8 (t := (i, tb.rows)) (List.mem_map.mpr ⟨_, lk_mem hl, rfl⟩)
      have g3 := DPut.k (k := Sum.inl n) (v := .int S.made) (S1.tt _ (lk_mem hl)) (by rw [kv_len]; exact Nat.lt_of_le_of_lt r8 (by decide))
      rw [put_kv V.int n S.made (lk_none.mpr hf.2.2)] at g3
      refine ⟨_, rfl, _, _, _, _, _, rfl, S1.ob, T.c_System, T.n_System_serials_made, rfl, _, rfl, _, _, _, _, _, rfl, S1.ob, T.c_System, T.n_System_tables, rfl, _, rfl, _, _, rfl, g2, _, rfl, _, _, rfl, g3, ?_⟩
      have S2 := S1.rows (i := i) (t := tb) (f := (· ++ [(n, S.made)])) hl (by rw [← Sy.pids]; exact hw.ndp)
      refine ⟨_, rfl, _, _, _, _, _, rfl, S2.ob, T.c_System, T.n_System_serials_made, rfl, _, _, rfl, rfl, _, _, S2.ob, (by show 5 < 1000; decide), _, rfl, ?_⟩
      exact q1 n hn _ _ (placed_of hS hw hA ht hl)
    · exact .inr ⟨hn, q⟩
theorem b_placed (T : Tx K mg) : Binds K (fdAt K (mA "System" "placed" K)) ["self", "process", "thing"] [] := FunD.bindsN T.f_System_placed fun _ _ _ _ _ _ us hl => match us, hl with | [_, _, _], _ => rfl
end
/-! ### new sources and sets -/
def sp_new (K : PySem.W.Frag) (tv : Tv) : Sp := fun vs H Q E => ∃ (s : Sy) (x : V), vs = [.ref s.p, x] ∧ SyAt K H s ∧ Obj' H x ∧ WF s.v ∧ (0 ≤ s.made ∧ s.made ≤ 1000000) ∧
  ByProc K s x H E fun i tb => (∀ n, lowFree (tb.rows.map (·.1)) s.N = some n → ∀ H' s', SyAt K H' s' → s'.v = s.v.place i n tv → Fr' s s' H H' → Q (.int n) H') ∧ (lowFree (tb.rows.map (·.1)) s.N = none → Raised K H E "Full" (errF x))
section
variable {P : Program} {w : World} {K : PySem.W.Frag} {mg : Str → Option Value} {base : Heap}
theorem sc_new_source : FnScope ["self", "process"] ["self", "process"] (defScope s_System_new_source) := ⟨rfl, rfl, rfl, by decide +kernel, rfl, by decide +kernel, by decide +kernel⟩
theorem ByProc.ext {s : Sy} {x : V} {H H1 : Hp} {E : XK} {R R' : Int → Tb → Prop} (e : Same H H1) (h : ByProc K s x H E R) (r : ∀ i t, lk s.tabs i = some t → R i t → R' i t) : ByProc K s x H1 E R' := by
  rcases h with ⟨i, t, rfl, hl, q⟩ | ⟨hn, q⟩
  · exact .inl ⟨i, t, rfl, hl, r i t hl q⟩
  · exact .inr ⟨hn, q.ext e⟩
/-- a thing that was made anew is placed -/
theorem new_placed {s s' : Sy} {H H1 H' : Hp} {t : Th} {i n : Int} (e : Same H H1) (n1 : H t.ad = none) (n2 : ∀ x ∈ t.tg.lsts, H x = none) (n3 : t.tg.ents = []) (P : Placed K s s' H1 H' t i n) : Fr' s s' H H' := by
  refine ⟨fun b o h nb => P.keep b o (e b o h) nb, fun b hb => ?_, P.p⟩
  rcases P.foot b hb with z | z | z | z
  · exact .inl z
  · exact .inr (z ▸ n1)
  · exact .inr (n2 b z)
  · rw [n3] at z
    cases z
theorem SyAt.notfoot {s : Sy} {H : Hp} (S : SyAt K H s) {b : Addr} (h : H b = none) : b ∉ s.foot := fun z => by
  obtain ⟨o, e⟩ := S.some_of z
  rw [h] at e
  cases e
theorem ok_new_source (T : Tx K mg) : FnOk P w K mg base (L2.CX P w) 6 (mA "System" "new_source" K) (fdAt K (mA "System" "new_source" K)) ["self", "process"] (sp_new K (.src 0 false)) := by
  refine FunD.ok T.f_System_new_source sc_new_source (fun vs H Q E h => ?_) (fun cdv A outer s H vs Q E hr h => ?_)
  · obtain ⟨s, x, rfl, _⟩ := h
    rfl
  · obtain ⟨S, x, rfl, hS, hx, hw, hm, q⟩ := h
    obtain ⟨ds, hds, hb⟩ := b_Src0 T
    refine ⟨_, pss_one (ps_ret (pe_meth (pv 0) T.c_System T.m_System_placed (ok_placed T) hr (b_placed T) .nil (passes_call (takes_of rfl rfl rfl rfl) (fun _ _ _ _ h => h)) (pa_cons (pv 1) (pa_cons (pe_make0 T.k_Source (ok_Src_init T) (hr.mono (by decide)) (by rfl) T.g_Source hb hds pass0) pa_nil)))), ?_⟩
    refine ⟨_, rfl, S.p, S.dx, _, rfl, hS.ob, rfl, _, rfl, fun a dx na nd ne => ?_⟩
    refine ⟨a, dx, 0, false, rfl, upd_same, rfl, ?_⟩
    rw [upd_upd]
    have e1 : Same H (upd (upd H dx (.own a)) a (.ins (ga K "Source") dx (srcF 0 false))) := (new_same nd).trans (new_same (by rw [upd_ne (Ne.symm ne)]; exact na))
    refine ⟨S, x, ⟨a, .src dx 0 false⟩, rfl, hS.ext e1, hx.same e1, hw, hm, upd_same, ⟨hS.notfoot na, fun x h => (nomatch h), fun x h => (nomatch h), List.nodup_nil, List.nodup_nil⟩, ?_⟩
    refine q.ext e1 fun i tb hl ⟨q1, q2⟩ => ⟨fun n hn H' s' P => q1 n hn H' s' P.at_ P.v (new_placed (t := ⟨a, .src dx 0 false⟩) e1 na (fun x h => (nomatch h)) rfl P), fun z => (q2 z).ext e1⟩
theorem b_new_source (T : Tx K mg) : Binds K (fdAt K (mA "System" "new_source" K)) ["self", "process"] [] := FunD.bindsN T.f_System_new_source fun _ _ _ _ _ _ us hl => match us, hl with | [_, _], _ => rfl
theorem sc_new_set : FnScope ["self", "process"] ["self", "process"] (defScope s_System_new_set) := ⟨rfl, rfl, rfl, by decide +kernel, rfl, by decide +kernel, by decide +kernel⟩
theorem ok_new_set (T : Tx K mg) : FnOk P w K mg base (L2.CX P w) 6 (mA "System" "new_set" K) (fdAt K (mA "System" "new_set" K)) ["self", "process"] (sp_new K (.set [] [])) := by
  refine FunD.ok T.f_System_new_set sc_new_set (fun vs H Q E h => ?_) (fun cdv A outer s H vs Q E hr h => ?_)
  · obtain ⟨s, x, rfl, _⟩ := h
    rfl
  · obtain ⟨S, x, rfl, hS, hx, hw, hm, q⟩ := h
    refine ⟨_, pss_one (ps_ret (pe_meth (pv 0) T.c_System T.m_System_placed (ok_placed T) hr (b_placed T) .nil (passes_call (takes_of rfl rfl rfl rfl) (fun _ _ _ _ h => h)) (pa_cons (pv 1) (pa_cons (pe_make0 T.k_WaitSet (ok_Set_init T) (hr.mono (by decide)) (by rfl) T.g_WaitSet (b_Set0 T) .nil pass0) pa_nil)))), ?_⟩
    refine ⟨_, rfl, S.p, S.dx, _, rfl, hS.ob, rfl, _, rfl, fun a dx na nd ne => ?_⟩
    refine ⟨a, dx, rfl, upd_same, fun L R nL nR LR H1 kp h1 h2 h3 => ⟨rfl, ?_⟩⟩
    have La : L ≠ a := fun z => by rw [z, upd_same] at nL; cases nL
    have Ra : R ≠ a := fun z => by rw [z, upd_same] at nR; cases nR
    rw [upd_ne La] at nL
    rw [upd_ne Ra] at nR
    have Ld : L ≠ dx := fun z => by rw [z, upd_same] at nL; cases nL
    have Rd : R ≠ dx := fun z => by rw [z, upd_same] at nR; cases nR
    rw [upd_ne Ld] at nL
    rw [upd_ne Rd] at nR
    have e1 : Same H H1 := fun b o e => kp b o (by rw [upd_ne (ne_of_none e na), upd_ne (ne_of_none e nd)]; exact e) (ne_of_none e na)
    have nls : ∀ x ∈ [L, R], H x = none := fun x hx => by
      rcases List.mem_cons.mp hx with z | z
      · exact z ▸ nL
      · exact (List.mem_singleton.mp z) ▸ nR
    refine ⟨S, x, ⟨a, .set dx L R [] []⟩, rfl, hS.ext e1, hx.same e1, hw, hm, ⟨h1, h2, h3, fun e he => (nomatch he)⟩, ⟨hS.notfoot na, fun x hx => hS.notfoot (nls x hx), fun x h => (nomatch h), ?_, List.nodup_nil⟩, ?_⟩
    · show [L, R].Nodup
      simp [LR]
    refine q.ext e1 fun i tb hl ⟨q1, q2⟩ => ⟨fun n hn H' s' P => q1 n hn H' s' P.at_ P.v (new_placed (t := ⟨a, .set dx L R [] []⟩) e1 na nls rfl P), fun z => (q2 z).ext e1⟩
theorem b_new_set (T : Tx K mg) : Binds K (fdAt K (mA "System" "new_set" K)) ["self", "process"] [] := FunD.bindsN T.f_System_new_set fun _ _ _ _ _ _ us hl => match us, hl with | [_, _], _ => rfl
end

/-! ### a new process -/
def errR : List (Str × V) := [("caption", .str "NoRoom")]
structure Forked (K : PySem.W.Frag) (s s' : Sy) (H H' : Hp) (c : Int) (rows : List (Int × Int)) : Prop where
  at_ : SyAt K H' s'
  v : s'.v = s.v.fork c rows
  fr : Fr' s s' H H'
def sp_fork (K : PySem.W.Frag) : Sp := fun vs H Q E => ∃ (s : Sy) (x : V), vs = [.ref s.p, x] ∧ SyAt K H s ∧ Obj' H x ∧ WF s.v ∧
  ByProc K s x H E fun i tb => (∀ c, lowFree (s.tabs.map (·.1)) s.P = some c → ∀ H' s', Forked K s s' H H' c tb.rows → Q (.int c) H') ∧ (lowFree (s.tabs.map (·.1)) s.P = none → Raised K H E "NoRoom" errR)
section
variable {P : Program} {w : World} {K : PySem.W.Frag} {mg : Str → Option Value} {base : Heap}
theorem ei_NoRoom (T : Tx K mg) : FnOk P w K mg base CX0 1 (mA "NoRoom" "__init__" K) (fdAt K (mA "NoRoom" "__init__" K)) ["self"] (spErr0 (ga K "NoRoom") "NoRoom") :=
  err_init0 T.x_NoRoom T.f_NoRoom___init__ ⟨rfl, rfl, rfl, by decide +kernel, rfl, by decide +kernel, by decide +kernel⟩ rfl (by decide) (fun _ => rfl) (.inl rfl)
theorem eb_NoRoom (T : Tx K mg) : Binds K (fdAt K (mA "NoRoom" "__init__" K)) ["self"] [] := FunD.bindsN T.f_NoRoom___init__ fun _ _ _ _ _ _ us hl => match us, hl with | [_], _ => rfl
theorem sc_fork : FnScope ["self", "process", "table", "child", "number"] ["self", "process"] (defScope s_System_fork) := ⟨rfl, rfl, rfl, by decide +kernel, rfl, by decide +kernel, by decide +kernel⟩
theorem ok_fork (T : Tx K mg) : FnOk P w K mg base (L2.CX P w) 4 (mA "System" "fork" K) (fdAt K (mA "System" "fork" K)) ["self", "process"] (sp_fork K) := by
  refine FunD.ok T.f_System_fork sc_fork (fun vs H Q E h => ?_) (fun cdv A outer s H vs Q E hr h => ?_)
  · obtain ⟨x, lo, rfl, _⟩ := h
    rfl
  · obtain ⟨S, x, rfl, hS, hx, hw, q⟩ := h
    have hu := hu_of hr
    refine ⟨_, pss_cons (ps_set (i := 2) sc_fork.nd rfl (Or.inr rfl) (pe_meth (pv 0) T.c_System T.m_System_table_of (ok_table_of T) hr (b_table_of T) .nil (passes_call (takes_of rfl rfl rfl rfl) (fun _ _ _ _ h => h)) (pa_cons (pv 1) pa_nil)))
      (pss_cons (ps_for (passes_of rfl) rfl (pi_range1 (by rfl) T.free_range (pa_cons (pe_fld (pv 0) rfl) pa_nil)) (pg_name (i := 3) sc_fork.nd rfl (Or.inl rfl))
        (pss_one (ps_if (pt_cmp (pc_dnotin hu (pv 3) (pe_fld (pv 0) rfl)))
          (pss_cons (ps_dput hu (pe_fld (pv 0) rfl) (pv 3)
            (pe_lock (pe_dc (own := [("number", 4)]) (g := gName 4) (tt := tYes) rfl sc_fork.nd (pi_keys (pv 2)) (blkOk_by (N := ["self", "process", "table", "child", "number"]) (sc := defScope s_System_fork) (by decide +kernel))
              (fun _ _ _ _ _ => pg_name (i := 4) sc_fork.nd rfl (Or.inl rfl)) (fun _ _ _ _ _ => pts_nil) (fun _ _ _ _ _ => pv 4) (fun _ _ _ _ _ => pe_dget hu (pv 2) (pv 4) (fun _ _ => rfl)))) rfl)
          (pss_one (ps_ret (pv 3)))) pss_nil)))
      (pss_one (ps_raise rfl (takes_of rfl rfl rfl rfl) (pmk_err0 T.x_NoRoom (ei_NoRoom T) (hr.mono (by decide)) (eb_NoRoom T) pass0 (by rfl) T.g_NoRoom)))), ?_⟩
    refine ⟨_, rfl, S.p, S.dx, _, rfl, hS.ob, rfl, _, rfl, S, x, rfl, hS, hx, ?_⟩
    rcases q with ⟨i, t, rfl, hl, q1, q2⟩ | ⟨hn, q⟩
    · refine .inl ⟨i, t, rfl, hl, ?_⟩
      have ht := hS.tt _ (lk_mem hl)
      have hP := hw.p
      refine ⟨_, rfl, _, _, _, _, _, rfl, hS.ob, T.c_System, T.n_System_process_limit, rfl, S.P, rfl, (by have : S.v.P = S.P := rfl; omega), (by have : S.v.P = S.P := rfl; omega), ?_⟩
      refine for_range (lo := 0) (n := S.P.toNat) (fun k σ H' => H' = H ∧ (∃ v v4, σ = [some (.ref S.p), some (.int i), some (.ref t.ad), v, v4]) ∧ ∀ j : Nat, j < k → (j : Int) ∈ S.tabs.map (·.1)) ⟨rfl, ⟨_, _, rfl⟩, fun j hj => absurd hj (Nat.not_lt_zero _)⟩ ?_ ?_
      · rintro k σ H' hk ⟨rfl, ⟨v, v4, rfl⟩, hb⟩
        have e0 : (0 : Int) + (k : Int) = (k : Int) := Int.zero_add _
        rw [e0]
        refine ⟨_, rfl, _, rfl, _, _, _, _, _, rfl, hS.ob, T.c_System, T.n_System_tables, rfl, _, _, rfl, DGet.k (k := Sum.inl (k : Int)) hS.tb, _, rfl, ?_⟩
        rw [val_kv, Option.isSome_map]
        cases e : lk S.tabs (k : Int) with
        | none =>
          refine iteT ?_
          have ef := lowFree_some (n := S.P) (by omega) hb (lk_none.mp e)
          have nd : (t.rows.map (·.1)).Nodup := hw.ndn (i, t.rows) (List.mem_map.mpr ⟨_, lk_mem hl, rfl⟩)
          refine ⟨t.ad, _, ht, True.intro, fun od => ?_⟩
          refine ⟨_, rfl, t.ad, od, rfl, .inl ⟨_, upd_same, fun D nD => ?_⟩⟩
          have nDt : D ≠ t.ad := fun z => by rw [z, upd_same] at nD; cases nD
          rw [upd_ne nDt] at nD
          have key : ∀ {H3 : Hp}, H3 = upd (upd H' t.ad (.frz od (.dK (kv V.int t.rows)))) D (.dK (kv V.int t.rows)) → upd H3 t.ad (.dK (kv V.int t.rows)) = upd H' D (.dK (kv V.int t.rows)) := fun {H3} e => by
            rw [e, upd_comm nDt, upd_upd, upd_idem ht]
          refine dc_it walk_keys (fun j H3 => H3 = upd (upd H' t.ad (.frz od (.dK (kv V.int t.rows)))) D (.dK (kv V.int (t.rows.take j)))) rfl (fun j H3 hj e => by rw [e, upd_ne (Ne.symm nDt), upd_same]) (fun j x H3 H4 hj e3 y => ?_) (fun H3 e3 => ?_)
          · obtain ⟨rfl, kk, vv, g1, rfl⟩ := y
            obtain ⟨r, hr', rfl, rfl⟩ := kv_get g1
            subst e3
            refine ⟨rfl, ?_⟩
            have lkr : lk t.rows r.1 = some r.2 := lk_of_mem nd (List.mem_of_getElem? hr')
            have dg : DGet (upd (upd H' t.ad (.frz od (.dK (kv V.int t.rows)))) D (.dK (kv V.int (t.rows.take j)))) t.ad (.int r.1) (some (.int r.2)) := .inl ⟨_, Sum.inl r.1, .inr ⟨od, by rw [upd_ne (Ne.symm nDt), upd_same]⟩, rfl, by rw [val_kv, lkr]; rfl⟩
            refine ⟨_, rfl, _, rfl, _, rfl, _, _, rfl, dg, _, Sum.inl r.1, rfl, upd_same, ?_, ?_⟩
            · rw [kv_len]
              have : (t.rows.take j).length ≤ t.rows.length := by rw [List.length_take]; exact Nat.min_le_right _ _
              have r8 : t.rows.length ≤ 8 := hw.rows8 (t := (i, t.rows)) (List.mem_map.mpr ⟨_, lk_mem hl, rfl⟩)
              exact Nat.lt_of_le_of_lt (Nat.le_trans this r8) (by decide)
            · rw [take_put nd hr', upd_upd]
          · rw [kv_len, List.take_length] at e3
            refine ⟨by rw [e3, upd_ne (Ne.symm nDt), upd_same], ?_⟩
            rw [key e3]
            have S1 := hS.ext (new_same (o := .dK (kv V.int t.rows)) nD)
            have g1 := DPut.k (k := Sum.inl (k : Int)) (v := tbV ⟨D, t.rows⟩) S1.tb (show (kv tbV S.tabs).length < sizeLine from by
              rw [kv_len]
              have := hw.tabs6
              rw [show S.v.tabs.length = S.tabs.length from List.length_map ..] at this
              exact Nat.lt_of_le_of_lt this (by decide))
            rw [put_kv tbV (k : Int) ⟨D, t.rows⟩ e] at g1
            refine ⟨_, rfl, _, _, _, _, _, rfl, S1.ob, T.c_System, T.n_System_tables, rfl, _, rfl, _, _, rfl, g1, _, rfl, ?_⟩
            have S2 := S1.proc (n := (k : Int)) (t := ⟨D, t.rows⟩) upd_same (hS.notfoot nD)
            refine q1 _ ef _ _ ⟨S2, ?_, ⟨fun b o eb nb => ?_, fun b hb => ?_, rfl⟩⟩
            · show (⟨S.P, S.N, S.made, (S.tabs ++ [((k : Int), (⟨D, t.rows⟩ : Tb))]).map (fun t : Int × Tb => (t.1, t.2.rows)), S.ths.map (fun t : Int × Th => (t.1, t.2.tg.v))⟩ : Sv) = _
              rw [List.map_append]
              rfl
            · rw [upd_ne (show b ≠ S.T from fun z => nb (z ▸ Sy.in_dcs List.mem_cons_self)), upd_ne (ne_of_none eb nD)]
              exact eb
            · rcases Sy.foot_cases hb with z | z | z | z | z
              · exact .inl (z ▸ List.mem_cons_self)
              · have z' : b ∈ S.T :: S.G :: (S.tabs ++ [((k : Int), (⟨D, t.rows⟩ : Tb))]).map (·.2.ad) := z
                rw [List.map_append] at z'
                have z2 : b ∈ S.dcs ∨ b = D := by
                  rcases List.mem_cons.mp z' with y | y
                  · exact .inl (y ▸ List.mem_cons_self)
                  · rcases List.mem_cons.mp y with y | y
                    · exact .inl (y ▸ List.mem_cons_of_mem _ List.mem_cons_self)
                    · rcases List.mem_append.mp y with y | y
                      · exact .inl (List.mem_cons_of_mem _ (List.mem_cons_of_mem _ y))
                      · exact .inr (List.mem_singleton.mp y)
                rcases z2 with y | y
                · exact .inl (Sy.in_dcs y)
                · exact .inr (y ▸ nD)
              · exact .inl (Sy.in_ths z)
              · exact .inl (Sy.in_lsts z)
              · exact .inl (Sy.in_ents z)
        | some z =>
          refine iteF ?_
          refine ⟨rfl, ⟨_, _, rfl⟩, fun j hj => ?_⟩
          by_cases c : j < k
          · exact hb j c
          · have : j = k := by omega
            subst this
            exact List.mem_map.mpr ⟨_, lk_mem e, rfl⟩
      · rintro σ H' ⟨rfl, ⟨v, v4, rfl⟩, hb⟩
        exact fun d hd => (q2 (lowFree_none fun j hj => hb j (by omega))).here hd
    · exact .inr ⟨hn, q⟩
theorem b_fork (T : Tx K mg) : Binds K (fdAt K (mA "System" "fork" K)) ["self", "process"] [] := FunD.bindsN T.f_System_fork fun _ _ _ _ _ _ us hl => match us, hl with | [_, _], _ => rfl
end

/-! ### kinds, and the numbers of a process -/
def Tv.kind : Tv → Str
  | .src _ _ => "source"
  | .set _ _ => "set"
def sp_kind (x : Str) : Sp := fun vs H Q _ => ∃ v, vs = [v] ∧ Q (.str x) H
def kindAt (v : Sv) (rows : List (Int × Int)) (n : Int) : Str := match lk rows n with
  | none => ""
  | some ser => match lk v.ths ser with
    | none => ""
    | some t => t.kind
def numsD (v : Sv) (rows : List (Int × Int)) : List PyData := (srtI (rows.map (·.1))).map fun n => .tuple [.int n, .str (kindAt v rows n)]
/-- a new list of data -/
structure NewD (K : PySem.W.Frag) (H H' : Hp) (v : V) (d : PyData) : Prop where
  same : Same H H'
  dat : Dp K (frs H H') v d
theorem NewD.dp {K : PySem.W.Frag} {H H' : Hp} {v : V} {d : PyData} (n : NewD K H H' v d) : Dp K H' v d := Dp.same frs_le _ _ n.dat
def sp_numbers (K : PySem.W.Frag) : Sp := fun vs H Q E => ∃ (s : Sy) (x : V), vs = [.ref s.p, x] ∧ SyAt K H s ∧ Obj' H x ∧ WF s.v ∧
  ByProc K s x H E fun _ t => ∀ H' p, NewD K H H' (.ref p) (.list (numsD s.v t.rows)) → Q (.ref p) H'
section
variable {P : Program} {w : World} {K : PySem.W.Frag} {mg : Str → Option Value} {base : Heap}
theorem sc_kind1 : FnScope ["self"] ["self"] (defScope s_Source_kind) := ⟨rfl, rfl, rfl, by decide +kernel, rfl, by decide +kernel, by decide +kernel⟩
theorem sc_kind2 : FnScope ["self"] ["self"] (defScope s_WaitSet_kind) := ⟨rfl, rfl, rfl, by decide +kernel, rfl, by decide +kernel, by decide +kernel⟩
theorem ok_kind1 (T : Tx K mg) : FnOk P w K mg base CX0 1 (pA "Source" "kind" K) (fdAt K (pA "Source" "kind" K)) ["self"] (sp_kind "source") := by
  refine FunD.ok T.f_Source_kind sc_kind1 (fun vs H Q E h => ?_) (fun cdv A outer s H vs Q E hr h => ?_)
  · obtain ⟨x, rfl, _⟩ := h
    rfl
  · obtain ⟨x, rfl, q⟩ := h
    obtain ⟨t, ht⟩ := T.t_SOURCE
    exact ⟨_, PSs.nox (pss_one (ps_ret (pe_glob (v := .str "source") (by rfl) ht ⟨_, rfl⟩))), q⟩
theorem ok_kind2 (T : Tx K mg) : FnOk P w K mg base CX0 1 (pA "WaitSet" "kind" K) (fdAt K (pA "WaitSet" "kind" K)) ["self"] (sp_kind "set") := by
  refine FunD.ok T.f_WaitSet_kind sc_kind2 (fun vs H Q E h => ?_) (fun cdv A outer s H vs Q E hr h => ?_)
  · obtain ⟨x, rfl, _⟩ := h
    rfl
  · obtain ⟨x, rfl, q⟩ := h
    obtain ⟨t, ht⟩ := T.t_SET
    exact ⟨_, PSs.nox (pss_one (ps_ret (pe_glob (v := .str "set") (by rfl) ht ⟨_, rfl⟩))), q⟩
theorem b_kind1 (T : Tx K mg) : Binds K (fdAt K (pA "Source" "kind" K)) ["self"] [] := FunD.bindsN T.f_Source_kind fun _ _ _ _ _ _ us hl => match us, hl with | [_], _ => rfl
theorem b_kind2 (T : Tx K mg) : Binds K (fdAt K (pA "WaitSet" "kind" K)) ["self"] [] := FunD.bindsN T.f_WaitSet_kind fun _ _ _ _ _ _ us hl => match us, hl with | [_], _ => rfl
/-- what stands at a thing's address -/
theorem TgAt.ins {H : Hp} {a : Addr} {tg : Tg} (h : TgAt K H a tg) : ∃ dx fs, (H a = some (.ins (ga K "Source") dx fs) ∧ ∃ d u f, tg = .src d u f) ∨ (H a = some (.ins (ga K "WaitSet") dx fs) ∧ ∃ d L R es row, tg = .set d L R es row) := by
  cases tg with
  | src dx u f => exact ⟨_, _, .inl ⟨h, _, _, _, rfl⟩⟩
  | set dx L R es row => exact ⟨_, _, .inr ⟨h.1, _, _, _, _, _, rfl⟩⟩
theorem sc_numbers : FnScope ["self", "process", "table", "number"] ["self", "process"] (defScope s_System_numbers) := ⟨rfl, rfl, rfl, by decide +kernel, rfl, by decide +kernel, by decide +kernel⟩
theorem ok_numbers (T : Tx K mg) : FnOk P w K mg base (L2.CX P w) 4 (mA "System" "numbers" K) (fdAt K (mA "System" "numbers" K)) ["self", "process"] (sp_numbers K) := by
  refine FunD.ok T.f_System_numbers sc_numbers (fun vs H Q E h => ?_) (fun cdv A outer s H vs Q E hr h => ?_)
  · obtain ⟨x, lo, rfl, _⟩ := h
    rfl
  · obtain ⟨S, x, rfl, hS, hx, hw, q⟩ := h
    have hu := hu_of hr
    refine ⟨_, pss_cons (ps_set (i := 2) sc_numbers.nd rfl (Or.inr rfl) (pe_meth (pv 0) T.c_System T.m_System_table_of (ok_table_of T) hr (b_table_of T) .nil (passes_call (takes_of rfl rfl rfl rfl) (fun _ _ _ _ h => h)) (pa_cons (pv 1) pa_nil)))
      (pss_one (ps_ret (pe_lc (own := [("number", 3)]) (g := gName 3) (tt := tYes) rfl sc_numbers.nd (pi_list (pe_callB (call_sortedDI rfl) (by rfl) T.free_sorted (by decide +kernel) (pa_cons (pv 2) pa_nil))) (blkOk_by (N := ["self", "process", "table", "number"]) (sc := defScope s_System_numbers) (by decide +kernel))
        (fun _ _ _ _ _ => pg_name (i := 3) sc_numbers.nd rfl (Or.inl rfl)) (fun _ _ _ _ _ => pts_nil) (fun _ _ _ _ _ => pe_tup (pa_cons (pv 3) (pa_cons
          (pe_prop2 (E := E0) (pe_dget hu (pe_fldK K (pv 0) rfl) (pe_dget hu (pv 2) (pv 3) (fun _ _ => rfl)) (fun _ _ => rfl)) T.c_Source T.p_Source_kind (ok_kind1 T) (hr.mono (by decide)) (b_kind1 T) pass0 T.c_WaitSet T.p_WaitSet_kind (ok_kind2 T) (hr.mono (by decide)) (b_kind2 T) pass0 rfl) pa_nil)))))), ?_⟩
    refine ⟨_, rfl, S.p, S.dx, _, rfl, hS.ob, rfl, _, rfl, S, x, rfl, hS, hx, ?_⟩
    rcases q with ⟨i, t, rfl, hl, q⟩ | ⟨hn, q⟩
    · refine .inl ⟨i, t, rfl, hl, ?_⟩
      have ht := hS.tt _ (lk_mem hl)
      have mem : (i, t.rows) ∈ S.v.tabs := List.mem_map.mpr ⟨_, lk_mem hl, rfl⟩
      have r8 : t.rows.length ≤ 8 := hw.rows8 mem
      refine ⟨_, rfl, _, _, t.rows.map (·.1), rfl, .inl ht, kv_keys _ _, by rw [List.length_map]; omega, fun ys p h1 h2 np => ?_⟩
      rw [srtI_eq h1 h2]
      refine ⟨p, rfl, ⟨_, SqL.of upd_same⟩, fun D nD => ?_⟩
      have eH : Same H (upd H p (.lst ((srtI (t.rows.map (·.1))).map V.int))) := new_same np
      refine lc_list (xs := (srtI (t.rows.map (·.1))).map V.int) (fun j H3 => Gro K (upd H p (.lst ((srtI (t.rows.map (·.1))).map V.int))) D H3 ((numsD S.v t.rows).take j)) (Gro.start nD) (fun j H3 hj g => SqL.of (g.same _ _ upd_same)) (fun j x H3 hx g => ?_) (fun H3 g => ?_)
      · rw [List.getElem?_map] at hx
        cases en : (srtI (t.rows.map (·.1)))[j]? with
        | none => rw [en] at hx; cases hx
        | some n =>
          rw [en] at hx
          cases hx
          have hn : n ∈ t.rows.map (·.1) := srtI_mem.mp (List.mem_of_getElem? en)
          obtain ⟨ser, hser⟩ := lk_some_of hn
          have hth := hw.th _ mem _ (lk_mem hser)
          obtain ⟨th, hth'⟩ := lk_some_of (show ser ∈ S.ths.map (·.1) from by rw [← Sy.sers]; exact hth)
          have e3 : Same H H3 := eH.trans g.same
          have S3 := hS.ext e3
          have g1 := DGet.k (k := Sum.inl n) (S3.tt _ (lk_mem hl))
          rw [val_kv, hser] at g1
          have g2 := DGet.k (k := Sum.inl ser) S3.gb
          rw [val_kv, hth'] at g2
          refine ⟨rfl, _, rfl, _, rfl, _, _, _, _, _, rfl, S3.ob, T.c_System, T.n_System_things, rfl, _, rfl, _, rfl, _, _, rfl, g1, _, _, rfl, g2, ?_⟩
          obtain ⟨dx, fs, hi⟩ := (S3.gt _ (lk_mem hth')).ins
          have dj : (numsD S.v t.rows)[j]? = some (.tuple [.int n, .str (kindAt S.v t.rows n)]) := by
            unfold numsD
            rw [List.getElem?_map, en]
            rfl
          have fin : ∀ (x : Str), kindAt S.v t.rows n = x → (2 ≤ sizeLine) ∧ ∀ p', H3 p' = none → ∃ acc, (upd H3 p' (.tup [.int n, .str x])) D = some (.lst acc) ∧ acc.length < sizeLine ∧ Gro K (upd H p (.lst ((srtI (t.rows.map (·.1))).map V.int))) D (upd (upd H3 p' (.tup [.int n, .str x])) D (.lst (acc ++ [.ref p']))) ((numsD S.v t.rows).take (j + 1)) := fun x ex => by
            refine ⟨by decide, fun p' np' => ?_⟩
            have d0 := g.tup (Same.refl _) np' (vs := [.int n, .str x]) (es := [.int n, .str x]) (.cons (.int n) (.cons (.str x) .nil))
            obtain ⟨acc, a1, a2, a3⟩ := g.add (new_same np') d0
            refine ⟨acc, a1, ?_, ?_⟩
            · rw [a2, List.length_take]
              have : (numsD S.v t.rows).length ≤ 8 := by unfold numsD; rw [List.length_map, srtI_len, List.length_map]; exact r8
              exact Nat.lt_of_le_of_lt (Nat.le_trans (Nat.min_le_right _ _) this) (by decide)
            · rw [List.take_succ, dj, ex]
              exact a3
          have kt : lk S.v.ths ser = some th.tg.v := by rw [Sy.ths_v, hth']; rfl
          rcases hi with ⟨h1, d, u, f, etg⟩ | ⟨h1, d, L, R, es, row, etg⟩
          · exact ⟨_, _, _, rfl, .inl ⟨h1, _, rfl, fin _ (by unfold kindAt; rw [hser]; simp only [kt]; rw [etg]; rfl)⟩⟩
          · exact ⟨_, _, _, rfl, .inr ⟨h1, _, rfl, fin _ (by unfold kindAt; rw [hser]; simp only [kt]; rw [etg]; rfl)⟩⟩
      · rw [show ((srtI (t.rows.map (·.1))).map V.int).length = (numsD S.v t.rows).length from by unfold numsD; rw [List.length_map, List.length_map], List.take_length] at g
        exact q _ _ ⟨eH.trans g.same, Dp.same (frs_old eH) _ _ g.fin⟩
    · exact .inr ⟨hn, q⟩
theorem b_numbers (T : Tx K mg) : Binds K (fdAt K (mA "System" "numbers" K)) ["self", "process"] [] := FunD.bindsN T.f_System_numbers fun _ _ _ _ _ _ us hl => match us, hl with | [_, _], _ => rfl
end

/-! ### who holds a thing -/
def hAt (tabs : List (Int × List (Int × Int))) (ser p : Int) : List (Int × Int) := match lk tabs p with
  | none => []
  | some rows => holdsIn ser p rows
theorem holds_eq (tabs : List (Int × List (Int × Int))) (ser : Int) : holds tabs ser = (srtI (tabs.map (·.1))).flatMap (hAt tabs ser) := rfl
def holdsD (l : List (Int × Int)) : List PyData := l.map fun r => .tuple [.int r.1, .int r.2]
theorem holdsIn_eq (ser p : Int) (rows : List (Int × Int)) : holdsD (holdsIn ser p rows) = ((srtI (rows.map (·.1))).filter fun n => decide (lk rows n = some ser)).map fun n => .tuple [.int p, .int n] := by
  unfold holdsD holdsIn
  rw [List.map_map]
  rfl
def sp_holders (K : PySem.W.Frag) : Sp := fun vs H Q _ => ∃ (s : Sy) (ser : Int), vs = [.ref s.p, .int ser] ∧ SyAt K H s ∧ WF s.v ∧ ∀ H' p, NewD K H H' (.ref p) (.list (holdsD (holds s.v.tabs ser))) → Q (.ref p) H'
theorem take_next {α : Type} {l : List α} {j : Nat} {x : α} (h : l[j]? = some x) : l.take (j + 1) = l.take j ++ [x] := by rw [List.take_succ, h]; rfl
theorem holdsIn_len {ser p : Int} {rows : List (Int × Int)} : (holdsIn ser p rows).length ≤ rows.length := by
  unfold holdsIn
  rw [List.length_map]
  refine Nat.le_trans (List.length_filter_le _ _) ?_
  rw [srtI_len, List.length_map]
  exact Nat.le_refl _
theorem WF.hAt8 {v : Sv} (h : WF v) (ser p : Int) : (hAt v.tabs ser p).length ≤ 8 := by
  unfold hAt
  cases e : lk v.tabs p with
  | none => exact Nat.zero_le _
  | some rows => exact Nat.le_trans holdsIn_len (h.rows8 (lk_mem e))
theorem flat8 {l : List Int} {f : Int → List (Int × Int)} (h : ∀ p, (f p).length ≤ 8) : (l.flatMap f).length ≤ 8 * l.length := by
  induction l with
  | nil => exact Nat.zero_le _
  | cons a l ih =>
    rw [List.flatMap_cons, List.length_append, List.length_cons]
    have := h a
    omega
theorem WF.holds48 {v : Sv} (h : WF v) (ser : Int) (j : Nat) : (((srtI (v.tabs.map (·.1))).take j).flatMap (hAt v.tabs ser)).length ≤ 48 := by
  have h1 := flat8 (l := (srtI (v.tabs.map (·.1))).take j) (h.hAt8 ser)
  have h2 : ((srtI (v.tabs.map (·.1))).take j).length ≤ 6 := by
    rw [List.length_take, srtI_len, List.length_map]
    exact Nat.le_trans (Nat.min_le_right _ _) h.tabs6
  omega
section
variable {P : Program} {w : World} {K : PySem.W.Frag} {mg : Str → Option Value} {base : Heap}
theorem sc_holders : FnScope ["self", "serial", "found", "process", "table", "number"] ["self", "serial"] (defScope s_System_holders) := ⟨rfl, rfl, rfl, by decide +kernel, rfl, by decide +kernel, by decide +kernel⟩
theorem ok_holders (T : Tx K mg) : FnOk P w K mg base CX0 4 (mA "System" "holders" K) (fdAt K (mA "System" "holders" K)) ["self", "serial"] (sp_holders K) := by
  refine FunD.ok T.f_System_holders sc_holders (fun vs H Q E h => ?_) (fun cdv A outer s H vs Q E hr h => ?_)
  · obtain ⟨x, lo, rfl, _⟩ := h
    rfl
  · obtain ⟨S, ser, rfl, hS, hw, q⟩ := h
    have hu := hu_of hr
    refine ⟨_, PSs.nox (pss_cons (ps_set (i := 2) sc_holders.nd rfl (Or.inl rfl) (pe_lst pa_nil))
      (pss_cons (ps_for PassesOwn.never rfl (pi_list (pe_meth0 (pv 0) T.c_System T.m_System_alive (ok_alive T) (hr.mono (by decide)) (b_alive T) .nil pass0)) (pg_name (i := 3) sc_holders.nd rfl (Or.inr rfl))
        (pss_cons (ps_set (i := 4) sc_holders.nd rfl (Or.inr rfl) (pe_dget hu (pe_fld (pv 0) rfl) (pv 3) (fun _ _ => rfl)))
        (pss_one (ps_expr (pe_bm PySem.F.plainAttrs_list PySem.F.slot_list_extend PySem.F.type_list_extend mt_extend (pv 2) (pa_cons
          (pe_lc (own := [("number", 5)]) (g := gName 5) rfl sc_holders.nd (pi_list (pe_callB (call_sortedDI rfl) (by rfl) T.free_sorted (by decide +kernel) (pa_cons (pv 4) pa_nil))) (blkOk_by (N := ["self", "serial", "found", "process", "table", "number"]) (sc := defScope s_System_holders) (by decide +kernel))
            (fun _ _ _ _ _ => pg_name (i := 5) sc_holders.nd rfl (Or.inl rfl)) (fun _ _ _ _ _ => pts_one (pt_cmpR op_eq (pe_dget hu (pv 4) (pv 5) (fun _ _ => rfl)) (pv 1) (nomark _))) (fun _ _ _ _ _ => pe_tup (pa_cons (pv 3) (pa_cons (pv 5) pa_nil)))) pa_nil))))))
      (pss_one (ps_ret (pv 2))))), ?_⟩
    refine ⟨by decide, fun F nF => ?_⟩
    have S0 := hS.ext (new_same (o := .lst []) nF)
    have h6 := hw.tabs6
    rw [show S.v.tabs.length = S.tabs.length from List.length_map ..] at h6
    refine ⟨_, rfl, S.p, S.dx, _, rfl, S0.ob, rfl, S, rfl, S0, by omega, fun pl npl => ?_⟩
    refine ⟨pl, rfl, ⟨_, SqL.of upd_same⟩, ?_⟩
    have nFl : F ≠ pl := fun z => by rw [← z, upd_same] at npl; cases npl
    have pids : S.tabs.map (·.1) = S.v.tabs.map (·.1) := (Sy.pids S).symm
    refine for_list (xs := (srtI (S.tabs.map (·.1))).map V.int) (fun j σ H3 => (∃ v3 v4 v5, σ = [some (.ref S.p), some (.int ser), some (.ref F), v3, v4, v5]) ∧ H3 pl = some (.lst ((srtI (S.tabs.map (·.1))).map V.int)) ∧ Gro K H F H3 (holdsD (((srtI (S.v.tabs.map (·.1))).take j).flatMap (hAt S.v.tabs ser))))
      ⟨⟨_, _, _, rfl⟩, upd_same, (Gro.start nF).ext (new_same npl)⟩ (fun j σ H3 hj g => SqL.of g.2.1) ?_ ?_
    · rintro j x σ H3 hx ⟨⟨v3, v4, v5, rfl⟩, hpl, g⟩
      rw [List.getElem?_map] at hx
      cases ep : (srtI (S.tabs.map (·.1)))[j]? with
      | none => rw [ep] at hx; cases hx
      | some p =>
        rw [ep] at hx
        cases hx
        obtain ⟨t, hl⟩ := lk_some_of (srtI_mem.mp (List.mem_of_getElem? ep))
        have S3 := hS.ext g.same
        have g1 := DGet.k (k := Sum.inl p) S3.tb
        rw [val_kv, hl] at g1
        have ht := S3.tt _ (lk_mem hl)
        have mem : (p, t.rows) ∈ S.v.tabs := List.mem_map.mpr ⟨_, lk_mem hl, rfl⟩
        have r8 : t.rows.length ≤ 8 := hw.rows8 mem
        have nd := hw.ndn _ mem
        obtain ⟨xs0, hF, _⟩ := g.has
        refine ⟨_, rfl, _, _, _, _, _, rfl, S3.ob, T.c_System, T.n_System_tables, rfl, _, rfl, _, _, rfl, g1, ?_⟩
        refine ⟨_, rfl, .inl ⟨rfl, _, SqL.of hF⟩, ?_⟩
        refine ⟨_, rfl, _, _, t.rows.map (·.1), rfl, .inl ht, kv_keys _ _, by rw [List.length_map]; omega, fun ys ps h1 h2 np => ?_⟩
        rw [srtI_eq h1 h2]
        refine ⟨ps, rfl, ⟨_, SqL.of upd_same⟩, fun D nD => ?_⟩
        have eH : Same H3 (upd H3 ps (.lst ((srtI (t.rows.map (·.1))).map V.int))) := new_same np
        refine lc_list (xs := (srtI (t.rows.map (·.1))).map V.int) (fun j H4 => Gro K (upd H3 ps (.lst ((srtI (t.rows.map (·.1))).map V.int))) D H4 ((((srtI (t.rows.map (·.1))).take j).filter fun n => decide (lk t.rows n = some ser)).map fun n => .tuple [.int p, .int n])) (Gro.start nD) (fun j H4 hj g => SqL.of (g.same _ _ upd_same)) (fun j x H4 hx gg => ?_) (fun H4 gg => ?_)
        · rw [List.getElem?_map] at hx
          cases en : (srtI (t.rows.map (·.1)))[j]? with
          | none => rw [en] at hx; cases hx
          | some n =>
            rw [en] at hx
            cases hx
            obtain ⟨z, hz⟩ := lk_some_of (srtI_mem.mp (List.mem_of_getElem? en))
            have S4 := S3.ext (eH.trans gg.same)
            have g2 := DGet.k (k := Sum.inl n) (S4.tt _ (lk_mem hl))
            rw [val_kv, hz] at g2
            refine ⟨rfl, _, rfl, _, rfl, _, _, rfl, g2, _, rfl, rfl, _, rfl, ?_⟩
            rw [take_next en, List.filter_append, List.map_append]
            have fl : ∀ (m : Nat), ((((srtI (t.rows.map (·.1))).take m).filter fun n => decide (lk t.rows n = some ser)).map fun n => (PyData.tuple [.int p, .int n])).length ≤ 8 := fun m => by
              rw [List.length_map]
              refine Nat.le_trans (List.length_filter_le _ _) ?_
              rw [List.length_take, srtI_len, List.length_map]
              exact Nat.le_trans (Nat.min_le_right _ _) r8
            by_cases c : z = ser
            · subst c
              rw [decide_eq_true (show V.int z = V.int z from rfl)]
              refine iteT ?_
              refine ⟨_, rfl, _, rfl, (by show 2 ≤ sizeLine; decide), fun p' np' => ?_⟩
              have d0 := gg.tup (Same.refl _) np' (vs := [.int p, .int n]) (es := [.int p, .int n]) (.cons (.int p) (.cons (.int n) .nil))
              obtain ⟨acc, a1, a2, a3⟩ := gg.add (new_same np') d0
              refine ⟨acc, a1, by rw [a2]; exact Nat.lt_of_le_of_lt (fl j) (by decide), ?_⟩
              rw [List.filter_cons, if_pos (decide_eq_true hz)]
              exact a3
            · rw [decide_eq_false (show V.int z ≠ V.int ser from fun q => c (V.int.inj q))]
              refine iteF ?_
              rw [List.filter_cons, if_neg (by rw [hz]; simpa using c), List.filter_nil, List.map_nil, List.append_nil]
              exact gg
        · rw [show ((srtI (t.rows.map (·.1))).map V.int).length = (srtI (t.rows.map (·.1))).length from List.length_map .., List.take_length, ← holdsIn_eq] at gg
          obtain ⟨xs, zs, a1, a2, a3, a4, a5⟩ := (g.ext eH).addAll gg
          refine ⟨_, _, xs, zs, rfl, rfl, a1, a2, ?_, ?_⟩
          · rw [a3, a4]
            have l1 := hw.holds48 ser j
            have l2 := holdsIn_len (ser := ser) (p := p) (rows := t.rows)
            have z1 : (holdsD (((srtI (S.v.tabs.map (·.1))).take j).flatMap (hAt S.v.tabs ser))).length = (((srtI (S.v.tabs.map (·.1))).take j).flatMap (hAt S.v.tabs ser)).length := List.length_map ..
            have z2 : (holdsD (holdsIn ser p t.rows)).length = (holdsIn ser p t.rows).length := List.length_map ..
            have z3 : (64 : Nat) ≤ sizeLine := by decide
            omega
          · have plF : pl ≠ F := Ne.symm nFl
            refine ⟨⟨_, _, _, rfl⟩, ?_, ?_⟩
            · rw [upd_ne plF]
              exact gg.same _ _ (eH _ _ hpl)
            · rw [← pids] 
              rw [take_next ep, List.flatMap_append]
              have e1 : holdsD (((srtI (S.tabs.map (·.1))).take j).flatMap (hAt S.v.tabs ser) ++ [p].flatMap (hAt S.v.tabs ser)) = holdsD (((srtI (S.v.tabs.map (·.1))).take j).flatMap (hAt S.v.tabs ser)) ++ holdsD (holdsIn ser p t.rows) := by
                unfold holdsD
                rw [List.map_append, pids]
                congr 2
                show hAt S.v.tabs ser p ++ [] = _
                rw [List.append_nil]
                unfold hAt
                rw [Sy.tabs_v, hl]
                rfl
              rw [e1]
              exact a5
    · rintro σ H3 ⟨⟨v3, v4, v5, rfl⟩, hpl, g⟩
      rw [show ((srtI (S.tabs.map (·.1))).map V.int).length = (srtI (S.v.tabs.map (·.1))).length from by rw [List.length_map, pids], List.take_length] at g
      exact ⟨_, rfl, q _ _ ⟨g.same, g.fin⟩⟩
theorem b_holders (T : Tx K mg) : Binds K (fdAt K (mA "System" "holders" K)) ["self", "serial"] [] := FunD.bindsN T.f_System_holders fun _ _ _ _ _ _ us hl => match us, hl with | [_, _], _ => rfl
end

/-! ### names, and the sets in the order of their names -/
def nameAt (v : Sv) (ser : Int) : Int × Int := (holds v.tabs ser).headD (0, 0)
def nameD (v : Sv) (ser : Int) : PyData := .tuple [.int (nameAt v ser).1, .int (nameAt v ser).2]
def sp_name_of (K : PySem.W.Frag) : Sp := fun vs H Q _ => ∃ (s : Sy) (ser : Int), vs = [.ref s.p, .int ser] ∧ SyAt K H s ∧ WF s.v ∧ holds s.v.tabs ser ≠ [] ∧ ∀ H' v, NewD K H H' v (nameD s.v ser) → Q v H'
def kdN (v : Sv) : V → PyData
  | .int ser => nameD v ser
  | _ => .tuple [.int 0, .int 0]
def Tv.isSet : Tv → Bool
  | .src _ _ => false
  | .set _ _ => true
def setSers (v : Sv) : List Int := (v.ths.filter fun t => t.2.isSet).map (·.1)
def setsIn (v : Sv) : List Int := (setSers v).mergeSort fun a b => PySem.W.dataLe false (kdN v) (.int a) (.int b)
theorem setsIn_perm (v : Sv) : (setsIn v).Perm (setSers v) := List.mergeSort_perm _ _
theorem kdN_tup (v : Sv) (x : V) : ∃ a b, kdN v x = .tuple [.int a, .int b] := by
  cases x with
  | int i => exact ⟨_, _, rfl⟩
  | _ => exact ⟨0, 0, rfl⟩
theorem WF.held' {v : Sv} (h : WF v) {t : Int × Tv} (ht : t ∈ v.ths) : holds v.tabs t.1 ≠ [] := by
  obtain ⟨u, hu, r, hr, e⟩ := h.held t ht
  have l1 : lk v.tabs u.1 = some u.2 := lk_of_mem h.ndp hu
  have l2 : lk u.2 r.1 = some t.1 := by rw [lk_of_mem (h.ndn u hu) (show (r.1, r.2) ∈ u.2 from hr), e]
  intro z
  rw [holds_eq] at z
  have z1 := List.flatMap_eq_nil_iff.mp z u.1 (srtI_mem.mpr (List.mem_map.mpr ⟨u, hu, rfl⟩))
  unfold hAt at z1
  rw [l1] at z1
  unfold holdsIn at z1
  have z2 := List.map_eq_nil_iff.mp z1
  have : r.1 ∈ (srtI (u.2.map (·.1))).filter fun n => decide (lk u.2 n = some t.1) := List.mem_filter.mpr ⟨srtI_mem.mpr (List.mem_map.mpr ⟨r, hr, rfl⟩), decide_eq_true l2⟩
  rw [z2] at this
  cases this
def sp_set_serials (K : PySem.W.Frag) : Sp := fun vs H Q _ => ∃ (s : Sy), vs = [.ref s.p] ∧ SyAt K H s ∧ WF s.v ∧ s.made ≤ 1000000 ∧ ∀ H' p, Same H H' → H p = none → H' p = some (.lst ((setsIn s.v).map V.int)) → Q (.ref p) H'
section
variable {P : Program} {w : World} {K : PySem.W.Frag} {mg : Str → Option Value} {base : Heap}
theorem sc_name_of : FnScope ["self", "serial"] ["self", "serial"] (defScope s_System_name_of) := ⟨rfl, rfl, rfl, by decide +kernel, rfl, by decide +kernel, by decide +kernel⟩
theorem ok_name_of (T : Tx K mg) : FnOk P w K mg base CX0 5 (mA "System" "name_of" K) (fdAt K (mA "System" "name_of" K)) ["self", "serial"] (sp_name_of K) := by
  refine FunD.ok T.f_System_name_of sc_name_of (fun vs H Q E h => ?_) (fun cdv A outer s H vs Q E hr h => ?_)
  · obtain ⟨x, lo, rfl, _⟩ := h
    rfl
  · obtain ⟨S, ser, rfl, hS, hw, hn, q⟩ := h
    refine ⟨_, PSs.nox (pss_one (ps_ret (pe_ix ix_list (pe_meth (pv 0) T.c_System T.m_System_holders (ok_holders T) hr (b_holders T) .nil pass0 (pa_cons (pv 1) pa_nil)) pe_int (fun _ _ => rfl)))), ?_⟩
    refine ⟨_, rfl, S.p, S.dx, _, rfl, hS.ob, rfl, _, rfl, S, ser, rfl, hS, hw, fun H' p nd => ?_⟩
    cases e : holds S.v.tabs ser with
    | nil => exact (hn e).elim
    | cons r rest =>
      have nd' := nd.dat
      rw [e] at nd'
      generalize eV : V.ref p = vp at nd'
      cases nd' with
      | lst hs ha =>
        cases eV
        cases ha with
        | cons h1 h2 =>
          refine ⟨_, _, _, _, rfl, rfl, Same.seq frs_le hs, atI_nat (j := 0) rfl, q _ _ ⟨nd.same, ?_⟩⟩
          have : nameAt S.v ser = r := by unfold nameAt; rw [e]; rfl
          unfold nameD
          rw [this]
          exact h1
theorem b_name_of (T : Tx K mg) : Binds K (fdAt K (mA "System" "name_of" K)) ["self", "serial"] [] := FunD.bindsN T.f_System_name_of fun _ _ _ _ _ _ us hl => match us, hl with | [_, _], _ => rfl
theorem bm_name_of (T : Tx K mg) : BMeth K (ga K "System") "name_of" (mA "System" "name_of" K) := ⟨T.m_System_name_of, T.bm_System_name_of.1, T.bm_System_name_of.2.1, by decide, T.bm_System_name_of.2.2⟩
theorem sc_set_serials : FnScope ["self", "found", "serial"] ["self"] (defScope s_System_set_serials) := ⟨rfl, rfl, rfl, by decide +kernel, rfl, by decide +kernel, by decide +kernel⟩
theorem ok_set_serials (T : Tx K mg) : FnOk P w K mg base CX0 8 (mA "System" "set_serials" K) (fdAt K (mA "System" "set_serials" K)) ["self"] (sp_set_serials K) := by
  refine FunD.ok T.f_System_set_serials sc_set_serials (fun vs H Q E h => ?_) (fun cdv A outer s H vs Q E hr h => ?_)
  · obtain ⟨x, rfl, _⟩ := h
    rfl
  · obtain ⟨S, rfl, hS, hw, hm, q⟩ := h
    have hu := hu_of hr
    refine ⟨_, PSs.nox (pss_cons (ps_lock (ps_setLc (i := 1) (own := [("serial", 2)]) (g := gName 2) rfl sc_set_serials.nd rfl rfl (sw_true rfl rfl rfl (by decide +kernel)) (pi_keys (pe_fld (pv 0) rfl)) (blkOk_by (N := ["self", "found", "serial"]) (sc := defScope s_System_set_serials) (by decide +kernel))
        (fun _ _ _ _ _ => pg_name (i := 2) sc_set_serials.nd rfl (Or.inl rfl)) (fun _ _ _ _ _ => pts_one (pt_val (pe_callB (call_isiK K) (by rfl) T.free_isinstance (by decide +kernel) (pa_cons (pe_dget hu (pe_fldK K (pv 0) rfl) (pv 2) (fun _ _ => rfl)) (pa_cons (pe_glob (v := .ref (ga K "WaitSet")) (by rfl) T.g_WaitSet rfl) pa_nil))))) (fun _ _ _ _ _ => pv 2)))
      (pss_one (ps_ret (pe_callBK (cr_sortMet (ok_name_of T) (hr.mono (by decide)) (b_name_of T) (fun _ _ _ _ h => h)) (by rfl) T.free_sorted (by decide +kernel) (pa_cons (pv 1) pa_nil) (pk_cons (pe_met (pv 0) T.c_System (bm_name_of T)) pk_nil))))), ?_⟩
    have nGp : S.p ≠ S.G := Ne.symm (hS.np (.inl (List.mem_cons_of_mem _ List.mem_cons_self)))
    refine ⟨S.G, _, hS.gb, True.intro, fun od => ?_⟩
    have kpO : ∀ {b : Addr} {o : HO}, b ≠ S.G → H b = some o → upd H S.G (.frz od (.dK (kv thV S.ths))) b = some o := fun h e => by rw [upd_ne h]; exact e
    refine ⟨_, rfl, _, _, _, _, _, rfl, kpO nGp hS.ob, T.c_System, T.n_System_things, rfl, S.G, od, rfl, .inl ⟨_, upd_same, fun D nD => ?_⟩⟩
    have nDG : D ≠ S.G := fun z => by rw [z, upd_same] at nD; cases nD
    have nD0 : H D = none := by rw [upd_ne nDG] at nD; exact nD
    have len : S.ths.length ≤ S.made.toNat := by
      have := hw.thsM
      rw [show S.v.ths.length = S.ths.length from List.length_map ..] at this
      exact this
    have sL : (1000000 : Nat) < sizeLine := by decide
    refine lc_it walk_keys (fun j H3 => H3 = upd (upd H S.G (.frz od (.dK (kv thV S.ths)))) D (.lst ((((S.ths.take j).filter fun t => t.2.tg.v.isSet).map (·.1)).map V.int))) rfl (fun j H3 hj e => by rw [e, upd_ne (Ne.symm nDG), upd_same]) (fun j x H3 H4 hj e3 y => ?_) (fun H3 e3 => ?_)
    · obtain ⟨rfl, kk, vv, g1, rfl⟩ := y
      obtain ⟨r, hr', rfl, rfl⟩ := kv_get g1
      subst e3
      have lkr : lk S.ths r.1 = some r.2 := lk_of_mem (by rw [← Sy.sers]; exact hw.nds) (List.mem_of_getElem? hr')
      have kp3 : ∀ {b : Addr} {o : HO}, b ≠ S.G → H b = some o → upd (upd H S.G (.frz od (.dK (kv thV S.ths)))) D (.lst ((((S.ths.take j).filter fun t => t.2.tg.v.isSet).map (·.1)).map V.int)) b = some o := fun h e => by rw [upd_ne (ne_of_none e nD0)]; exact kpO h e
      have dg : DGet (upd (upd H S.G (.frz od (.dK (kv thV S.ths)))) D (.lst ((((S.ths.take j).filter fun t => t.2.tg.v.isSet).map (·.1)).map V.int))) S.G (.int r.1) (some (thV r.2)) := .inl ⟨_, Sum.inl r.1, .inr ⟨od, by rw [upd_ne (Ne.symm nDG), upd_same]⟩, rfl, by rw [val_kv, lkr]; rfl⟩
      have mr := List.mem_of_getElem? hr'
      have ra : r.2.ad ≠ S.G := hS.dc_th (List.mem_cons_of_mem _ List.mem_cons_self) (.inl (Sy.th_in mr))
      refine ⟨rfl, _, rfl, _, _, _, _, _, rfl, kp3 nGp hS.ob, T.c_System, T.n_System_things, rfl, _, rfl, _, _, rfl, dg, ?_⟩
      rw [take_next hr', List.filter_append, List.map_append, List.map_append]
      obtain ⟨dx, fs, hi⟩ := (hS.gt _ mr).ins
      rcases hi with ⟨h1, d, u, f, etg⟩ | ⟨h1, d, L, R, es, row, etg⟩
      · refine ⟨_, _, .ref (ga K "Source"), .ref (ga K "WaitSet"), false, rfl, .own _, .base (.ins (kp3 ra h1) T.c_Source T.ci_Source (cls_get K) (cls_tak K) T.o_Source), T.q_Source_WaitSet, _, rfl, ?_⟩
        refine iteF ?_
        rw [List.filter_cons, if_neg (by rw [etg]; exact fun z => (nomatch z)), List.filter_nil, List.map_nil, List.map_nil, List.append_nil]
      · refine ⟨_, _, .ref (ga K "WaitSet"), .ref (ga K "WaitSet"), true, rfl, .own _, .base (.ins (kp3 ra h1) T.c_WaitSet T.ci_WaitSet (cls_get K) (cls_tak K) T.o_WaitSet), T.q_WaitSet_WaitSet, _, rfl, ?_⟩
        refine iteT ?_
        refine ⟨_, rfl, _, upd_same, ?_, ?_⟩
        · rw [List.length_map, List.length_map]
          have l1 := List.length_filter_le (fun t : Int × Th => t.2.tg.v.isSet) (S.ths.take j)
          rw [List.length_take] at l1
          omega
        · rw [List.filter_cons, if_pos (by rw [etg]; rfl), upd_upd]
          rfl
    · rw [kv_len, List.take_length] at e3
      refine ⟨by rw [e3, upd_ne (Ne.symm nDG), upd_same], ?_⟩
      have eH : upd H3 S.G (.dK (kv thV S.ths)) = upd H D (.lst ((setSers S.v).map V.int)) := by
        have es : (S.ths.filter fun t => t.2.tg.v.isSet).map (·.1) = setSers S.v := by
          unfold setSers
          show _ = ((S.ths.map fun t => (t.1, t.2.tg.v)).filter fun t => t.2.isSet).map (·.1)
          rw [List.filter_map, List.map_map]
          rfl
        rw [e3, es, upd_comm nDG, upd_upd, upd_idem hS.gb]
      rw [eH]
      have eD : Same H (upd H D (.lst ((setSers S.v).map V.int))) := new_same nD0
      have S1 := hS.ext eD
      refine ⟨_, rfl, _, rfl, S.p, S.dx, _, rfl, S1.ob, rfl, fun qm nq => ?_⟩
      have eq := new_same (o := .met (mA "System" "name_of" K) S.p) nq
      have kt := kdN_tup S.v
      refine ⟨D, qm, S.p, (setSers S.v).map V.int, kdN S.v, rfl, rfl, SqL.of (eq _ _ upd_same), upd_same, ?_, ?_, ?_, ?_, ?_⟩
      · exact PySem.W.AllAlike.of fun b b' => by
          obtain ⟨a1, a2, e1⟩ := kt b
          obtain ⟨b1, b2, e2⟩ := kt b'
          rw [e1, e2]
          rfl
      · exact PySem.W.Sortable.tuples fun b => by
          obtain ⟨a1, a2, e1⟩ := kt b
          exact ⟨_, _, e1⟩
      · intro x _
        obtain ⟨a1, a2, e1⟩ := kt x
        rw [e1]
        simp [PyData.depth, PyData.depthAll]
      · intro H1 x e1 hx
        obtain ⟨ser, hser, rfl⟩ := List.mem_map.mp hx
        obtain ⟨t, ht, rfl⟩ := List.mem_map.mp hser
        exact ⟨S, t.1, rfl, S1.ext (eq.trans e1), hw, hw.held' (List.mem_filter.mp ht).1, fun H' v nd => ⟨nd.same, nd.dp⟩⟩
      · intro H2 p e2 np
        have e3 : Same H H2 := eD.trans (eq.trans e2)
        refine q _ _ (e3.trans (new_same np)) (e3.free np) ?_
        rw [upd_same]
        unfold setsIn
        rw [List.map_mergeSort (s := PySem.W.dataLe false (kdN S.v)) (fun a _ b _ => rfl)]
theorem b_set_serials (T : Tx K mg) : Binds K (fdAt K (mA "System" "set_serials" K)) ["self"] [] := FunD.bindsN T.f_System_set_serials fun _ _ _ _ _ _ us hl => match us, hl with | [_], _ => rfl
end

/-! ### the law's draws -/
def BagAt (H : Hp) (b : Addr) : Prop := ∃ c m, H b = some (.lst [.int c, .int m])
def sp_bag (K : PySem.W.Frag) : Sp := fun vs H Q _ => ∃ (a : Addr) (ns : List Int) (i : Int), vs = [.ref a, .int i] ∧ SqL K H a (ns.map V.int) ∧ 0 ≤ i ∧ ∀ H' p, Same H H' → H p = none → BagAt H' p → Q (.ref p) H'
/-- a draw: the bag alone is changed -/
def sp_take : Sp := fun vs H Q _ => ∃ (b : Addr) (n : Int), vs = [.ref b, .int n] ∧ BagAt H b ∧ 0 < n ∧ n < 1073741824 ∧ ∀ r c m, 0 ≤ r → r < n → Q (.int r) (upd H b (.lst [.int c, .int m]))
section
variable {P : Program} {w : World} {K : PySem.W.Frag} {mg : Str → Option Value} {base : Heap}
theorem sc_bag : FnScope ["_law_script", "_law_at", "_law_cell", "_law_blend", "_law_k", "_law_each"] ["_law_script", "_law_at"] (defScope s__law_bag) := ⟨rfl, rfl, rfl, by decide +kernel, rfl, by decide +kernel, by decide +kernel⟩
theorem ok_bag (T : Tx K mg) : FnOk P w K mg base CX0 1 (gA "_law_bag" K) (fdAt K (gA "_law_bag" K)) ["_law_script", "_law_at"] (sp_bag K) := by
  refine FunD.ok T.f__law_bag sc_bag (fun vs H Q E h => ?_) (fun cdv A outer s H vs Q E hr h => ?_)
  · obtain ⟨a, ns, i, rfl, _⟩ := h
    rfl
  · obtain ⟨a, ns, i, rfl, ha, hi, q⟩ := h
    refine ⟨_, PSs.nox (pss_cons (ps_set (i := 2) sc_bag.nd rfl (Or.inl rfl) (pe_ifExp (pt_cmpR op_lt (pv 1) (pe_callB call_len_seq (by rfl) T.free_len PySem.boot_len (pa_cons (pv 0) pa_nil)) (nomark _)) (pe_ix ix_list (pv 0) (pv 1) (fun _ _ => rfl)) pe_int))
      (pss_cons (ps_set (i := 3) sc_bag.nd rfl (Or.inl rfl) (pe_op op_add (pe_op op_mul pe_int (pv 1)) pe_int))
      (pss_cons (ps_for PassesOwn.never rfl (pi_enum (by rfl) T.free_enumerate (pa_cons (pe_slice sl_list (pv 0) po_none (po_some pe_int)) pa_nil)) (pg_tup (by rfl) (pgs_cons (pg_name (i := 4) sc_bag.nd rfl (Or.inl rfl)) (pgs_cons (pg_name (i := 5) sc_bag.nd rfl (Or.inl rfl)) pgs_nil)))
        (pss_one (ps_set (i := 3) sc_bag.nd rfl (Or.inl rfl) (pe_op op_mod (pe_callTy call_int1 (by rfl) T.free_int (by decide +kernel) (pa_cons (pe_op op_add (pe_op op_add (pe_op op_add (pe_op op_mul (pv 3) pe_int) (pe_op op_mod (pe_callTy call_int1 (by rfl) T.free_int (by decide +kernel) (pa_cons (pv 5) pa_nil)) pe_int)) (pe_op op_mul pe_int (pv 4))) pe_int) pa_nil)) pe_int))))
      (pss_one (ps_ret (pe_lst (pa_cons (pe_ifExp (pt_cmpR op_ge (pe_callB call_abs (by rfl) T.free_abs (by decide +kernel) (pa_cons (pv 2) pa_nil)) (pe_op op_pow pe_int pe_int) (nomark _)) (pe_callB call_abs (by rfl) T.free_abs (by decide +kernel) (pa_cons (pv 2) pa_nil)) pe_int) (pa_cons (pv 3) pa_nil)))))))), ?_⟩
    refine ⟨_, rfl, _, rfl, a, _, rfl, .inl ha, _, _, rfl, rfl, _, rfl, ?_⟩
    refine ite2 (fun c => ?_) (fun c => ?_)
    · have hlt : i.toNat < ns.length := by
        have := of_decide_eq_true c
        rw [List.length_map] at this
        omega
      refine ⟨_, rfl, _, rfl, _, _, _, _, rfl, rfl, ha, (show atI (ns.map V.int) i = some (.int ns[i.toNat]) from ?_), ?_⟩
      · have e1 : i = ((i.toNat : Nat) : Int) := by omega
        have e2 : (ns.map V.int)[i.toNat]? = some (.int ns[i.toNat]) := by
          rw [List.getElem?_map, List.getElem?_eq_getElem hlt]
          rfl
        have e3 := atI_nat e2
        rw [← e1] at e3
        exact e3
      refine ⟨_, rfl, _, _, rfl, rfl, .inl ⟨by decide, by decide⟩, _, _, rfl, rfl, ?_⟩
      refine ⟨_, rfl, _, rfl, a, _, rfl, ha, fun pc npc => ?_⟩
      refine ⟨pc, _, rfl, SqL.of upd_same, ?_⟩
      refine for_it walk_enum (fun j σ H3 => (∃ (cc b : Int) (v4 v5 : Option V), σ = [some (.ref a), some (.int i), some (.int cc), some (.int b), v4, v5]) ∧ Same (upd H pc (.lst (cutV (ns.map V.int) none (some 40)))) H3) ⟨⟨_, _, _, _, rfl⟩, Same.refl _⟩ (fun j σ H3 hj g => SqL.of (g.2 _ _ upd_same)) ?_ ?_
      · rintro j x σ H3 H4 hj ⟨⟨cc, b, v4, v5, rfl⟩, e⟩ ⟨tp, x1, x2, rfl, ntp, rfl, hx1, hx2⟩
        cases hx1
        have mx : x2 ∈ ns.map V.int := by
          have m1 := List.mem_of_getElem? hx2
          unfold cutV at m1
          exact List.mem_of_mem_drop (List.mem_of_mem_take m1)
        obtain ⟨y, _, rfl⟩ := List.mem_map.mp mx
        refine ⟨tp, [.int ((j : Nat) : Int), .int y], rfl, SqT.of upd_same, rfl, _, _, rfl, _, _, rfl, rfl, ?_⟩
        refine ⟨_, rfl, _, _, rfl, rfl, .inr ⟨by decide, by decide⟩, _, rfl, .inl ⟨_, rfl, _, _, rfl, rfl, (by show (0 : Int) < _; decide), _, _, rfl, rfl, ?_⟩⟩
        refine ⟨_, rfl, _, _, rfl, rfl, .inl ⟨by decide, by decide⟩, _, _, rfl, rfl, _, _, rfl, rfl, .inl ⟨_, rfl, _, _, rfl, rfl, (by show (0 : Int) < _; decide), ?_⟩⟩
        exact ⟨⟨_, _, _, _, rfl⟩, e.trans (new_same ntp)⟩
      · rintro σ H3 ⟨⟨cc, b, v4, v5, rfl⟩, e⟩
        have fin : ∀ c' : Int, [V.int c', V.int b].length ≤ sizeLine ∧ ∀ p, H3 p = none → Q (.ref p) (upd H3 p (.lst [.int c', .int b])) := fun c' => by
          refine ⟨(by show 2 ≤ sizeLine; decide), fun p np => ?_⟩
          have e2 := (new_same npc).trans e
          exact q _ _ (e2.trans (new_same np)) (e2.free np) ⟨_, _, upd_same⟩
        refine ⟨_, rfl, _, rfl, _, _, rfl, rfl, ⟨by decide, by decide, by decide⟩, _, _, rfl, rfl, _, rfl, ?_⟩
        refine ite2 (fun _ => ?_) (fun _ => ?_)
        · exact ⟨_, rfl, _, rfl, _, rfl, fin _⟩
        · exact ⟨_, rfl, fin _⟩
    · refine ⟨_, rfl, _, _, rfl, rfl, .inl ⟨by decide, by decide⟩, _, _, rfl, rfl, ?_⟩
      refine ⟨_, rfl, _, rfl, a, _, rfl, ha, fun pc npc => ?_⟩
      refine ⟨pc, _, rfl, SqL.of upd_same, ?_⟩
      refine for_it walk_enum (fun j σ H3 => (∃ (cc b : Int) (v4 v5 : Option V), σ = [some (.ref a), some (.int i), some (.int cc), some (.int b), v4, v5]) ∧ Same (upd H pc (.lst (cutV (ns.map V.int) none (some 40)))) H3) ⟨⟨_, _, _, _, rfl⟩, Same.refl _⟩ (fun j σ H3 hj g => SqL.of (g.2 _ _ upd_same)) ?_ ?_
      · rintro j x σ H3 H4 hj ⟨⟨cc, b, v4, v5, rfl⟩, e⟩ ⟨tp, x1, x2, rfl, ntp, rfl, hx1, hx2⟩
        cases hx1
        have mx : x2 ∈ ns.map V.int := by
          have m1 := List.mem_of_getElem? hx2
          unfold cutV at m1
          exact List.mem_of_mem_drop (List.mem_of_mem_take m1)
        obtain ⟨y, _, rfl⟩ := List.mem_map.mp mx
        refine ⟨tp, [.int ((j : Nat) : Int), .int y], rfl, SqT.of upd_same, rfl, _, _, rfl, _, _, rfl, rfl, ?_⟩
        refine ⟨_, rfl, _, _, rfl, rfl, .inr ⟨by decide, by decide⟩, _, rfl, .inl ⟨_, rfl, _, _, rfl, rfl, (by show (0 : Int) < _; decide), _, _, rfl, rfl, ?_⟩⟩
        refine ⟨_, rfl, _, _, rfl, rfl, .inl ⟨by decide, by decide⟩, _, _, rfl, rfl, _, _, rfl, rfl, .inl ⟨_, rfl, _, _, rfl, rfl, (by show (0 : Int) < _; decide), ?_⟩⟩
        exact ⟨⟨_, _, _, _, rfl⟩, e.trans (new_same ntp)⟩
      · rintro σ H3 ⟨⟨cc, b, v4, v5, rfl⟩, e⟩
        have fin : ∀ c' : Int, [V.int c', V.int b].length ≤ sizeLine ∧ ∀ p, H3 p = none → Q (.ref p) (upd H3 p (.lst [.int c', .int b])) := fun c' => by
          refine ⟨(by show 2 ≤ sizeLine; decide), fun p np => ?_⟩
          have e2 := (new_same npc).trans e
          exact q _ _ (e2.trans (new_same np)) (e2.free np) ⟨_, _, upd_same⟩
        refine ⟨_, rfl, _, rfl, _, _, rfl, rfl, ⟨by decide, by decide, by decide⟩, _, _, rfl, rfl, _, rfl, ?_⟩
        refine ite2 (fun _ => ?_) (fun _ => ?_)
        · exact ⟨_, rfl, _, rfl, _, rfl, fin _⟩
        · exact ⟨_, rfl, fin _⟩
theorem b_bag (T : Tx K mg) : Binds K (fdAt K (gA "_law_bag" K)) ["_law_script", "_law_at"] [] := FunD.bindsN T.f__law_bag fun _ _ _ _ _ _ us hl => match us, hl with | [_, _], _ => rfl
theorem sc_take : FnScope ["_law_bag_here", "_law_many", "_law_digit"] ["_law_bag_here", "_law_many"] (defScope s__law_take) := ⟨rfl, rfl, rfl, by decide +kernel, rfl, by decide +kernel, by decide +kernel⟩
theorem ok_take (T : Tx K mg) : FnOk P w K mg base CX0 1 (gA "_law_take" K) (fdAt K (gA "_law_take" K)) ["_law_bag_here", "_law_many"] sp_take := by
  refine FunD.ok T.f__law_take sc_take (fun vs H Q E h => ?_) (fun cdv A outer s H vs Q E hr h => ?_)
  · obtain ⟨a, ns, rfl, _⟩ := h
    rfl
  · obtain ⟨b, n, rfl, ⟨c, m, hb⟩, h0, h1, q⟩ := h
    refine ⟨_, PSs.nox (pss_cons (ps_if (pt_cmpR op_gt (pe_ix ix_list (pv 0) pe_int (fun _ _ => rfl)) pe_int (nomark _))
        (pss_cons (ps_set (i := 2) sc_take.nd rfl (Or.inl rfl) (pe_op op_mod (pe_callTy call_int1 (by rfl) T.free_int (by decide +kernel) (pa_cons (pe_ix ix_list (pv 0) pe_int (fun _ _ => rfl)) pa_nil)) (pv 1)))
        (pss_cons (ps_asg (pe_op op_fdiv (pe_ix ix_list (pv 0) pe_int (fun _ _ => rfl)) (pv 1)) (pg_sub (pv 0) pe_int set_list))
        (pss_one (ps_ret (pv 2))))) pss_nil)
      (pss_cons (ps_asg (pe_op op_mod (pe_callTy call_int1 (by rfl) T.free_int (by decide +kernel) (pa_cons (pe_op op_add (pe_op op_mul (pe_ix ix_list (pv 0) pe_int (fun _ _ => rfl)) pe_int) pe_int) pa_nil)) pe_int) (pg_sub (pv 0) pe_int set_list))
      (pss_one (ps_ret (pe_op op_mod (pe_op op_fdiv (pe_op op_mod (pe_callTy call_int1 (by rfl) T.free_int (by decide +kernel) (pa_cons (pe_op op_mul (pe_op op_fdiv (pe_ix ix_list (pv 0) pe_int (fun _ _ => rfl)) pe_int) pe_int) pa_nil)) pe_int) pe_int) (pv 1)))))), ?_⟩
    have i0 : ∀ {x y : V}, atI [x, y] ((0 : Nat) : Int) = some x := atI_nat rfl
    have i1 : ∀ {x y : V}, atI [x, y] ((1 : Nat) : Int) = some y := atI_nat rfl
    refine ⟨_, rfl, _, _, _, _, rfl, rfl, SqL.of hb, i0, _, _, rfl, rfl, _, rfl, ?_⟩
    refine ite2 (fun _ => ?_) (fun _ => ?_)
    · refine ⟨_, rfl, _, _, _, _, rfl, rfl, SqL.of hb, i0, .inl ⟨_, rfl, _, rfl, _, _, rfl, rfl, h0, ?_⟩⟩
      refine ⟨_, rfl, _, _, _, _, rfl, rfl, SqL.of hb, i0, _, rfl, _, _, rfl, rfl, ⟨h0, h1⟩, _, rfl, _, _, _, 0, rfl, rfl, hb, rfl, _, rfl, ?_⟩
      exact q _ _ _ (Int.emod_nonneg _ (by omega)) (Int.emod_lt_of_pos _ h0)
    · refine ⟨_, rfl, _, _, _, _, rfl, rfl, SqL.of hb, i1, _, _, rfl, rfl, .inr ⟨by decide, by decide⟩, _, _, rfl, rfl, .inl ⟨_, rfl, _, _, rfl, rfl, (by show (0 : Int) < _; decide), ?_⟩⟩
      refine ⟨_, rfl, _, _, _, 1, rfl, rfl, hb, rfl, ?_⟩
      refine ⟨_, rfl, _, _, _, _, rfl, rfl, SqL.of upd_same, i1, _, _, rfl, rfl, ⟨by decide, by decide⟩, _, _, rfl, rfl, .inr ⟨by decide, by decide⟩, .inl ⟨_, rfl, _, _, rfl, rfl, (by show (0 : Int) < _; decide), _, _, rfl, rfl, ⟨by decide, by decide⟩, _, rfl, _, _, rfl, rfl, h0, ?_⟩⟩
      exact q _ _ _ (Int.emod_nonneg _ (by omega)) (Int.emod_lt_of_pos _ h0)
theorem b_take (T : Tx K mg) : Binds K (fdAt K (gA "_law_take" K)) ["_law_bag_here", "_law_many"] [] := FunD.bindsN T.f__law_take fun _ _ _ _ _ _ us hl => match us, hl with | [_, _], _ => rfl
end

/-! ### the law's objects -/
/-- all but the bag stands -/
def Kp (b : Addr) (H H' : Hp) : Prop := Same (off b H) (off b H')
theorem Kp.refl (b : Addr) (H : Hp) : Kp b H H := Same.refl _
theorem Kp.trans {b : Addr} {H H1 H2 : Hp} (x : Kp b H H1) (y : Kp b H1 H2) : Kp b H H2 := Same.trans x y
theorem Kp.of {b : Addr} {H H' : Hp} (e : Same H H') : Kp b H H' := off_mono e
theorem Kp.upd {b : Addr} {H : Hp} {o : HO} : Kp b H (upd H b o) := by
  unfold Kp
  rw [off_upd]
  exact Same.refl _
theorem Kp.at {b a : Addr} {H H' : Hp} {o : HO} (k : Kp b H H') (h : H a = some o) (n : a ≠ b) : H' a = some o := off_le _ _ (k a o (by rw [off_ne n]; exact h))
def objDs : List PyData := [.none, .bool true, .bool false, .int 0, .int 1, .int 9, .int (10 ^ 19), .int (-3), .str "4", .tuple [.int 4], .list [.int 4], .str "", .tuple [], .int 2, .int 3, .int 5, .int 7, .int 8]
def sp_of (K : PySem.W.Frag) : Sp := fun vs H Q _ => ∃ (b l : Addr) (xs : List V), vs = [.ref b, .ref l] ∧ BagAt H b ∧ H l = some (.lst xs) ∧ l ≠ b ∧ 0 < xs.length ∧ xs.length < 1073741824 ∧ ∀ x ∈ xs, ∀ c m, Q x (upd H b (.lst [.int c, .int m]))
def sp_object (K : PySem.W.Frag) : Sp := fun vs H Q _ => ∃ (b : Addr), vs = [.ref b] ∧ BagAt H b ∧ ∀ H' v d, Kp b H H' → BagAt H' b → d ∈ objDs → Dp K (off b H') v d → Obj' (off b H') v → Q v H'
def sp_is_from : Sp := fun vs H Q _ => ∃ x lo hi, vs = [x, .int lo, .int hi] ∧ Obj' H x ∧ Q (.bl (betw x lo hi)) H
section
variable {P : Program} {w : World} {K : PySem.W.Frag} {mg : Str → Option Value} {base : Heap}
theorem sc_of : FnScope ["_law_bag_here", "_law_some"] ["_law_bag_here", "_law_some"] (defScope s__law_of) := ⟨rfl, rfl, rfl, by decide +kernel, rfl, by decide +kernel, by decide +kernel⟩
theorem ok_of (T : Tx K mg) : FnOk P w K mg base CX0 2 (gA "_law_of" K) (fdAt K (gA "_law_of" K)) ["_law_bag_here", "_law_some"] (sp_of K) := by
  refine FunD.ok T.f__law_of sc_of (fun vs H Q E h => ?_) (fun cdv A outer s H vs Q E hr h => ?_)
  · obtain ⟨b, l, xs, rfl, _⟩ := h
    rfl
  · obtain ⟨b, l, xs, rfl, hb, hl, nl, h0, h1, q⟩ := h
    refine ⟨_, PSs.nox (pss_one (ps_ret (pe_ix ix_list (pv 1) (pe_call (ok_take T) hr (by rfl) T.g__law_take T.f__law_take.kp (b_take T) .nil pass0 (pa_cons (pv 0) (pa_cons (pe_callB call_len_seq (by rfl) T.free_len PySem.boot_len (pa_cons (pv 1) pa_nil)) pa_nil))) (fun _ _ => rfl)))), ?_⟩
    refine ⟨_, rfl, _, rfl, _, rfl, l, xs, rfl, .inl (SqL.of hl), b, _, rfl, hb, by omega, by omega, fun r c m r0 r1 => ?_⟩
    have hlt : r.toNat < xs.length := by omega
    have e1 : r = ((r.toNat : Nat) : Int) := by omega
    refine ⟨l, xs, r, xs[r.toNat], rfl, rfl, SqL.of (by rw [upd_ne nl]; exact hl), ?_, q _ (List.getElem_mem hlt) c m⟩
    have e3 := atI_nat (List.getElem?_eq_getElem hlt)
    rw [← e1] at e3
    exact e3
theorem b_of (T : Tx K mg) : Binds K (fdAt K (gA "_law_of" K)) ["_law_bag_here", "_law_some"] [] := FunD.bindsN T.f__law_of fun _ _ _ _ _ _ us hl => match us, hl with | [_, _], _ => rfl
theorem sc_object : FnScope ["_law_bag_here", "_law_some"] ["_law_bag_here"] (defScope s__law_object) := ⟨rfl, rfl, rfl, by decide +kernel, rfl, by decide +kernel, by decide +kernel⟩
theorem ok_object (T : Tx K mg) : FnOk P w K mg base CX0 3 (gA "_law_object" K) (fdAt K (gA "_law_object" K)) ["_law_bag_here"] (sp_object K) := by
  refine FunD.ok T.f__law_object sc_object (fun vs H Q E h => ?_) (fun cdv A outer s H vs Q E hr h => ?_)
  · obtain ⟨b, rfl, _⟩ := h
    rfl
  · obtain ⟨b, rfl, hb, q⟩ := h
    refine ⟨_, PSs.nox (pss_cons (ps_set (i := 1) sc_object.nd rfl (Or.inl rfl) (pe_lst (pa_cons pe_non (pa_cons pe_bl (pa_cons pe_bl (pa_cons pe_int (pa_cons pe_int (pa_cons pe_int (pa_cons (pe_op op_pow pe_int pe_int) (pa_cons (pe_un un_neg pe_int) (pa_cons pe_str (pa_cons (pe_tup (pa_cons pe_int pa_nil)) (pa_cons (pe_lst (pa_cons pe_int pa_nil)) (pa_cons pe_str (pa_cons (pe_tup pa_nil)
        (pa_cons pe_int (pa_cons pe_int (pa_cons pe_int (pa_cons pe_int (pa_cons pe_int pa_nil))))))))))))))))))))
      (pss_one (ps_ret (pe_call (ok_of T) hr (by rfl) T.g__law_of T.f__law_of.kp (b_of T) .nil pass0 (pa_cons (pv 0) (pa_cons (pv 1) pa_nil)))))), ?_⟩
    refine ⟨_, _, rfl, rfl, ⟨by decide, by decide, by decide⟩, _, rfl, by decide, fun t1 n1 => ⟨by decide, fun l1 n2 => ⟨by decide, fun t2 n3 => ⟨(by show 18 ≤ sizeLine; decide), fun L n4 => ?_⟩⟩⟩⟩
    obtain ⟨c0, m0, hb0⟩ := hb
    have e1 := new_same (o := .tup [.int 4]) n1
    have e2 := new_same (o := .lst [.int 4]) n2
    have e3 := new_same (o := .tup []) n3
    have e4 := e1.trans (e2.trans e3)
    have b3 := e4 _ _ hb0
    have nt1 : t1 ≠ b := fun z => by rw [z, hb0] at n1; cases n1
    have nl1 : l1 ≠ b := fun z => by rw [z, e1 _ _ hb0] at n2; cases n2
    have nt2 : t2 ≠ b := fun z => by rw [z, (e1.trans e2) _ _ hb0] at n3; cases n3
    have nL : L ≠ b := fun z => by rw [z, b3] at n4; cases n4
    generalize hH : upd (upd (upd (upd H t1 (.tup [.int 4])) l1 (.lst [.int 4])) t2 (.tup [])) L _ = H4
    have e5 : Same (upd (upd (upd H t1 (.tup [.int 4])) l1 (.lst [.int 4])) t2 (.tup [])) H4 := by rw [← hH]; exact new_same n4
    have a1 : H4 t1 = some (.tup [.int 4]) := e5 _ _ ((e2.trans e3) _ _ upd_same)
    have a2 : H4 l1 = some (.lst [.int 4]) := e5 _ _ (e3 _ _ upd_same)
    have a3 : H4 t2 = some (.tup []) := e5 _ _ upd_same
    refine ⟨_, rfl, _, rfl, b, L, _, rfl, ⟨c0, m0, e5 _ _ b3⟩, by rw [← hH, upd_same], nL, (by show 0 < 18; decide), (by show 18 < 1073741824; decide), fun x hx c m => ?_⟩
    have key : ∀ d, d ∈ objDs → (∀ H', off b H' = off b H4 → Dp K (off b H') x d ∧ Obj' (off b H') x) → Q x (upd H4 b (.lst [.int c, .int m])) := fun d hd hq => by
      obtain ⟨q1, q2⟩ := hq (upd H4 b (.lst [.int c, .int m])) off_upd
      exact q _ _ d ((Kp.of (e4.trans e5)).trans Kp.upd) ⟨c, m, upd_same⟩ hd q1 q2
    have o1 : off b H4 t1 = some (.tup [.int 4]) := by rw [off_ne nt1]; exact a1
    have o2 : off b H4 l1 = some (.lst [.int 4]) := by rw [off_ne nl1]; exact a2
    have o3 : off b H4 t2 = some (.tup []) := by rw [off_ne nt2]; exact a3
    simp only [List.mem_cons, List.not_mem_nil, or_false] at hx
    rcases hx with rfl | rfl | rfl | rfl | rfl | rfl | rfl | rfl | rfl | rfl | rfl | rfl | rfl | rfl | rfl | rfl | rfl | rfl
    · exact key .none (by simp [objDs]) fun H' e => ⟨.non, True.intro⟩
    · exact key (.bool true) (by simp [objDs]) fun H' e => ⟨.bl true, True.intro⟩
    · exact key (.bool false) (by simp [objDs]) fun H' e => ⟨.bl false, True.intro⟩
    · exact key (.int 0) (by simp [objDs]) fun H' e => ⟨.int _, True.intro⟩
    · exact key (.int 1) (by simp [objDs]) fun H' e => ⟨.int _, True.intro⟩
    · exact key (.int 9) (by simp [objDs]) fun H' e => ⟨.int _, True.intro⟩
    · exact key (.int (10 ^ 19)) (by simp [objDs]) fun H' e => ⟨.int _, True.intro⟩
    · exact key (.int (-3)) (by simp [objDs]) fun H' e => ⟨.int _, True.intro⟩
    · exact key (.str "4") (by simp [objDs]) fun H' e => ⟨.str _, True.intro⟩
    · exact key (.tuple [.int 4]) (by simp [objDs]) fun H' e => by rw [e]; exact ⟨.tup (SqT.of o1) (.cons (.int 4) .nil), .inr ⟨_, o1⟩⟩
    · exact key (.list [.int 4]) (by simp [objDs]) fun H' e => by rw [e]; exact ⟨.lst (SqL.of o2) (.cons (.int 4) .nil), .inl ⟨_, o2⟩⟩
    · exact key (.str "") (by simp [objDs]) fun H' e => ⟨.str _, True.intro⟩
    · exact key (.tuple []) (by simp [objDs]) fun H' e => by rw [e]; exact ⟨.tup (SqT.of o3) .nil, .inr ⟨_, o3⟩⟩
    · exact key (.int 2) (by simp [objDs]) fun H' e => ⟨.int _, True.intro⟩
    · exact key (.int 3) (by simp [objDs]) fun H' e => ⟨.int _, True.intro⟩
    · exact key (.int 5) (by simp [objDs]) fun H' e => ⟨.int _, True.intro⟩
    · exact key (.int 7) (by simp [objDs]) fun H' e => ⟨.int _, True.intro⟩
    · exact key (.int 8) (by simp [objDs]) fun H' e => ⟨.int _, True.intro⟩
theorem b_object (T : Tx K mg) : Binds K (fdAt K (gA "_law_object" K)) ["_law_bag_here"] [] := FunD.bindsN T.f__law_object fun _ _ _ _ _ _ us hl => match us, hl with | [_], _ => rfl
end

/-! ### limits that are refused -/
def dueL (x y : V) : Option V := if betw x 2 6 = false then some x else if betw y 3 8 = false then some y else none
def sp_refused (K : PySem.W.Frag) : Sp := fun vs H Q _ => ∃ x y, vs = [x, y] ∧ Obj' H x ∧ Obj' H y ∧ (dueL x y = none → ∀ H', Same H H' → Q .non H') ∧ ∀ z, dueL x y = some z → ∀ H' p, Same H H' → H p = none → H' p = some (.lst [z, .bl true]) → Q (.ref p) H'
section
variable {P : Program} {w : World} {K : PySem.W.Frag} {mg : Str → Option Value} {base : Heap}
theorem b_SysP (T : Tx K mg) : ∃ mv, KBn K (fdAt K (mA "System" "__init__" K)) ["self", "processes", "numbers"] 1 ["processes"] (fun us ws => us ++ (ws ++ mv)) (fun vs zs => vs ++ (zs ++ [.int 8])) :=
  FunD.kbinds0 T.f_System___init__ 1 ["processes"] [("numbers", .int 8)] (fun a b c => a ++ (c ++ b)) (fun z => nomatch z) (fun q hq => by simp at hq; simp [hq]) (fun r1 r2 r3 => r1.append (r3.append r2)) fun D doc pm an cdv ct us mv ws l1 l2 l3 => match us, mv, ws, l1, l2, l3 with | [_], [_], [_], _, _, _ => ⟨_, _, _, _, _, _, rfl, rfl, rfl⟩
theorem b_SysPN (T : Tx K mg) : ∃ mv, KBn K (fdAt K (mA "System" "__init__" K)) ["self", "processes", "numbers"] 1 ["processes", "numbers"] (fun us ws => us ++ (ws ++ mv)) (fun vs zs => vs ++ (zs ++ [])) :=
  FunD.kbinds0 T.f_System___init__ 1 ["processes", "numbers"] [] (fun a b c => a ++ (c ++ b)) (fun z => nomatch z) (fun q hq => nomatch hq) (fun r1 r2 r3 => r1.append (r3.append r2)) fun D doc pm an cdv ct us mv ws l1 l2 l3 => match us, mv, ws, l1, l2, l3 with | [_], [], [_, _], _, _, _ => rfl
theorem b_SysNP (T : Tx K mg) : ∃ mv, KBn K (fdAt K (mA "System" "__init__" K)) ["self", "processes", "numbers"] 1 ["numbers", "processes"] (fun us ws => us ++ (ws.reverse ++ mv)) (fun vs zs => vs ++ (zs.reverse ++ [])) :=
  FunD.kbinds0 T.f_System___init__ 1 ["numbers", "processes"] [] (fun a b c => a ++ (c.reverse ++ b)) (fun z => nomatch z) (fun q hq => nomatch hq) (fun r1 r2 r3 => r1.append (r3.reverse.append r2)) fun D doc pm an cdv ct us mv ws l1 l2 l3 => match us, mv, ws, l1, l2, l3 with | [_], [], [_, _], _, _, _ => rfl
theorem sc_is_from : FnScope ["_law_thing", "_law_low", "_law_high"] ["_law_thing", "_law_low", "_law_high"] (defScope s__law_is_from) := ⟨rfl, rfl, rfl, by decide +kernel, rfl, by decide +kernel, by decide +kernel⟩
theorem ok_is_from (T : Tx K mg) : FnOk P w K mg base CX0 1 (gA "_law_is_from" K) (fdAt K (gA "_law_is_from" K)) ["_law_thing", "_law_low", "_law_high"] sp_is_from := by
  refine FunD.ok T.f__law_is_from sc_is_from (fun vs H Q E h => ?_) (fun cdv A outer s H vs Q E hr h => ?_)
  · obtain ⟨x, lo, hi, rfl, _⟩ := h
    rfl
  · obtain ⟨x, lo, hi, rfl, hx, q⟩ := h
    refine ⟨_, PSs.nox (pss_one (ps_ret (pe_and (pe_callB call_isi (by rfl) T.free_isinstance (by decide +kernel) (pa_cons (pv 0) (pa_cons (pe_bltn (v := .ty "int") (by rfl) T.free_int (by decide +kernel) rfl) pa_nil)))
      (pe_and (pe_not (pe_callB call_isi (by rfl) T.free_isinstance (by decide +kernel) (pa_cons (pv 0) (pa_cons (pe_bltn (v := .ty "bool") (by rfl) T.free_bool (by decide +kernel) rfl) pa_nil))))
      (pe_one (pe_chain op_le op_le (pv 1) (pv 0) (pv 2))))))), ?_⟩
    obtain ⟨t, b, c, ty, h1, h2, e⟩ := obj_ty (K := K) hx
    refine ⟨_, rfl, _, _, t, .type "int", b, rfl, .ty "int", ty, h1, b, rfl, ?_⟩
    have no : isI x = false → betw x lo hi = false := fun z => by
      cases x with
      | int i => cases z
      | _ => rfl
    cases b with
    | false =>
      refine iteF ?_
      rw [no e.symm] at q
      exact q
    | true =>
      refine iteT ?_
      refine ⟨_, rfl, _, _, t, .type "bool", c, rfl, .ty "bool", ty, h2, c, rfl, ?_⟩
      cases c with
      | true =>
        refine ⟨_, rfl, iteF ?_⟩
        rw [no e.symm] at q
        exact q
      | false =>
        refine ⟨_, rfl, iteT ?_⟩
        cases x with
        | int i =>
          refine ⟨_, rfl, _, rfl, lo, i, rfl, rfl, _, rfl, ?_⟩
          by_cases c : lo ≤ i
          · rw [decide_eq_true c]
            refine iteT ?_
            refine ⟨_, rfl, i, hi, rfl, rfl, ?_⟩
            have e : betw (.int i) lo hi = decide (i ≤ hi) := by show (decide (lo ≤ i) && decide (i ≤ hi)) = _; rw [decide_eq_true c]; rfl
            rw [e] at q
            exact q
          · rw [decide_eq_false c]
            refine iteF ?_
            have e : betw (.int i) lo hi = false := by show (decide (lo ≤ i) && decide (i ≤ hi)) = _; rw [decide_eq_false c]; rfl
            rw [e] at q
            exact q
        | _ => cases e
theorem b_is_from (T : Tx K mg) : Binds K (fdAt K (gA "_law_is_from" K)) ["_law_thing", "_law_low", "_law_high"] [] := FunD.bindsN T.f__law_is_from fun _ _ _ _ _ _ us hl => match us, hl with | [_, _, _], _ => rfl
theorem sc_refused : FnScope ["_law_many", "_law_size", "e"] ["_law_many", "_law_size"] (defScope s__law_refused) := ⟨rfl, rfl, rfl, by decide +kernel, rfl, by decide +kernel, by decide +kernel⟩
theorem ok_refused (T : Tx K mg) : FnOk P w K mg base CX0 6 (gA "_law_refused" K) (fdAt K (gA "_law_refused" K)) ["_law_many", "_law_size"] (sp_refused K) := by
  refine FunD.ok T.f__law_refused sc_refused (fun vs H Q E h => ?_) (fun cdv A outer s H vs Q E hr h => ?_)
  · obtain ⟨x, y, rfl, _⟩ := h
    rfl
  · obtain ⟨x, y, rfl, hx, hy, q0, q1⟩ := h
    obtain ⟨mv, hb⟩ := b_SysPN T
    refine ⟨_, PSs.nox (pss_cons (ps_try_as (i := 2) rfl rfl sc_refused.nd rfl rfl ⟨rfl, by decide, .inl T.g_BadLimit⟩ L2.takes0
        (fun W pn xe tk _ => pss_one (ps_expr (pe_makeKW T.k_System (ok_Sys_init T) hr (by rfl) T.g_System hb (fun σ => passAt tk σ) (pk_cons (pv 0) (pk_cons (pv 1) pk_nil)))))
        (fun a oe cls d pn hz hf => pss_one (ps_ret (pe_lst (pa_cons (pe_xf T.x_BadLimit.xf (T.x_BadLimit.no "limit" (by decide)) hz hf (pv 2)) (pa_cons (pe_callB (call_isX hz hf) (by rfl) T.free_isinstance (by decide +kernel) (pa_cons (pv 2) (pa_cons (pe_bltn (v := .ty "ValueError") (by rfl) T.free_ValueError (by decide +kernel) rfl) pa_nil))) pa_nil))))))
      (pss_one (ps_ret pe_non))), ?_⟩
    refine ⟨_, rfl, _, rfl, rfl, fun p dx np nd ne => ?_⟩
    have e1 : Same H (upd (upd H dx (.own p)) p (.ins (ga K "System") dx [])) := (new_same nd).trans (new_same (by rw [upd_ne (Ne.symm ne)]; exact np))
    refine ⟨p, dx, x, y, rfl, upd_same, hx.same e1, hy.same e1, fun c => ?_, fun c1 c2 => ?_, ?_⟩
    · intro H' d s1 hd h'
      refine ⟨true, T.e_BadLimit_BadLimit, fun _ a na => ?_, fun z => (nomatch z)⟩
      refine ⟨_, rfl, rfl, rfl, d, _, _, rfl, h', rfl, _, rfl, "BadLimit", _, _, _, _, _, _, .type "ValueError", true, rfl, T.x_BadLimit, T.o_BadLimit, rfl, (fun u hu => hu), T.q_BadLimit_ValueError, ⟨d, _, rfl, h'⟩, ?_⟩
      refine ⟨(by show 2 ≤ sizeLine; decide), fun r nr => ?_⟩
      exact q1 x (by unfold dueL; rw [if_pos c]) _ _ ((e1.trans s1).trans (new_same nr)) ((e1.trans s1).free nr) upd_same
    · intro H' d s1 hd h'
      refine ⟨true, T.e_BadLimit_BadLimit, fun _ a na => ?_, fun z => (nomatch z)⟩
      refine ⟨_, rfl, rfl, rfl, d, _, _, rfl, h', rfl, _, rfl, "BadLimit", _, _, _, _, _, _, .type "ValueError", true, rfl, T.x_BadLimit, T.o_BadLimit, rfl, (fun u hu => hu), T.q_BadLimit_ValueError, ⟨d, _, rfl, h'⟩, ?_⟩
      refine ⟨(by show 2 ≤ sizeLine; decide), fun r nr => ?_⟩
      exact q1 y (by unfold dueL; rw [if_neg (by rw [c1]; decide), if_pos c2]) _ _ ((e1.trans s1).trans (new_same nr)) ((e1.trans s1).free nr) upd_same
    intro a b ea eb a1 a2 b1 b2 H' S hS hp hv kp nw
    refine ⟨rfl, ?_⟩
    refine q0 ?_ _ fun c o e => kp c o (e1 _ _ e) (ne_of_none e np)
    subst ea eb
    have t1 : betw (.int a) 2 6 = true := by show (decide (2 ≤ a) && decide (a ≤ 6)) = true; rw [decide_eq_true a1, decide_eq_true a2]; rfl
    have t2 : betw (.int b) 3 8 = true := by show (decide (3 ≤ b) && decide (b ≤ 8)) = true; rw [decide_eq_true b1, decide_eq_true b2]; rfl
    unfold dueL
    rw [t1, t2]
    rfl
theorem b_refused (T : Tx K mg) : Binds K (fdAt K (gA "_law_refused" K)) ["_law_many", "_law_size"] [] := FunD.bindsN T.f__law_refused fun _ _ _ _ _ _ us hl => match us, hl with | [_, _], _ => rfl
end

/-! ### no registrations where there is no set -/
def sp_regs0 (K : PySem.W.Frag) : Sp := fun vs H Q _ => ∃ (s : Sy), vs = [.ref s.p] ∧ SyAt K H s ∧ WF s.v ∧ s.made ≤ 1000000 ∧ setsIn s.v = [] ∧ ∀ H' p, Same H H' → H p = none → H' p = some (.lst []) → Q (.ref p) H'
section
variable {P : Program} {w : World} {K : PySem.W.Frag} {mg : Str → Option Value} {base : Heap}
theorem sc_regs : FnScope ["self", "found", "serial", "name", "entry", "source"] ["self"] (defScope s_System_registrations) := ⟨rfl, rfl, rfl, by decide +kernel, rfl, by decide +kernel, by decide +kernel⟩
theorem ok_regs0 (T : Tx K mg) : FnOk P w K mg base CX0 9 (mA "System" "registrations" K) (fdAt K (mA "System" "registrations" K)) ["self"] (sp_regs0 K) := by
  refine FunD.ok T.f_System_registrations sc_regs (fun vs H Q E h => ?_) (fun cdv A outer s H vs Q E hr h => ?_)
  · obtain ⟨x, rfl, _⟩ := h
    rfl
  · obtain ⟨S, rfl, hS, hw, hm, h0, q⟩ := h
    have hu := hu_of hr
    refine ⟨_, PSs.nox (pss_cons (ps_set (i := 1) sc_regs.nd rfl (Or.inl rfl) (pe_lst pa_nil))
      (pss_cons (ps_for PassesOwn.never rfl (pi_list (pe_meth0 (pv 0) T.c_System T.m_System_set_serials (ok_set_serials T) hr (b_set_serials T) .nil pass0)) (pg_name (i := 2) sc_regs.nd rfl (Or.inl rfl))
        (pss_cons (ps_set (i := 3) sc_regs.nd rfl (Or.inl rfl) (pe_meth (pv 0) T.c_System T.m_System_name_of (ok_name_of T) (hr.mono (by decide)) (b_name_of T) .nil pass0 (pa_cons (pv 2) pa_nil)))
        (pss_one (ps_for PassesOwn.never rfl (pi_list (pe_fld (pe_dget hu (pe_fld (pv 0) rfl) (pv 2) (fun _ _ => rfl)) rfl)) (pg_name (i := 4) sc_regs.nd rfl (Or.inl rfl))
          (pss_cons (ps_set (i := 5) sc_regs.nd rfl (Or.inl rfl) (pe_meth (pv 0) T.c_System T.m_System_name_of (ok_name_of T) (hr.mono (by decide)) (b_name_of T) .nil pass0 (pa_cons (pe_fld (pv 4) rfl) pa_nil)))
          (pss_one (ps_expr (pe_bm PySem.F.plainAttrs_list PySem.F.slot_list_append PySem.F.type_list_append mt_append (pv 1) (pa_cons (pe_tup (pa_cons (pv 3) (pa_cons (pe_fld (pv 4) rfl) (pa_cons (pe_fld (pv 4) rfl) (pa_cons (pv 5) (pa_cons (pe_fld (pv 4) rfl) (pa_cons (pe_fld (pv 4) rfl) pa_nil))))))) pa_nil)))))))))
      (pss_one (ps_ret (pv 1))))), ?_⟩
    refine ⟨by decide, fun F nF => ?_⟩
    have S0 := hS.ext (new_same (o := .lst []) nF)
    refine ⟨_, rfl, S.p, S.dx, _, rfl, S0.ob, rfl, S, rfl, S0, hw, hm, fun H1 pl e1 npl h1 => ?_⟩
    rw [h0] at h1
    refine ⟨pl, rfl, ⟨_, SqL.of h1⟩, ?_⟩
    refine for_list (xs := []) (fun j σ H3 => (∃ v3 v4 v5 v6, σ = [some (.ref S.p), some (.ref F), v3, v4, v5, v6]) ∧ H3 = H1) ⟨⟨_, _, _, _, rfl⟩, rfl⟩ (fun j σ H3 hj g => by rw [g.2]; exact SqL.of h1) ?_ ?_
    · intro j x σ H3 hx
      cases hx
    · rintro σ H3 ⟨⟨v3, v4, v5, v6, rfl⟩, rfl⟩
      exact ⟨_, rfl, q _ _ ((new_same nF).trans e1) nF (e1 _ _ upd_same)⟩
theorem b_regs (T : Tx K mg) : Binds K (fdAt K (mA "System" "registrations" K)) ["self"] [] := FunD.bindsN T.f_System_registrations fun _ _ _ _ _ _ us hl => match us, hl with | [_], _ => rfl
end
/-! ### a system that is filled -/
def rng (n : Nat) : List Int := (List.range n).map fun (k : Nat) => (k : Int)
theorem rng_succ (n : Nat) : rng (n + 1) = rng n ++ [(n : Int)] := by
  unfold rng
  rw [List.range_succ, List.map_append]
  rfl
theorem mem_rng {n : Nat} {x : Int} : x ∈ rng n ↔ 0 ≤ x ∧ x < n := by
  unfold rng
  rw [List.mem_map]
  constructor
  · rintro ⟨k, hk, rfl⟩
    have := List.mem_range.mp hk
    omega
  · rintro ⟨h0, h1⟩
    exact ⟨x.toNat, List.mem_range.mpr (by omega), by omega⟩
theorem rng_len (n : Nat) : (rng n).length = n := by
  unfold rng
  rw [List.length_map, List.length_range]
/-- k processes with no numbers -/
def fillA (P N : Int) (k : Nat) : Sv := ⟨P, N, 0, (rng k).map fun i => (i, []), []⟩
/-- j sources in the process m -/
def fillB (P N : Int) (m : Int) (k j : Nat) : Sv := ⟨P, N, j, (rng k).map fun i => (i, if i = m then (rng j).map fun n => (n, n) else []), (rng j).map fun n => (n, .src 0 false)⟩
theorem fillA_0 (P N : Int) : newSv P N = fillA P N 1 := rfl
theorem fillA_ids (P N : Int) (k : Nat) : (fillA P N k).tabs.map (·.1) = rng k := by
  show ((rng k).map fun i => (i, ([] : List (Int × Int)))).map (·.1) = _
  rw [List.map_map]
  exact List.map_id _
theorem fillA_step (P N : Int) (k : Nat) : (fillA P N k).fork (k : Int) [] = fillA P N (k + 1) := by
  unfold Sv.fork fillA
  rw [rng_succ, List.map_append]
  rfl
theorem lk_mk {α : Type} {f : Int → α} {x : Int} : ∀ {l : List Int}, x ∈ l → lk (l.map fun i => (i, f i)) x = some (f x)
  | a :: l, h => by
    show lk ((a, f a) :: l.map fun i => (i, f i)) x = _
    by_cases e : a = x
    · rw [lk_pos (r := (a, f a)) e, e]
    · rw [lk_neg (r := (a, f a)) e]
      exact lk_mk ((List.mem_cons.mp h).resolve_left fun z => e z.symm)
theorem fillAB (P N m : Int) (k : Nat) : fillA P N k = fillB P N m k 0 := by
  unfold fillA fillB
  have e : ∀ i : Int, (i, ([] : List (Int × Int))) = (i, if i = m then (rng 0).map fun n => (n, n) else []) := fun i => by split <;> rfl
  congr 1
  exact List.map_congr_left fun i _ => e i
theorem fillB_step (P N m : Int) (k j : Nat) : (fillB P N m k j).place m (j : Int) (.src 0 false) = fillB P N m k (j + 1) := by
  unfold Sv.place fillB upAt
  rw [List.map_map, rng_succ, List.map_append, List.map_append]
  congr 1
  refine List.map_congr_left fun i _ => ?_
  show (if (i, (if i = m then (rng j).map fun n => (n, n) else [])).1 = m then ((i, (if i = m then (rng j).map fun n => (n, n) else [])).1, (i, (if i = m then (rng j).map fun n => (n, n) else [])).2 ++ [((j : Int), ((j : Nat) : Int))]) else (i, (if i = m then (rng j).map fun n => (n, n) else []))) = _
  by_cases e : i = m
  · simp [e]
  · simp [e]
theorem rows_ids (j : Nat) : ((rng j).map fun n => (n, n)).map (·.1) = rng j := by
  rw [List.map_map]
  exact List.map_id _
theorem low_rng {k : Nat} {n : Int} (h : (k : Int) < n) : lowFree (rng k) n = some (k : Int) := lowFree_some h (fun j hj => mem_rng.mpr ⟨by omega, by omega⟩) fun z => by
  have := mem_rng.mp z
  omega
theorem low_full {k : Nat} {n : Int} (h : (k : Int) = n) : lowFree (rng k) n = none := lowFree_none fun j hj => mem_rng.mpr ⟨by omega, by omega⟩
theorem setsIn_none {v : Sv} (h : ∀ t ∈ v.ths, t.2.isSet = false) : setsIn v = [] := by
  have e : setSers v = [] := by
    unfold setSers
    rw [List.filter_eq_nil_iff.mpr fun t ht => by rw [h t ht]; exact Bool.false_ne_true]
    rfl
  have := (setsIn_perm v).length_eq
  rw [e] at this
  exact List.length_eq_zero_iff.mp this

theorem Fr'.off {s s' : Sy} {H H' : Hp} {D : Addr} (f : Fr' s s' H H') : Fr' s s' (Wn.off D H) (Wn.off D H') := by
  refine ⟨fun b o h nb => ?_, fun b hb => ?_, f.same⟩
  · have ne : b ≠ D := fun z => by
      unfold Wn.off at h
      rw [if_pos z] at h
      cases h
    rw [off_ne ne] at h ⊢
    exact f.keep b o h nb
  · rcases f.foot b hb with z | z
    · exact .inl z
    · refine .inr ?_
      unfold Wn.off
      split
      · rfl
      · exact z
theorem off_none {D : Addr} {H : Hp} (h : H D = none) : Wn.off D H = H := by
  funext b
  unfold Wn.off
  split
  · subst_vars
    exact h.symm
  · rfl
theorem shaped_ints (l : List Int) : SeqAt.shaped (.list (l.map PyData.int)) = true := by
  have h1 : PyData.canLayAll0 (l.map PyData.int) = true := by
    induction l with
    | nil => rfl
    | cons a l ih => exact ih
  have h2 : PyData.depthAll (l.map PyData.int) ≤ 1 := by
    clear h1
    induction l with
    | nil => simp [PyData.depthAll]
    | cons a l ih => simpa [PyData.depthAll, PyData.depth] using ih
  refine Bool.and_eq_true_iff.mpr ⟨h1, decide_eq_true ?_⟩
  rw [PyData.depth]
  omega
theorem rngV_eq (n : Nat) : rngV 0 n = (rng n).map V.int := by
  unfold rngV rng
  rw [List.map_map]
  refine List.map_congr_left fun k _ => ?_
  show V.int (0 + (k : Nat)) = V.int (k : Nat)
  rw [Int.zero_add]
def rng1 (n : Nat) : List Int := (List.range n).map fun (k : Nat) => 1 + (k : Int)
theorem rngV1_eq (n : Nat) : rngV 1 n = (rng1 n).map V.int := by
  unfold rngV rng1
  rw [List.map_map]
  rfl
theorem rng1_succ (n : Nat) : rng1 (n + 1) = rng1 n ++ [((n + 1 : Nat) : Int)] := by
  unfold rng1
  rw [List.range_succ, List.map_append]
  congr 1
  show [1 + (n : Int)] = [((n + 1 : Nat) : Int)]
  congr 1
  omega
theorem rng1_len (n : Nat) : (rng1 n).length = n := by
  unfold rng1
  rw [List.length_map, List.length_range]
theorem lst_dp {K : PySem.W.Frag} {H : Hp} {p : Addr} {l : List Int} (h : H p = some (.lst (l.map V.int))) : Dp K H (.ref p) (.list (l.map PyData.int)) := .lst (SqL.of h) (dp_ints l)

theorem neD_same {K : PySem.W.Frag} {H : Hp} {x y : V} {d : PyData} {Q : VK} (hs : SeqAt.shaped d = true) (hx : Dp K H x d) (hy : Dp K H y d) (q : Q (.bl false) H) : rNeD K x y H Q := ⟨d, d, hx, hy, hs, hs, by rw [eqv_same hs]; exact q⟩
theorem eqD_same {K : PySem.W.Frag} {H : Hp} {x y : V} {d : PyData} {Q : VK} (hs : SeqAt.shaped d = true) (hx : Dp K H x d) (hy : Dp K H y d) (q : Q (.bl true) H) : rEqD K x y H Q := ⟨d, d, hx, hy, hs, hs, by rw [eqv_same hs]; exact q⟩
theorem Fr'.on {s s' : Sy} {H Hc H' : Hp} (f : Fr' s s' Hc H') (e : Same H Hc) (F : ∀ c ∈ s.foot, H c = none) : Same H H' ∧ ∀ c ∈ s'.foot, H c = none := by
  refine ⟨fun b o h => f.keep b o (e b o h) fun z => ?_, fun c hc => ?_⟩
  · rw [F b z] at h
    cases h
  · rcases f.foot c hc with z | z
    · exact F c z
    · exact e.free z
def sp_fills : Sp := fun vs H Q _ => ∃ (a b : Int), vs = [.int a, .int b] ∧ 2 ≤ a ∧ a ≤ 6 ∧ 3 ≤ b ∧ b ≤ 8 ∧ ∀ H', Same H H' → Q (.bl true) H'
section
variable {P : Program} {w : World} {K : PySem.W.Frag} {mg : Str → Option Value} {base : Heap}
theorem sc_fills : FnScope ["_law_many", "_law_size", "_law_box", "_law_turn", "_law_told", "e"] ["_law_many", "_law_size"] (defScope s__law_fills) := ⟨rfl, rfl, rfl, by decide +kernel, rfl, by decide +kernel, by decide +kernel⟩
theorem ok_fills (T : Tx K mg) : FnOk P w K mg base CX0 11 (gA "_law_fills" K) (fdAt K (gA "_law_fills" K)) ["_law_many", "_law_size"] sp_fills := by
  refine FunD.ok T.f__law_fills sc_fills (fun vs H Q E h => ?_) (fun cdv A outer s H vs Q E hr h => ?_)
  · obtain ⟨a, b, rfl, _⟩ := h
    rfl
  · obtain ⟨a, b, rfl, a1, a2, b1, b2, q⟩ := h
    have hu := hr.units
    obtain ⟨mv, hb⟩ := b_SysNP T
    refine ⟨_, PSs.nox (pss_cons (ps_set (i := 2) sc_fills.nd rfl (Or.inr rfl) (pe_makeK0 T.k_System (ok_Sys_init T) (hr.mono (by decide)) (by rfl) T.g_System hb passL (pk_cons (pv 1) (pk_cons (pv 0) pk_nil))))
      (pss_cons (ps_if (PW.pt (pw_or (pt_cmpR (op_neD hu) (pe_prop (pv 2) T.c_System T.p_System_limits (ok_limits T) (hr.mono (by decide)) (b_limits T) .nil pass0 rfl) (pe_tup (pa_cons (pv 0) (pa_cons (pv 1) pa_nil))) (nomark _))
          (pw_or (pt_cmpR (op_neD hu) (pe_meth0 (pv 2) T.c_System T.m_System_alive (ok_alive T) (hr.mono (by decide)) (b_alive T) .nil pass0) (pe_lst (pa_cons pe_int pa_nil)) (nomark _))
          (pw_or (pt_cmpR (op_neD hu) (pe_meth (pv 2) T.c_System T.m_System_numbers (ok_numbers T) (hr.mono (by decide)) (b_numbers T) .nil passL (pa_cons pe_int pa_nil)) (pe_lst pa_nil) (nomark _))
          (pw_or1 (pt_cmpR (op_neD hu) (pe_meth0 (pv 2) T.c_System T.m_System_registrations (ok_regs0 T) (hr.mono (by decide)) (b_regs T) .nil pass0) (pe_lst pa_nil) (nomark _)))))))
        (pss_one (ps_ret pe_bl)) pss_nil)
      (pss_cons (ps_if (pt_cmpR (op_neD hu) (pe_lc (own := [("_law_turn", 3)]) (g := gName 3) (tt := tYes) rfl sc_fills.nd (pi_range1 (by rfl) T.free_range (pa_cons (pe_op op_sub (pv 0) pe_int) pa_nil)) (blkOk_by (N := ["_law_many", "_law_size", "_law_box", "_law_turn", "_law_told", "e"]) (sc := defScope s__law_fills) (by decide +kernel))
            (fun _ _ _ _ _ => pg_name (i := 3) sc_fills.nd rfl (Or.inl rfl)) (fun _ _ _ _ _ => pts_nil) (fun _ _ _ _ _ => pe_meth (pv 2) T.c_System T.m_System_fork (ok_fork T) (hr.mono (by decide)) (b_fork T) .nil passL (pa_cons pe_int pa_nil)))
          (pe_listR2 rfl (by rfl) T.free_list (by rfl) T.free_range (pa_cons pe_int (pa_cons (pv 0) pa_nil))) (nomark _))
        (pss_one (ps_ret pe_bl)) pss_nil)
      (pss_cons (ps_if (PW.pt (pw_or (pt_cmpR (op_neD hu) (pe_lc (own := [("_law_turn", 3)]) (g := gName 3) (tt := tYes) rfl sc_fills.nd (pi_range1 (by rfl) T.free_range (pa_cons (pv 1) pa_nil)) (blkOk_by (N := ["_law_many", "_law_size", "_law_box", "_law_turn", "_law_told", "e"]) (sc := defScope s__law_fills) (by decide +kernel))
            (fun _ _ _ _ _ => pg_name (i := 3) sc_fills.nd rfl (Or.inl rfl)) (fun _ _ _ _ _ => pts_nil) (fun _ _ _ _ _ => pe_meth (pv 2) T.c_System T.m_System_new_source (ok_new_source T) (hr.mono (by decide)) (b_new_source T) .nil passL (pa_cons (pe_op op_sub (pv 0) pe_int) pa_nil)))
          (pe_listR1 rfl (by rfl) T.free_list (by rfl) T.free_range (pa_cons (pv 1) pa_nil)) (nomark _))
          (pw_or1 (pt_cmpR op_ne (pe_callB (call_lenO T.m_System___len__ (ok_len T) (hr.mono (by decide)) (b_len T) (fun _ _ _ _ h => h)) (by rfl) T.free_len PySem.boot_len (pa_cons (pv 2) pa_nil)) (pv 0) (nomark _)))))
        (pss_one (ps_ret pe_bl)) pss_nil)
      (pss_cons (ps_set (i := 4) sc_fills.nd rfl (Or.inl rfl) (pe_lst pa_nil))
      (pss_cons (ps_try_as (i := 5) rfl rfl sc_fills.nd rfl rfl ⟨rfl, by decide, .inl T.g_NoRoom⟩ L2.takes0
        (fun W pn xe tk _ => pss_one (ps_expr (pe_methW (pv 2) T.c_System T.m_System_fork (ok_fork T) (hr.mono (by decide)) (b_fork T) .nil (fun σ => passAt tk σ) (pa_cons pe_int pa_nil))))
        (fun a oe cls d pn hz hf => pss_one (ps_expr (pe_bmK K PySem.F.plainAttrs_list PySem.F.slot_list_append PySem.F.type_list_append mt_append (pv 4) (pa_cons (pe_callB (call_isX hz hf) (by rfl) T.free_isinstance (by decide +kernel) (pa_cons (pv 5) (pa_cons (pe_bltn (v := .ty "OverflowError") (by rfl) T.free_OverflowError (by decide +kernel) rfl) pa_nil))) pa_nil)))))
      (pss_cons (ps_try_as (i := 5) rfl rfl sc_fills.nd rfl rfl ⟨rfl, by decide, .inl T.g_Full⟩ L2.takes0
        (fun W pn xe tk _ => pss_one (ps_expr (pe_methW (pv 2) T.c_System T.m_System_new_set (ok_new_set T) (hr.mono (by decide)) (b_new_set T) .nil (fun σ => passAt tk σ) (pa_cons (pe_op op_sub (pv 0) pe_int) pa_nil))))
        (fun a oe cls d pn hz hf => pss_one (ps_expr (pe_bmK K PySem.F.plainAttrs_list PySem.F.slot_list_append PySem.F.type_list_append mt_append (pv 4) (pa_cons (pe_lst (pa_cons (pe_xf T.x_Full.xf (T.x_Full.no "process" (by decide)) hz hf (pv 5)) (pa_cons (pe_callB (call_isX hz hf) (by rfl) T.free_isinstance (by decide +kernel) (pa_cons (pv 5) (pa_cons (pe_bltn (v := .ty "OverflowError") (by rfl) T.free_OverflowError (by decide +kernel) rfl) pa_nil))) pa_nil))) pa_nil)))))
      (pss_one (ps_ret (pe_and (pe_cmpR (op_eqD hu) (pv 4) (pe_lst (pa_cons pe_bl (pa_cons (pe_lst (pa_cons (pe_op op_sub (pv 0) pe_int) (pa_cons pe_bl pa_nil))) pa_nil))) (nomark _))
        (pe_one (pe_cmpR (op_eqD hu) (pe_meth (pv 2) T.c_System T.m_System_numbers (ok_numbers T) (hr.mono (by decide)) (b_numbers T) .nil passL (pa_cons pe_int pa_nil)) (pe_lst pa_nil) (nomark _))))))))))))), ?_⟩
    refine ⟨_, rfl, _, rfl, rfl, rfl, fun p dx np nd ne => ?_⟩
    have e1 : Same H (upd (upd H dx (.own p)) p (.ins (ga K "System") dx [])) := (new_same nd).trans (new_same (by rw [upd_ne (Ne.symm ne)]; exact np))
    have t1 : betw (.int a) 2 6 = true := by show (decide (2 ≤ a) && decide (a ≤ 6)) = true; rw [decide_eq_true a1, decide_eq_true a2]; rfl
    have t2 : betw (.int b) 3 8 = true := by show (decide (3 ≤ b) && decide (b ≤ 8)) = true; rw [decide_eq_true b1, decide_eq_true b2]; rfl
    refine ⟨p, dx, .int a, .int b, rfl, upd_same, True.intro, True.intro, (fun c => by rw [t1] at c; cases c), (fun _ c => by rw [t2] at c; cases c), fun x y ea eb _ _ _ _ H0 S hS hp hv kp nw => ⟨rfl, ?_⟩⟩
    cases ea
    cases eb
    subst hp
    have eH0 : Same H H0 := fun b o e => kp b o (e1 _ _ e) (ne_of_none e np)
    have F0 : ∀ c ∈ S.foot, H c = none := fun c hc => by
      rcases nw c hc with z | z
      · exact z ▸ np
      · exact e1.free z
    have hP : S.P = a := congrArg Sv.P hv
    have hN : S.N = b := congrArg Sv.N hv
    have hw : WF S.v := by rw [hv]; exact WF.new ⟨a1, a2⟩ ⟨b1, b2⟩
    have ids : S.tabs.map (·.1) = [0] := by rw [← Sy.pids, hv]; rfl
    have l1 : S.tabs.length = 1 := by rw [← List.length_map (f := fun t : Int × Tb => t.1), ids]; rfl
    obtain ⟨tb0, hl0⟩ := lk_some_of (show (0 : Int) ∈ S.tabs.map (·.1) from by rw [ids]; exact List.mem_singleton.mpr rfl)
    have r0 : tb0.rows = [] := by
      have e := Sy.tabs_v S 0
      rw [hl0, hv] at e
      exact (Option.some.inj e).symm
    have sP : SeqAt.shaped (.tuple [.int a, .int b]) = true := by simp [SeqAt.shaped, PyData.canLay0, PyData.canLayAll0, PyData.depth, PyData.depthAll]
    -- the looks at the new system
    refine ⟨_, rfl, S.p, S.dx, _, rfl, hS.ob, S, rfl, hS, fun p1 np1 => ⟨_, rfl, _, rfl, (by show 2 ≤ sizeLine; decide), fun p2 np2 => ?_⟩⟩
    have E2 := (new_same (o := .tup [.int S.P, .int S.N]) np1).trans (new_same (o := .tup [.int a, .int b]) np2)
    refine neD_same sP (.tup (SqT.of (show _ = some (HO.tup [.int a, .int b]) from by rw [← hP, ← hN]; exact new_same np2 _ _ upd_same)) (.cons (.int a) (.cons (.int b) .nil))) (.tup (SqT.of upd_same) (.cons (.int a) (.cons (.int b) .nil))) ⟨_, rfl, iteF ?_⟩
    have S2 := hS.ext E2
    refine ⟨_, rfl, S.p, S.dx, _, rfl, S2.ob, rfl, S, rfl, S2, by omega, fun p3 np3 => ⟨by decide, fun p4 np4 => ?_⟩⟩
    have s1 : srtI (S.tabs.map (·.1)) = [0] := by rw [ids]; exact srtI_range 1
    have E4 := (new_same (o := .lst ((srtI (S.tabs.map (·.1))).map V.int)) np3).trans (new_same (o := .lst [.int 0]) np4)
    refine neD_same (shaped_ints [0]) (lst_dp (l := [0]) (by rw [← s1]; exact new_same np4 _ _ upd_same)) (lst_dp (l := [0]) upd_same) ⟨_, rfl, iteF ?_⟩
    have S4 := S2.ext E4
    refine ⟨_, rfl, S.p, S.dx, _, rfl, S4.ob, rfl, S, .int 0, rfl, S4, True.intro, hw, .inl ⟨0, tb0, rfl, hl0, fun H5 p5 nd5 => ⟨by decide, fun p6 np6 => ?_⟩⟩⟩
    have nn : numsD S.v tb0.rows = [] := by rw [r0]; unfold numsD; rw [show (([] : List (Int × Int)).map (·.1)) = [] from rfl, srtI_nil]; rfl
    rw [nn] at nd5
    have E6 := nd5.same.trans (new_same (o := .lst []) np6)
    refine neD_same (shaped_ints []) (Dp.same (new_same np6) _ _ nd5.dp) (lst_dp (l := []) upd_same) ⟨_, rfl, iteF ?_⟩
    have S6 := S4.ext E6
    have made0 : S.made = 0 := congrArg Sv.made hv
    refine ⟨_, rfl, S.p, S.dx, _, rfl, S6.ob, rfl, S, rfl, S6, hw, by omega, setsIn_none (by rw [hv]; exact fun t ht => (nomatch ht)), fun H7 p7 e7 np7 h7 => ⟨by decide, fun p8 np8 => ?_⟩⟩
    refine neD_same (shaped_ints []) (lst_dp (l := []) (new_same np8 _ _ h7)) (lst_dp (l := []) upd_same) ⟨_, rfl, iteF ?_⟩
    have S8 := S6.ext (e7.trans (new_same (o := .lst []) np8))
    have eH8 : Same H (upd H7 p8 (.lst [])) := eH0.trans (E2.trans (E4.trans (E6.trans (e7.trans (new_same np8)))))
    generalize upd H7 p8 (.lst []) = Hc at S8 eH8
    -- forks
    refine ⟨_, rfl, _, _, rfl, rfl, _, rfl, by omega, by omega, fun D nD => ?_⟩
    refine lc_range (lo := 0) (n := (a - 1).toNat) (fun k H3 => ∃ s3, SyAt K H3 s3 ∧ s3.v = fillA a b (k + 1) ∧ WF s3.v ∧ Fr' S s3 Hc (Wn.off D H3) ∧ D ∉ s3.foot ∧ H3 D = some (.lst ((rng1 k).map V.int))) ⟨S, S8.ext (new_same nD), by rw [hv]; rfl, hw, by rw [off_upd, off_none nD]; exact Fr'.refl _ _, S8.notfoot nD, upd_same⟩ ?_ ?_
    · rintro i H3 hi ⟨s3, h3, v3, w3, f3, n3, d3⟩
      have hp3 : s3.p = S.p := f3.same
      have ids3 : s3.tabs.map (·.1) = rng (i + 1) := by rw [← Sy.pids, v3, fillA_ids]
      have hP3 : s3.P = a := congrArg Sv.P v3
      have low : lowFree (s3.tabs.map (·.1)) s3.P = some ((i + 1 : Nat) : Int) := by rw [ids3, hP3]; exact low_rng (by omega)
      have lv : lk s3.v.tabs 0 = some [] := by rw [v3]; exact lk_mk (f := fun _ => ([] : List (Int × Int))) (mem_rng.mpr ⟨by omega, by omega⟩)
      obtain ⟨tb, hl⟩ := lk_some_of (show (0 : Int) ∈ s3.tabs.map (·.1) from by rw [ids3]; exact mem_rng.mpr ⟨by omega, by omega⟩)
      have rb : tb.rows = [] := by
        rw [Sy.tabs_v, hl] at lv
        exact Option.some.inj lv
      refine ⟨rfl, _, rfl, S.p, s3.dx, _, rfl, hp3 ▸ h3.ob, rfl, s3, .int 0, by rw [hp3]; rfl, h3, True.intro, w3, .inl ⟨0, tb, rfl, hl, fun c hc H4 s4 fk => ?_, (fun hn => by rw [low] at hn; cases hn)⟩⟩
      rw [low] at hc
      cases hc
      have d4 := fk.fr.keep D _ d3 n3
      have n4 : D ∉ s4.foot := fk.fr.out d3 n3
      refine ⟨_, d4, by rw [List.length_map, rng1_len]; exact Nat.lt_of_lt_of_le (show i < 8 by omega) (by decide), s4, fk.at_.same fun b o h hb => by rw [upd_ne (show b ≠ D from fun z => n4 (z ▸ hb))]; exact h, ?_, ?_, ?_, n4, ?_⟩
      · rw [fk.v, v3, rb]
        exact fillA_step a b (i + 1)
      · rw [fk.v]
        exact w3.fork (i := 0) (by rw [Sy.tabs_v, hl]; rfl) (by
          have := lowFree_spec low
          rw [Sy.pids]
          exact this)
      · rw [off_upd]
        exact f3.trans fk.fr.off
      · rw [upd_same, rng1_succ, List.map_append]
        rfl
    · rintro H3 ⟨s3, h3, v3, w3, f3, n3, d3⟩
      have ka : (a - 1).toNat + 1 = a.toNat := by omega
      rw [ka] at v3
      refine ⟨_, rfl, 1, a, rfl, ⟨by decide, by decide, by omega, by omega⟩, by omega, fun p9 np9 => ?_⟩
      rw [rngV1_eq]
      refine neD_same (shaped_ints _) (lst_dp (new_same np9 _ _ d3)) (lst_dp upd_same) ⟨_, rfl, iteF ?_⟩
      have S9 := h3.ext (new_same (o := .lst ((rng1 (a - 1).toNat).map V.int)) np9)
      obtain ⟨eH9', F9⟩ := f3.on eH8 F0
      have eH9 : Same H (upd H3 p9 (.lst ((rng1 (a - 1).toNat).map V.int))) := eH9'.trans (off_le.trans (new_same np9))
      generalize upd H3 p9 (.lst ((rng1 (a - 1).toNat).map V.int)) = Hd at S9 eH9
      have hp3 : s3.p = S.p := f3.same
      clear f3 n3 d3
      -- sources
      rw [fillAB a b (a - 1)] at v3
      refine ⟨_, rfl, _, rfl, by omega, by omega, fun D nD => ?_⟩
      refine lc_range (lo := 0) (n := b.toNat) (fun j H4 => ∃ s4, SyAt K H4 s4 ∧ s4.v = fillB a b (a - 1) a.toNat j ∧ WF s4.v ∧ Fr' s3 s4 Hd (Wn.off D H4) ∧ D ∉ s4.foot ∧ H4 D = some (.lst ((rng j).map V.int))) ⟨s3, S9.ext (new_same nD), v3, w3, by rw [off_upd, off_none nD]; exact Fr'.refl _ _, S9.notfoot nD, upd_same⟩ ?_ ?_
      · rintro j H4 hj ⟨s4, h4, v4, w4, f4, n4, d4⟩
        have hp4 : s4.p = S.p := f4.same.trans hp3
        have hN4 : s4.N = b := congrArg Sv.N v4
        have hm4 : s4.made = (j : Int) := congrArg Sv.made v4
        have lv : lk s4.v.tabs (a - 1) = some ((rng j).map fun n => (n, n)) := by
          rw [v4]
          have z := lk_mk (f := fun i : Int => if i = a - 1 then (rng j).map (fun n => (n, n)) else []) (x := a - 1) (l := rng a.toNat) (mem_rng.mpr ⟨by omega, by omega⟩)
          rw [if_pos rfl] at z
          exact z
        have lv' := lv
        rw [Sy.tabs_v] at lv
        obtain ⟨tb, hl, rb⟩ := Option.map_eq_some_iff.mp lv
        have low : lowFree (tb.rows.map (·.1)) s4.N = some (j : Int) := by rw [rb, rows_ids, hN4]; exact low_rng (by omega)
        refine ⟨rfl, _, rfl, S.p, s4.dx, _, rfl, hp4 ▸ h4.ob, rfl, _, rfl, _, _, rfl, rfl, s4, .int (a - 1), by rw [hp4]; rfl, h4, True.intro, w4, ⟨by omega, by omega⟩, .inl ⟨a - 1, tb, rfl, hl, fun n hn H5 s5 h5 v5 f5 => ?_, (fun hn => by rw [low] at hn; cases hn)⟩⟩
        rw [low] at hn
        cases hn
        have d5 := f5.keep D _ d4 n4
        have n5 : D ∉ s5.foot := f5.out d4 n4
        refine ⟨_, d5, by rw [List.length_map, rng_len]; exact Nat.lt_of_lt_of_le (show j < 8 by omega) (by decide), s5, h5.same fun b o h hb => by rw [upd_ne (show b ≠ D from fun z => n5 (z ▸ hb))]; exact h, ?_, ?_, ?_, n5, ?_⟩
        · rw [v5, v4]
          exact fillB_step a b (a - 1) a.toNat j
        · rw [v5]
          have sp := lowFree_spec low
          exact w4.place lv' ⟨sp.1, sp.2.1, by rw [← rb]; exact sp.2.2⟩ (Int.le_refl 0) (by show 0 ≤ s4.made; omega)
        · rw [off_upd]
          exact f4.trans f5.off
        · rw [upd_same, rng_succ, List.map_append]
          rfl
      · rintro H4 ⟨s4, h4, v4, w4, f4, n4, d4⟩
        refine ⟨_, rfl, b, rfl, ⟨by decide, by decide, by omega, by omega⟩, by omega, fun p10 np10 => ?_⟩
        rw [show (b - 0).toNat = b.toNat from by rw [Int.sub_zero], rngV_eq]
        refine neD_same (shaped_ints _) (lst_dp (new_same np10 _ _ d4)) (lst_dp upd_same) ⟨_, rfl, iteF ?_⟩
        have T0 := h4.ext (new_same (o := .lst ((rng b.toNat).map V.int)) np10)
        obtain ⟨eHa', Fa⟩ := f4.on eH9 F9
        have eHa : Same H (upd H4 p10 (.lst ((rng b.toNat).map V.int))) := eHa'.trans (off_le.trans (new_same np10))
        generalize upd H4 p10 (.lst ((rng b.toNat).map V.int)) = He at T0 eHa
        have hp4 : s4.p = S.p := f4.same.trans hp3
        clear f4 n4 d4
        have ids4 : s4.tabs.map (·.1) = rng a.toNat := by
          rw [← Sy.pids, v4]
          show ((rng a.toNat).map fun i => (i, if i = a - 1 then (rng b.toNat).map (fun n => (n, n)) else ([] : List (Int × Int)))).map (·.1) = _
          rw [List.map_map]
          exact List.map_id _
        have len4 : (s4.tabs.length : Int) = a := by
          rw [← List.length_map (f := fun t : Int × Tb => t.1), ids4, rng_len]
          omega
        have hP4 : s4.P = a := congrArg Sv.P v4
        have hN4 : s4.N = b := congrArg Sv.N v4
        have hm4 : s4.made = ((b.toNat : Nat) : Int) := congrArg Sv.made v4
        refine ⟨_, rfl, S.p, s4.dx, _, rfl, hp4 ▸ T0.ob, s4, by rw [hp4], T0, _, rfl, by omega, by omega, _, rfl, rfl, _, rfl, ?_⟩
        rw [len4, decide_eq_true (show V.int a = V.int a from rfl)]
        refine iteF ⟨by decide, fun tl ntl => ?_⟩
        have T1 := T0.ext (new_same (o := .lst []) ntl)
        have tf : tl ∉ s4.foot := T0.notfoot ntl
        -- no room
        have lv1 : (1 : Int) ∈ s4.tabs.map (·.1) := by rw [ids4]; exact mem_rng.mpr ⟨by omega, by omega⟩
        obtain ⟨tb1, hl1⟩ := lk_some_of lv1
        have full : lowFree (s4.tabs.map (·.1)) s4.P = none := by rw [ids4, hP4]; exact low_full (by omega)
        refine ⟨_, rfl, S.p, s4.dx, _, rfl, hp4 ▸ T1.ob, rfl, s4, .int 1, by rw [hp4]; rfl, T1, True.intro, w4, .inl ⟨1, tb1, rfl, hl1, (fun c hc => by rw [full] at hc; cases hc), fun _ H5 d s5 hd h5 => ?_⟩⟩
        refine ⟨true, T.e_NoRoom_NoRoom, fun _ x nx => ?_, fun z => (nomatch z)⟩
        have c1 : H5 tl = some (.lst []) := s5 _ _ upd_same
        refine ⟨_, rfl, .inl ⟨rfl, _, SqL.of c1⟩, _, rfl, "NoRoom", _, _, _, _, _, _, .type "OverflowError", true, rfl, T.x_NoRoom, T.o_NoRoom, rfl, (fun u hu => hu), T.q_NoRoom_OverflowError, ⟨d, _, rfl, h5⟩, tl, _, _, rfl, rfl, c1, by decide, ?_⟩
        have T5 := T1.ext s5
        have T6 : SyAt K (upd H5 tl (.lst ([] ++ [.bl true]))) s4 := T5.same fun b o h hb => by rw [upd_ne (show b ≠ tl from fun z => tf (z ▸ hb))]; exact h
        have eH6 : Same H (upd H5 tl (.lst ([] ++ [.bl true]))) := fun b o h => by
          rw [upd_ne (ne_of_none (eHa _ _ h) ntl)]
          exact s5 _ _ (new_same ntl _ _ (eHa _ _ h))
        have c6 : upd H5 tl (.lst ([] ++ [.bl true])) tl = some (.lst [.bl true]) := upd_same
        have nH : H tl = none := eHa.free ntl
        generalize upd H5 tl (.lst ([] ++ [.bl true])) = Hf at T6 eH6 c6
        -- full
        have lvm : lk s4.v.tabs (a - 1) = some ((rng b.toNat).map fun n => (n, n)) := by
          rw [v4]
          have z := lk_mk (f := fun i : Int => if i = a - 1 then (rng b.toNat).map (fun n => (n, n)) else []) (x := a - 1) (l := rng a.toNat) (mem_rng.mpr ⟨by omega, by omega⟩)
          rw [if_pos rfl] at z
          exact z
        rw [Sy.tabs_v] at lvm
        obtain ⟨tbm, hlm, rbm⟩ := Option.map_eq_some_iff.mp lvm
        have fullm : lowFree (tbm.rows.map (·.1)) s4.N = none := by rw [rbm, rows_ids, hN4]; exact low_full (by omega)
        refine ⟨_, rfl, S.p, s4.dx, _, rfl, hp4 ▸ T6.ob, rfl, _, rfl, _, _, rfl, rfl, s4, .int (a - 1), by rw [hp4]; rfl, T6, True.intro, w4, ⟨by omega, by omega⟩, .inl ⟨a - 1, tbm, rfl, hlm, (fun c hc => by rw [fullm] at hc; cases hc), fun _ H7 d7 s7 hd7 h7 => ?_⟩⟩
        refine ⟨true, T.e_Full_Full, fun _ x nx => ?_, fun z => (nomatch z)⟩
        have c7 : H7 tl = some (.lst [.bl true]) := s7 _ _ c6
        refine ⟨_, rfl, .inl ⟨rfl, _, SqL.of c7⟩, _, rfl, rfl, rfl, d7, _, _, rfl, h7, rfl, _, rfl, "Full", _, _, _, _, _, _, .type "OverflowError", true, rfl, T.x_Full, T.o_Full, rfl, (fun u hu => hu), T.q_Full_OverflowError, ⟨d7, _, rfl, h7⟩, (by show 2 ≤ sizeLine; decide), fun iq niq => ?_⟩
        have c8 : upd H7 iq (.lst [.int (a - 1), .bl true]) tl = some (.lst [.bl true]) := new_same niq _ _ c7
        refine ⟨tl, _, _, rfl, rfl, c8, (by show 1 < sizeLine; decide), ?_⟩
        have ntq : iq ≠ tl := fun z => by rw [z, c7] at niq; cases niq
        have e8 := s7.trans (new_same (o := .lst [.int (a - 1), .bl true]) niq)
        have T8 : SyAt K (upd (upd H7 iq (.lst [.int (a - 1), .bl true])) tl (.lst ([.bl true] ++ [.ref iq]))) s4 := (T6.ext e8).same fun b o h hb => by rw [upd_ne (show b ≠ tl from fun z => tf (z ▸ hb))]; exact h
        have eH8 : Same H (upd (upd H7 iq (.lst [.int (a - 1), .bl true])) tl (.lst ([.bl true] ++ [.ref iq]))) := fun b o h => by
          rw [upd_ne (ne_of_none h nH)]
          exact e8 _ _ (eH6 _ _ h)
        have c9 : upd (upd H7 iq (.lst [.int (a - 1), .bl true])) tl (.lst ([.bl true] ++ [.ref iq])) tl = some (.lst [.bl true, .ref iq]) := upd_same
        have q9 : upd (upd H7 iq (.lst [.int (a - 1), .bl true])) tl (.lst ([.bl true] ++ [.ref iq])) iq = some (.lst [.int (a - 1), .bl true]) := by rw [upd_ne ntq, upd_same]
        generalize upd (upd H7 iq (.lst [.int (a - 1), .bl true])) tl (.lst ([.bl true] ++ [.ref iq])) = Hg at T8 eH8 c9 q9
        -- the end
        have sE : SeqAt.shaped (.list [.bool true, .list [.int (a - 1), .bool true]]) = true := by simp [SeqAt.shaped, PyData.canLay0, PyData.canLayAll0, PyData.depth, PyData.depthAll]
        refine ⟨_, rfl, _, rfl, _, _, rfl, rfl, (by show 2 ≤ sizeLine; decide), fun u1 nu1 => ⟨(by show 2 ≤ sizeLine; decide), fun u2 nu2 => ?_⟩⟩
        have Eg := (new_same (o := .lst [.int (a - 1), .bl true]) nu1).trans (new_same (o := .lst [.bl true, .ref u1]) nu2)
        refine eqD_same sE (.lst (SqL.of (Eg _ _ c9)) (.cons (.bl true) (.cons (.lst (SqL.of (Eg _ _ q9)) (.cons (.int _) (.cons (.bl true) .nil))) .nil)))
          (.lst (SqL.of upd_same) (.cons (.bl true) (.cons (.lst (SqL.of (new_same nu2 _ _ upd_same)) (.cons (.int _) (.cons (.bl true) .nil))) .nil))) ⟨_, rfl, iteT ?_⟩
        have Tg := T8.ext Eg
        have lv0 : lk s4.v.tabs 0 = some [] := by
          rw [v4]
          have z := lk_mk (f := fun i : Int => if i = a - 1 then (rng b.toNat).map (fun n => (n, n)) else []) (x := 0) (l := rng a.toNat) (mem_rng.mpr ⟨by omega, by omega⟩)
          rw [if_neg (by omega)] at z
          exact z
        rw [Sy.tabs_v] at lv0
        obtain ⟨tbz, hlz, rbz⟩ := Option.map_eq_some_iff.mp lv0
        refine ⟨_, rfl, S.p, s4.dx, _, rfl, hp4 ▸ Tg.ob, rfl, s4, .int 0, by rw [hp4]; rfl, Tg, True.intro, w4, .inl ⟨0, tbz, rfl, hlz, fun Hh p12 nd12 => ⟨by decide, fun p13 np13 => ?_⟩⟩⟩
        have nz : numsD s4.v tbz.rows = [] := by rw [rbz]; unfold numsD; rw [show (([] : List (Int × Int)).map (·.1)) = [] from rfl, srtI_nil]; rfl
        rw [nz] at nd12
        exact eqD_same (shaped_ints []) (Dp.same (new_same np13) _ _ nd12.dp) (lst_dp (l := []) upd_same) (q _ (eH8.trans (Eg.trans (nd12.same.trans (new_same np13)))))
theorem b_fills (T : Tx K mg) : Binds K (fdAt K (gA "_law_fills" K)) ["_law_many", "_law_size"] [] := FunD.bindsN T.f__law_fills fun _ _ _ _ _ _ us hl => match us, hl with | [_, _], _ => rfl
end

/-! ### the law -/
theorem obj_show : (objDs.all fun d => (PyData.list [d, .bool true]).showable && (!(PyData.list [d, .bool true]).hasDict && (decide ((PyData.list [d, .bool true]).depth ≤ 100) && decide ((PyData.list [d, .bool true]).shown.length ≤ sizeLine)))) = true := by decide +kernel
theorem mk_lim {K : PySem.W.Frag} {H : Hp} {p dx : Addr} {x y : Int} {Q : VK} {E : XK} (np : H p = none) (nd : H dx = none) (ne : dx ≠ p) (hx : 2 ≤ x ∧ x ≤ 6) (hy : 3 ≤ y ∧ y ≤ 8)
    (q : ∀ H' (S : Sy), SyAt K H' S → S.p = p → S.P = x → S.N = y → Same H H' → Q .non H') : sp_Sys_init K [.ref p, .int x, .int y] (upd (upd H dx (.own p)) p (.ins (ga K "System") dx [])) Q E := by
  have e1 : Same H (upd (upd H dx (.own p)) p (.ins (ga K "System") dx [])) := (new_same nd).trans (new_same (by rw [upd_ne (Ne.symm ne)]; exact np))
  have t1 : betw (.int x) 2 6 = true := by show (decide (2 ≤ x) && decide (x ≤ 6)) = true; rw [decide_eq_true hx.1, decide_eq_true hx.2]; rfl
  have t2 : betw (.int y) 3 8 = true := by show (decide (3 ≤ y) && decide (y ≤ 8)) = true; rw [decide_eq_true hy.1, decide_eq_true hy.2]; rfl
  refine ⟨p, dx, .int x, .int y, rfl, upd_same, True.intro, True.intro, (fun c => by rw [t1] at c; cases c), (fun _ c => by rw [t2] at c; cases c), fun a b ea eb _ _ _ _ H0 S hS hp hv kp nw => ?_⟩
  cases ea
  cases eb
  exact q H0 S hS hp (congrArg Sv.P hv) (congrArg Sv.N hv) fun b o e => kp b o (e1 _ _ e) (ne_of_none e np)
theorem lim_cmp {K : PySem.W.Frag} {H : Hp} {S : Sy} {p : Addr} {x y : Int} {Q : VK} (hS : SyAt K H S) (hp : S.p = p) (eP : S.P = x) (eN : S.N = y) (q : ∀ H', Same H H' → Q (.bl false) H') :
    ∃ a dx fs, V.ref p = .ref a ∧ H a = some (.ins (ga K "System") dx fs) ∧ sp_limits K [.ref a] H (fun u H1 => (2 ≤ sizeLine) ∧ ∀ p2, H1 p2 = none → rNeD K u (.ref p2) (upd H1 p2 (.tup [.int x, .int y])) Q) E0 := by
  subst hp
  refine ⟨S.p, S.dx, _, rfl, hS.ob, S, rfl, hS, fun p1 np1 => ⟨by decide, fun p2 np2 => ?_⟩⟩
  have sP : SeqAt.shaped (.tuple [.int x, .int y]) = true := by simp [SeqAt.shaped, PyData.canLay0, PyData.canLayAll0, PyData.depth, PyData.depthAll]
  refine neD_same sP (.tup (SqT.of (show _ = some (HO.tup [.int x, .int y]) from by rw [← eP, ← eN]; exact new_same np2 _ _ upd_same)) (.cons (.int x) (.cons (.int y) .nil))) (.tup (SqT.of upd_same) (.cons (.int x) (.cons (.int y) .nil))) (q _ ((new_same np1).trans (new_same np2)))
def sp_law (K : PySem.W.Frag) : Sp := fun vs H Q _ => ∃ (a : Addr) (ns : List Int), vs = [.ref a] ∧ SqL K H a (ns.map V.int) ∧ ∀ H', Q (.bl true) H'
theorem show_ok {d : PyData} (hm : d ∈ objDs) : (PyData.list [d, .bool true]).showable = true ∧ (PyData.list [d, .bool true]).hasDict = false ∧ (PyData.list [d, .bool true]).depth ≤ 100 ∧ (PyData.list [d, .bool true]).shown.length ≤ sizeLine := by
  obtain ⟨h1, h2⟩ := ba (List.all_eq_true.mp obj_show d hm)
  obtain ⟨h3, h4⟩ := ba h2
  obtain ⟨h5, h6⟩ := ba h4
  exact ⟨h1, by simpa using h3, of_decide_eq_true h5, of_decide_eq_true h6⟩
section
variable {P : Program} {w : World} {K : PySem.W.Frag} {mg : Str → Option Value} {base : Heap}
theorem sc_law : FnScope ["_law_script", "_law_at", "_law_bag_here", "_law_turn", "_law_many", "_law_size", "_law_due"] ["_law_script"] (defScope s_law) := ⟨rfl, rfl, rfl, by decide +kernel, rfl, by decide +kernel, by decide +kernel⟩
theorem ok_law (T : Tx K mg) : FnG P w K mg base CX0 12 (gA "law" K) (fdAt K (gA "law" K)) ["_law_script"] (sp_law K) := by
  refine okG T.f_law sc_law (fun vs H Q E h => ?_) (fun cdv A outer s H vs Q E hgd hr h => ?_)
  · obtain ⟨a, ns, rfl, _⟩ := h
    rfl
  · obtain ⟨a, ns, rfl, ha, q⟩ := h
    have hu := hr.units
    have hu2 : (A.deeper (envOfC "law" (defScope s_law) s.heap.objs.size (gA "law" K) cdv)).units + 200 < cLine := by have := hr.un; omega
    obtain ⟨ds, hds, hb0⟩ := b_Sys0 T
    obtain ⟨mvP, hbP⟩ := b_SysP T
    obtain ⟨mvN, hbN⟩ := b_SysN T
    obtain ⟨rd, u1, v1⟩ := T.v_System_MOST_PROCESSES
    obtain ⟨_, u2, v2⟩ := T.v_System_MOST_NUMBERS
    refine ⟨_, PSs.nox (pss_cons (ps_if (PW.pt (pw_or (pt_cmpR op_ne (ClX.pe_cval (pe_glob (v := .ref (ga K "System")) (by rfl) T.g_System rfl)) pe_int (nomark _))
        (pw_or (pt_cmpR op_ne (ClX.pe_cval (pe_glob (v := .ref (ga K "System")) (by rfl) T.g_System rfl)) pe_int (nomark _))
        (pw_or1 (pt_cmpR (op_neD hu) (pe_prop (pe_make0 T.k_System (ok_Sys_init T) (hr.mono (by decide)) (by rfl) T.g_System hb0 hds passL) T.c_System T.p_System_limits (ok_limits T) (hr.mono (by decide)) (b_limits T) .nil pass0 rfl) (pe_tup (pa_cons pe_int (pa_cons pe_int pa_nil))) (nomark _))))))
        (pss_one (ps_ret pe_bl)) pss_nil)
      (pss_cons (ps_if (PW.pt (pw_or (pt_cmpR (op_neD hu) (pe_prop (pe_makeK0 T.k_System (ok_Sys_init T) (hr.mono (by decide)) (by rfl) T.g_System hbP passL (pk_cons pe_int pk_nil)) T.c_System T.p_System_limits (ok_limits T) (hr.mono (by decide)) (b_limits T) .nil pass0 rfl) (pe_tup (pa_cons pe_int (pa_cons pe_int pa_nil))) (nomark _))
        (pw_or1 (pt_cmpR (op_neD hu) (pe_prop (pe_makeK0 T.k_System (ok_Sys_init T) (hr.mono (by decide)) (by rfl) T.g_System hbN passL (pk_cons pe_int pk_nil)) T.c_System T.p_System_limits (ok_limits T) (hr.mono (by decide)) (b_limits T) .nil pass0 rfl) (pe_tup (pa_cons pe_int (pa_cons pe_int pa_nil))) (nomark _)))))
        (pss_one (ps_ret pe_bl)) pss_nil)
      (pss_cons (ps_for PassesOwn.never rfl (pi_range1 (by rfl) T.free_range (pa_cons (pe_callB (call_max2 rfl) (by rfl) T.free_max (by decide +kernel) (pa_cons pe_int (pa_cons (pe_callB (call_min2 rfl) (by rfl) T.free_min (by decide +kernel) (pa_cons pe_int (pa_cons (pe_callB call_len_seq (by rfl) T.free_len PySem.boot_len (pa_cons (pv 0) pa_nil)) pa_nil))) pa_nil))) pa_nil)) (pg_name (i := 1) sc_law.nd rfl (Or.inl rfl))
        (pss_cons (ps_set (i := 2) sc_law.nd rfl (Or.inl rfl) (pe_call (ok_bag T) (hr.mono (by decide)) (by rfl) T.g__law_bag T.f__law_bag.kp (b_bag T) .nil pass0 (pa_cons (pv 0) (pa_cons (pv 1) pa_nil))))
        (pss_cons (ps_for PassesOwn.never rfl (pi_range1 (by rfl) T.free_range (pa_cons pe_int pa_nil)) (pg_name (i := 3) sc_law.nd rfl (Or.inl rfl))
          (pss_cons (ps_par (i := 4) (j := 5) rfl sc_law.nd rfl rfl (by decide) rfl rfl (pa_cons (pe_call (ok_object T) (hr.mono (by decide)) (by rfl) T.g__law_object T.f__law_object.kp (b_object T) .nil pass0 (pa_cons (pv 2) pa_nil)) (pa_cons (pe_call (ok_object T) (hr.mono (by decide)) (by rfl) T.g__law_object T.f__law_object.kp (b_object T) .nil pass0 (pa_cons (pv 2) pa_nil)) pa_nil)) rfl)
          (pss_cons (ps_set (i := 6) sc_law.nd rfl (Or.inl rfl) pe_non)
          (pss_cons (ps_if (pt_not (pt_val (pe_call (ok_is_from T) (hr.mono (by decide)) (by rfl) T.g__law_is_from T.f__law_is_from.kp (b_is_from T) .nil pass0 (pa_cons (pv 5) (pa_cons pe_int (pa_cons pe_int pa_nil))))))
            (pss_one (ps_set (i := 6) sc_law.nd rfl (Or.inl rfl) (pe_lst (pa_cons (pv 5) (pa_cons pe_bl pa_nil))))) pss_nil)
          (pss_cons (ps_if (pt_not (pt_val (pe_call (ok_is_from T) (hr.mono (by decide)) (by rfl) T.g__law_is_from T.f__law_is_from.kp (b_is_from T) .nil pass0 (pa_cons (pv 4) (pa_cons pe_int (pa_cons pe_int pa_nil))))))
            (pss_one (ps_set (i := 6) sc_law.nd rfl (Or.inl rfl) (pe_lst (pa_cons (pv 4) (pa_cons pe_bl pa_nil))))) pss_nil)
          (pss_one (ps_if (pt_cmpR op_ne (pe_callB (call_repr hgd hu2) (by rfl) T.free_repr (by decide +kernel) (pa_cons (pe_call (ok_refused T) (hr.mono (by decide)) (by rfl) T.g__law_refused T.f__law_refused.kp (b_refused T) .nil pass0 (pa_cons (pv 4) (pa_cons (pv 5) pa_nil))) pa_nil)) (pe_callB (call_repr hgd hu2) (by rfl) T.free_repr (by decide +kernel) (pa_cons (pv 6) pa_nil)) (nomark _))
            (pss_one (ps_ret pe_bl)) pss_nil)))))))
        (pss_one (ps_if (pt_not (pt_val (pe_call (ok_fills T) (hr.mono (by decide)) (by rfl) T.g__law_fills T.f__law_fills.kp (b_fills T) .nil pass0 (pa_cons (pe_op op_add pe_int (pe_call (ok_take T) (hr.mono (by decide)) (by rfl) T.g__law_take T.f__law_take.kp (b_take T) .nil pass0 (pa_cons (pv 2) (pa_cons pe_int pa_nil)))) (pa_cons (pe_op op_add pe_int (pe_call (ok_take T) (hr.mono (by decide)) (by rfl) T.g__law_take T.f__law_take.kp (b_take T) .nil pass0 (pa_cons (pv 2) (pa_cons pe_int pa_nil)))) pa_nil)))))
          (pss_one (ps_ret pe_bl)) pss_nil)))))
      (pss_one (ps_ret pe_bl))))), ?_⟩
    refine ⟨_, _, _, _, rfl, rd, v1, rfl, _, rfl, iteF ?_⟩
    refine ⟨_, _, _, _, rfl, rd, v2, rfl, _, rfl, iteF ?_⟩
    intro p dx np nd ne
    refine mk_lim np nd ne ⟨by decide, by decide⟩ ⟨by decide, by decide⟩ fun H1 S hS hp eP eN e1 => ⟨rfl, lim_cmp hS hp eP eN fun H2 e2 => ⟨_, rfl, iteF ?_⟩⟩
    refine ⟨rfl, rfl, fun p dx np nd ne => ?_⟩
    refine mk_lim np nd ne ⟨by decide, by decide⟩ ⟨by decide, by decide⟩ fun H3 S3 hS3 hp3 eP3 eN3 e3 => ⟨rfl, lim_cmp hS3 hp3 eP3 eN3 fun H4 e4 => ⟨_, rfl, iteF ?_⟩⟩
    refine ⟨rfl, rfl, fun p dx np nd ne => ?_⟩
    refine mk_lim np nd ne ⟨by decide, by decide⟩ ⟨by decide, by decide⟩ fun H5 S5 hS5 hp5 eP5 eN5 e5 => ⟨rfl, lim_cmp hS5 hp5 eP5 eN5 fun H6 e6 => ⟨_, rfl, iteF ?_⟩⟩
    have eA : Same H H6 := e1.trans (e2.trans (e3.trans (e4.trans (e5.trans e6))))
    refine ⟨_, rfl, a, _, rfl, .inl (eA.seq ha), _, _, rfl, _, _, rfl, _, rfl, ?_, ?_, ?_⟩
    · split <;> split <;> omega
    · split <;> split <;> omega
    refine for_range (lo := 0) (fun k σ H' => (∃ v1 v2 v3 v4 v5 v6, σ = [some (.ref a), v1, v2, v3, v4, v5, v6]) ∧ Same H H') ⟨⟨_, _, _, _, _, _, rfl⟩, eA⟩ ?_ ?_
    · rintro k σ H7 hk ⟨⟨v1, v2, v3, v4, v5, v6, rfl⟩, e7⟩
      refine ⟨_, rfl, _, rfl, a, ns, _, rfl, e7.seq ha, by omega, fun H8 b e8 nb hB => ?_⟩
      have nb0 : H b = none := e7.free nb
      refine ⟨_, rfl, by decide, by decide, ?_⟩
      refine for_range (lo := 0) (fun j σ H' => (∃ v3 v4 v5 v6, σ = [some (.ref a), some (.int (0 + k)), some (.ref b), v3, v4, v5, v6]) ∧ Same H H' ∧ BagAt H' b) ⟨⟨_, _, _, _, rfl⟩, e7.trans e8, hB⟩ ?_ ?_
      · rintro j σ H9 hj ⟨⟨v3, v4, v5, v6, rfl⟩, e9, hB9⟩
        have on : ∀ {Hx Hy : Hp}, Same H Hx → Kp b Hx Hy → Same H Hy := fun ex ky c o h => ky.at (ex c o h) (ne_of_none h nb0)
        refine ⟨_, rfl, b, rfl, hB9, fun Ha x dx ka Ba mx Dx Ox => ⟨_, rfl, b, rfl, Ba, fun Hb y dy kb Bb my Dy Oy => ⟨_, _, rfl, ?_⟩⟩⟩
        have eb : Same H Hb := on (on e9 ka) kb
        have Dx2 : Dp K (Wn.off b Hb) x dx := Dp.same kb _ _ Dx
        have Ox2 : Obj' (Wn.off b Hb) x := Ox.same kb
        have Ox3 : Obj' Hb x := Ox2.same off_le
        have Oy3 : Obj' Hb y := Oy.same off_le
        obtain ⟨cB, mB, hB'⟩ := Bb
        refine ⟨_, rfl, y, 3, 8, rfl, Oy3, _, rfl, ?_⟩
        cases cy : betw y 3 8 with
        | true =>
          refine iteF ⟨_, rfl, x, 2, 6, rfl, Ox3, _, rfl, ?_⟩
          cases cx : betw x 2 6 with
          | true =>
            have dd : dueL x y = none := by unfold dueL; rw [cx, cy]; rfl
            refine iteF ⟨_, rfl, _, rfl, x, y, rfl, Ox3, Oy3, fun _ Hr er => ?_, (fun z hz => by rw [dd] at hz; cases hz)⟩
            refine ⟨.non, .none, rfl, .non, by decide +kernel, by decide +kernel, by decide +kernel, by decide +kernel, _, rfl, .non, .none, rfl, .non, by decide +kernel, by decide +kernel, by decide +kernel, by decide +kernel, rfl, _, rfl, ite2 (fun c => absurd c (by simp)) fun _ => ?_⟩
            exact ⟨⟨_, _, _, _, rfl⟩, eb.trans er, cB, mB, er _ _ hB'⟩
          | false =>
            have dd : dueL x y = some x := by unfold dueL; rw [cx]; rfl
            refine iteT ⟨_, rfl, (by show 2 ≤ sizeLine; decide), fun L nL => ?_⟩
            have eD := new_same (o := .lst [x, .bl true]) nL
            refine ⟨_, rfl, _, rfl, x, y, rfl, Ox3.same eD, Oy3.same eD, (fun h => by rw [dd] at h; cases h), fun z' hz Hr pr er npr hr' => ?_⟩
            rw [dd] at hz
            cases hz
            have Dzr : Dp K Hr x dx := Dp.same (off_le.trans (eD.trans er)) _ _ Dx2
            obtain ⟨g1, g2, g3, g4⟩ := show_ok mx
            refine ⟨_, _, rfl, .lst (SqL.of hr') (.cons Dzr (.cons (.bl true) .nil)), g1, g2, g3, g4, ?_⟩
            refine ⟨_, rfl, _, _, rfl, .lst (SqL.of (er _ _ upd_same)) (.cons Dzr (.cons (.bl true) .nil)), g1, g2, g3, g4, ?_⟩
            refine ⟨rfl, _, rfl, ite2 (fun c => absurd c (by simp)) fun _ => ?_⟩
            exact ⟨⟨_, _, _, _, rfl⟩, eb.trans (eD.trans er), cB, mB, (eD.trans er) _ _ hB'⟩
        | false =>
          refine iteT ⟨_, rfl, (by show 2 ≤ sizeLine; decide), fun L nL => ?_⟩
          have eD := new_same (o := .lst [y, .bl true]) nL
          refine ⟨_, rfl, x, 2, 6, rfl, Ox3.same eD, _, rfl, ?_⟩
          cases cx : betw x 2 6 with
          | true =>
            have dd : dueL x y = some y := by unfold dueL; rw [cx, cy]; rfl
            refine iteF ?_
            refine ⟨_, rfl, _, rfl, x, y, rfl, Ox3.same eD, Oy3.same eD, (fun h => by rw [dd] at h; cases h), fun z' hz Hr pr er npr hr' => ?_⟩
            rw [dd] at hz
            cases hz
            have Dzr : Dp K Hr y dy := Dp.same (off_le.trans (eD.trans er)) _ _ Dy
            obtain ⟨g1, g2, g3, g4⟩ := show_ok my
            refine ⟨_, _, rfl, .lst (SqL.of hr') (.cons Dzr (.cons (.bl true) .nil)), g1, g2, g3, g4, ?_⟩
            refine ⟨_, rfl, _, _, rfl, .lst (SqL.of (er _ _ upd_same)) (.cons Dzr (.cons (.bl true) .nil)), g1, g2, g3, g4, ?_⟩
            refine ⟨rfl, _, rfl, ite2 (fun c => absurd c (by simp)) fun _ => ?_⟩
            exact ⟨⟨_, _, _, _, rfl⟩, eb.trans (eD.trans er), cB, mB, (eD.trans er) _ _ hB'⟩
          | false =>
            have dd : dueL x y = some x := by unfold dueL; rw [cx]; rfl
            refine iteT ⟨_, rfl, (by show 2 ≤ sizeLine; decide), fun L2 nL2 => ?_⟩
            have eD2 := eD.trans (new_same (o := .lst [x, .bl true]) nL2)
            refine ⟨_, rfl, _, rfl, x, y, rfl, Ox3.same eD2, Oy3.same eD2, (fun h => by rw [dd] at h; cases h), fun z' hz Hr pr er npr hr' => ?_⟩
            rw [dd] at hz
            cases hz
            have Dzr : Dp K Hr x dx := Dp.same (off_le.trans (eD2.trans er)) _ _ Dx2
            obtain ⟨g1, g2, g3, g4⟩ := show_ok mx
            refine ⟨_, _, rfl, .lst (SqL.of hr') (.cons Dzr (.cons (.bl true) .nil)), g1, g2, g3, g4, ?_⟩
            refine ⟨_, rfl, _, _, rfl, .lst (SqL.of (er _ _ upd_same)) (.cons Dzr (.cons (.bl true) .nil)), g1, g2, g3, g4, ?_⟩
            refine ⟨rfl, _, rfl, ite2 (fun c => absurd c (by simp)) fun _ => ?_⟩
            exact ⟨⟨_, _, _, _, rfl⟩, eb.trans (eD2.trans er), cB, mB, (eD2.trans er) _ _ hB'⟩
      · rintro σ H9 ⟨⟨v3, v4, v5, v6, rfl⟩, e9, hB9⟩
        refine ⟨_, rfl, b, 5, rfl, hB9, by decide, by decide, fun r c m r0 r1 => ⟨_, _, rfl, rfl, _, rfl, b, 6, rfl, ⟨_, _, upd_same⟩, by decide, by decide, fun r' c' m' r0' r1' => ⟨_, _, rfl, rfl, _, _, rfl, by omega, by omega, by omega, by omega, fun Hz ez => ⟨_, rfl, iteF ?_⟩⟩⟩⟩
        refine ⟨⟨_, _, _, _, _, _, rfl⟩, fun x o h => ez _ _ ?_⟩
        rw [upd_ne (ne_of_none h nb0), upd_ne (ne_of_none h nb0)]
        exact e9 _ _ h
    · rintro σ H9 ⟨⟨v1, v2, v3, v4, v5, v6, rfl⟩, e9⟩
      exact q _
theorem b_law (T : Tx K mg) : Binds K (fdAt K (gA "law" K)) ["_law_script"] [] := FunD.bindsN T.f_law fun _ _ _ _ _ _ us hl => match us, hl with | [_], _ => rfl
end

/-! ### the head: the top is run -/
abbrev R : PySem.W.OpenRow := PySem.W.OpenLaw.row PySem.Challenge.rw_waitnumbers_k23_limits_of_systems
abbrev hk : PySem.W.Hook := hookW 6 fcL fwL tsL tfL
def obs (s : PySem.W.SharedT) : AlW := obsW 6 fcL fwL tsL tfL (HandSHeadRun.getT s)
theorem obs_eq (s : PySem.W.SharedT) : obs s = hk.obs s.abs := obsW_eq (HandSHeadRun.getT_eq s)
def loose0 : List Str := ["_wall", "__name__", "NoProcess", "NotOpen", "NotASource", "BadCount", "BadLimit", "Full", "NoRoom", "SOURCE", "SET", "LEVEL", "is_integer", "is_between", "Source", "WaitSet", "LEAST_PROCESSES", "LEAST_NUMBERS", "MOST_COUNT", "look_count", "System", "picture_of", "_law_bag", "_law_take", "_law_of", "_law_object", "_law_is_from", "_law_refused", "_law_fills"]
def loose : List Str := loose0
theorem run (w : World) : HandSHeadRun.RunEq R (PySem.W.view R.prog [32]) hk obs 20000 loose w := by
  intro os
  kernel_rfl
/-! ### the end -/
theorem facts {w : World} {K : PySem.W.Frag} {mg : Str → Option Value} {fa : Addr} {h : Heap} (X : K.In h) (G : h.Ns mainGlobals mg) (hf : mg ("law" : Str) = some (.ref fa)) (c : SaysW fcL fwL tsL tfL w h K) : LawG PySem.Challenge.rw_waitnumbers_k23_limits_of_systems w K CX0 12 63 "_law_script" mg fa h := by
  have T := tx_of X G c
  have e : fa = gA "law" K := by
    have z := hf.symm.trans T.g_law
    cases z
    rfl
  subst e
  have b := FunD.bindsA (ps := ["_law_script"]) T.f_law fun _ _ _ _ _ _ us hl => match us, hl with | [_], _ => rfl
  exact ⟨_, [], sp_law K, fun p hp => (nomatch hp), fun p hp => (nomatch hp), fun p hp => (nomatch hp), fun s u => b s [u] rfl, fun H a ns hl _ hS => ⟨a, ns, rfl, hS, fun _ => rfl⟩, fun base _ _ _ => ok_law T⟩

end Wn

open PySem PySem.W PySem.Calls PyProof.Rows
theorem PySem.Challenge.cw_waitnumbers_k23_limits_of_systems_holds : PySem.Challenge.rw_waitnumbers_k23_limits_of_systems.Holds := by
  w_on; o_law
  refine HandSHeadRun.head_any (r := OpenLaw.row PySem.Challenge.rw_waitnumbers_k23_limits_of_systems) (q := view (OpenLaw.row PySem.Challenge.rw_waitnumbers_k23_limits_of_systems).prog [32]) (H := Wn.hk) (ob := Wn.obs) (M := 20000) (loose := Wn.loose) (d := HandSHeadRun.topDef (OpenLaw.row PySem.Challenge.rw_waitnumbers_k23_limits_of_systems).prog 32) (kwd := []) Wn.obs_eq
    (by kernel_rfl) (fun s => by kernel_rfl) Wn.run (by kernel_rfl) (by kernel_rfl) (by kernel_rfl) (by rfl) (by first | assumption | decide +kernel) (by decide +kernel) ⟨rfl, rfl, rfl, rfl, rfl, by decide +kernel⟩ ?hw ?hc
  case hw => w_witness2
  case hc =>
    refine Wn.walk_g (l := PySem.Challenge.rw_waitnumbers_k23_limits_of_systems) (n := 63) (k := 12) (x := "_law_script") (CX := fun _ => L2.CX0) rfl (by decide) (by kernel_rfl) ⟨rfl, by decide, by decide⟩ ?F (fun _ _ _ _ _ z => z)
    intro w mg fa h ⟨K, KX, c⟩ G hm
    have e : (HandSHeadRun.topDef (OpenLaw.row PySem.Challenge.rw_waitnumbers_k23_limits_of_systems).prog 32).name = ("law" : PySem.Str) := by kernel_rfl
    exact ⟨K, KX, Wn.facts KX G (by rw [← e]; exact hm) c⟩
