import PyProof.Rows.All
import Wide.All
import OpenK.AllK
import Wide.FinOn
import HandS.ForMost
import HandS.ForExc
import HandS.ExcInit
import HandS.ExcField
import HandS.ExcIs
import HandS.TryMany
import KE.KExcInit
import HandS.Defaults
import HandS.Lambda
import HandS.EndTab
import HandS.HeadWalk
import PyProof.ReprRoads
import PyProof.CallFns
import HandS.Property
import HandS.ClsMeth
import HandS.Head0
import HandS.Head1
import HandS.Head2
import HandS.HeadEnd
import HandS.HeadHook1
import HandS.HeadHook2
import HandS.HeadHook3
import HandS.HeadHook4
import HandS.IsInst
import KE.KExcIs
import HandS.Exc
import HandS.SortKw
import HandS.More
import KE.SortKeyHeap
import HandS.DictComp
import HandS.Walk
import HandS.CallSlots
import HandS.MakeKwOnly
import PyProof.ListRange
import HandS.WordsExc
import PyProof.InstSpecial
import HandS.Words
import HandS.Deep
import HandS.Flow
import HandS.SortInts
import HandS.Style
import HandS.Iter
import HandS.Dict
import HandS.SetFor
import HandS.TryOnly
import HandS.MakeKw
import HandS.NoneIn
import HandS.Conv
import PySem.Challenge.RW_waitnumbers_k07_keys_of_registrations
set_option Elab.async false
set_option linter.all false
set_option maxRecDepth 100000
set_option maxHeartbeats 0
/-! the defs of the law that make lambdas -/
namespace Wn
open PySem
def lamL : List Str := ["_law_done"]
/-- how many registrations a set may have -/
abbrev mostE : Nat := 1000000
end Wn
/-! errors of one's own over any built-in base, with fields that __init__ stores -/
namespace Wn
open PySem PySem.Spec PyProof.Rows L2
open Builtin Builtin.ObjectAttr

/-- what the written part says of an own error class over the built-in B -/
structure XC (K : PySem.W.Frag) (C : Addr) (B nw it : String) (bm : List Value) : Prop where
  bf : ExcBaseFacts B nw it bm
  sf : StoreFacts B bm "object.__setattr__" "object"
  ini : PySem.W.excInitIn K C bm nw = true
  ovr : PySem.W.excOver K C bm = true
  hdi : PySem.W.hasDictIn K C = true
  sa : PySem.W.findIn K (.ref C) "__setattr__" = some (some (.builtin "object.__setattr__"))
  exC : PySem.W.subIn K (.ref C) (.type "BaseException") = some true
  tyC : PySem.W.typeIn K (.ref C) = some (.type "type")
  kC : PySem.W.keepIn K (.ref C) = true

theorem taker0 {K : PySem.W.Frag} {C : Addr} {f : Str} (h : PySem.W.findIn K (.ref C) f = some none) : PySem.W.takerIn K C f = some none := by
  unfold PySem.W.takerIn
  rw [h]
  rfl
theorem hasD {K : PySem.W.Frag} {C : Addr} (h : PySem.W.hasDictIn K C = true) : ∃ cd, PySem.W.clsIn K C = some cd ∧ cd.hasDict = true := by
  unfold PySem.W.hasDictIn at h
  cases e : PySem.W.clsIn K C with
  | none =>
    rw [e] at h
    cases h
  | some cd =>
    rw [e] at h
    exact ⟨cd, rfl, h⟩

section
variable {prog : Program} {w : World} {A : Around} {R : Result → Shared → Prop} {hp : Heap} {g : Array GenState} {d : Drawn} {t : Nat} {os : OsState}
variable {K : PySem.W.Frag} {name : Str} {tk : Tok} {v : Value} {x C dx : Addr} {fv : Array Value} {B nw it : String} {bm : List Value}
/-- the first field: the dict is laid -/
theorem osa_first (T : XC K C B nw it bm) (X : K.In hp) (hx : hp.get? x = some { cls := .ref C, data := .fields fv }) (ha : PySem.W.findIn K (.ref C) name = some none)
    (hq : ∀ h' tk' dx, (∀ b o, b ≠ x → hp.get? b = some o → h'.get? b = some o) → hp.objs.size ≤ dx → dx ≠ x →
      h'.get? x = some { cls := .ref C, dict := some dx, data := .fields fv } → h'.Ns1 dx (fun y => if y = name then some v else none) →
      R (.ok (.ret .none)) ⟨h', g, d, tk', os⟩) :
    codeAny (model prog w) A (.call (.builtin "object.__setattr__") ⟨[.ref x, .str name tk, v], []⟩) R ⟨hp, g, d, t, os⟩ := by
  obtain ⟨cd, hcd, hh⟩ := hasD T.hdi
  have hcls : PySem.W.Looks (model prog w) hp (classData C) cd := PySem.W.looks_clsIn X hcd
  have hxs : x ≠ hp.objs.size := Nat.ne_of_lt (Heap.lt_size hx)
  refine PySem.W.osa_openX T.sf X (ox := { cls := .ref C, data := .fields fv }) (od := none) ⟨hx, rfl, rfl, trivial⟩ T.ovr (taker0 ha) fun b => ?_
  show wpAny _ _ (storeInOwnDict (.ref x) (.ref C) (.str name tk) name v b) _ _ _
  obtain ⟨nm, bs, mro, ns, qn, hd, sn, sb, ab, col, de⟩ := cd
  dsimp only at hh
  subst hh
  unfold storeInOwnDict ownDictForStores
  repeat (first | with_reducible refine PySem.HandSPX.store_in_new ?_ ?_ | with_reducible refine wpAny_loadPart_at hx ?_ | with_reducible refine hcls.at ?_ | wp_step)
  · exact ⟨_, #[], _, (Heap.get?_update_ne _ _ _ _ hxs.symm).trans (Heap.get?_push_at rfl rfl), rfl, fun e he => absurd he (by simp), fun _ => rfl⟩
  · intro h' tk' hn' hs
    have hx1 : (hp.push { cls := .type "dict", data := .dict #[] }).get? x = some { cls := .ref C, data := .fields fv } := Heap.get?_push_of_some _ hx
    refine hq h' tk' hp.objs.size (fun b o hb ho => ?_) (Nat.le_refl _) hxs.symm ?_ hn'
    · exact (hs.2 b (Nat.ne_of_lt (Heap.lt_size ho))).trans ((Heap.get?_update_ne _ _ _ _ hb).trans (Heap.get?_push_of_some _ ho))
    · exact (hs.2 x hxs).trans (Heap.get?_update_self _ hx1 rfl)
/-- a further field -/
theorem osa_more {m0 : Str → Option Value} {nl : List Str} (T : XC K C B nw it bm) (X : K.In hp) (hx : hp.get? x = some { cls := .ref C, dict := some dx, data := .fields fv }) (hns : hp.Ns1 dx m0) (hw : Within m0 nl) (hz : nl.length ≤ 1000)
    (ha : PySem.W.findIn K (.ref C) name = some none)
    (hq : ∀ h' tk', (∀ b o, b ≠ dx → hp.get? b = some o → h'.get? b = some o) → h'.Ns1 dx (fun y => if y = name then some v else m0 y) → R (.ok (.ret .none)) ⟨h', g, d, tk', os⟩) :
    codeAny (model prog w) A (.call (.builtin "object.__setattr__") ⟨[.ref x, .str name tk, v], []⟩) R ⟨hp, g, d, t, os⟩ := by
  obtain ⟨cd, hcd, hh⟩ := hasD T.hdi
  obtain ⟨oD, _, _, hoD, _, _⟩ := hns.count hw
  have hcls : PySem.W.Looks (model prog w) hp (classData C) cd := PySem.W.looks_clsIn X hcd
  refine PySem.W.osa_openX T.sf X (ox := { cls := .ref C, dict := some dx, data := .fields fv }) (od := some oD) ⟨hx, rfl, rfl, hoD⟩ T.ovr (taker0 ha) fun b => ?_
  show wpAny _ _ (storeInOwnDict (.ref x) (.ref C) (.str name tk) name v b) _ _ _
  obtain ⟨nm, bs, mro, ns, qn, hd, sn, sb, ab, col, de⟩ := cd
  dsimp only at hh
  subst hh
  unfold storeInOwnDict ownDictForStores
  repeat (first | with_reducible refine PySem.OEX.store_in_old hns hw hz ?_ | with_reducible refine wpAny_loadPart_at hx ?_ | with_reducible refine hcls.at ?_ | wp_step)
  intro h' tk' hn' hs
  exact hq h' tk' (fun b o hb ho => (hs.2 b hb).trans ho) hn'
end

section
variable {X : Cx} {pins : List (Addr × Obj)} {σ : L2.St} {H : Hp} {s : Shared} {a C dx : Addr} {f : Str} {y : V} {u : Value} {fs : List (Str × V)} {Q : Unit → Shared → Prop} {E : Value → Shared → Prop} {A : Around} {B nw it : String} {bm : List Value}
/-- self.f = y in __init__, the first one -/
theorem xs_first (T : XC X.K C B nw it bm) (I : Inv X pins σ H s) (e : H a = some (exo a C none)) (hno : PySem.W.findIn X.K (.ref C) f = some none) (ry : RelV y u)
    (h : ∀ dx s', H dx = none → dx ≠ a → Inv X pins σ (upd (upd H dx (exd dx [(f, y)])) a (exo a C (some dx))) s' → Q () s') : wpAny (model X.prog X.w) A (setAttr (.ref a) f u) Q E s := by
  obtain ⟨t1, ho⟩ := exo_at I.hok e
  obtain ⟨hp, g, d, t, os⟩ := s
  refine PySem.W.set_plain I.kIn (ox := { cls := .ref C, dict := none, data := .fields #[.ref t1, .none, .none, .none, .bool false, .none] }) (od := none) ⟨ho, rfl, rfl, trivial⟩ T.sa ?_
  refine osa_first T I.kIn ho hno (fun h' tk' dx k dn dne hx hn => ?_)
  have hnd : H dx = none := I.hok.fresh dn
  have nd : ∀ {b : Addr} {o : Obj}, hp.get? b = some o → b ≠ dx := fun {b o} q => Nat.ne_of_lt (Nat.lt_of_lt_of_le (Heap.lt_size q) dn)
  have na : ∀ {b : Addr}, H b = none → b ≠ a := fun {b} n z => by rw [z, e] at n; cases n
  have kt : ∀ {b : Addr} {o : HO}, H b = some o → (∀ z, o ≠ exo a C z) → upd (upd H dx (exd dx [(f, y)])) a (exo a C (some dx)) b = some o := fun {b o} q ne => by
    have hb : b ≠ a := fun z => by rw [z, e] at q; exact ne _ (Option.some.inj q).symm
    rw [upd_ne hb, upd_ne (ne_of_none q hnd)]
    exact q
  have U : Un X.fs [] H (upd (upd H dx (exd dx [(f, y)])) a (exo a C (some dx))) hp h' := ⟨fun b o q n _ _ => k b o (na n) q, fun b o q n _ _ => ⟨o.slots, k b o (na n) q⟩,
    fun b o q n _ => by rw [upd_ne (na n), upd_ne (nd q)]; exact n,
    fun b o q _ => by
      by_cases hb : b = a
      · exact ⟨_, by rw [hb]; exact hx⟩
      · exact ⟨o, k b o hb q⟩,
    fun b xs q => kt q fun z => (exo_tup (e := a) (C := C) (d := z)).symm, fun b o v q => kt q fun z => (exo_frz (e := a) (C := C) (d := z)).symm,
    fun b ps q => ⟨#[], by rw [kt q fun z => (exo_tbl (e := a) (C := C) (d := z)).symm]; simp⟩⟩
  refine h dx _ hnd dne (I.un (t' := tk') U fun b o q => ?_)
  by_cases hb : b = a
  · subst hb
    rw [upd_same] at q
    cases q
    exact exo_ok hx
  · rw [upd_ne hb] at q
    by_cases hd : b = dx
    · subst hd
      rw [upd_same] at q
      cases q
      exact exd_ok hn (relO_put (fs := []) ry fun g => True.intro)
    · rw [upd_ne hd] at q
      refine (I.hok b o q).stay (fun c v hc z => k c v ?_ z) (fun c hc => kt hc fun z => (exo_own (e := a) (C := C) (d := z)).symm) (fun c xs hc => kt hc fun z => (exo_tup (e := a) (C := C) (d := z)).symm)
      rcases hc with hc | hc
      · rw [hc]
        exact hb
      · exact at_ne e hc exo_own
/-- self.f = y in __init__, a further one -/
theorem xs_more (T : XC X.K C B nw it bm) (I : Inv X pins σ H s) (e : H a = some (exo a C (some dx))) (ed : H dx = some (exd dx fs)) (hl : fs.length ≤ 900) (hno : PySem.W.findIn X.K (.ref C) f = some none) (ry : RelV y u)
    (h : ∀ s', Inv X pins σ (upd H dx (exd dx ((f, y) :: fs))) s' → Q () s') : wpAny (model X.prog X.w) A (setAttr (.ref a) f u) Q E s := by
  obtain ⟨t1, ho⟩ := exo_at I.hok e
  obtain ⟨mA, hns, rel⟩ := exd_at I.hok ed
  have hw := within_of rel
  obtain ⟨hp, g, d, t, os⟩ := s
  obtain ⟨oD, _, _, hoD, _, _⟩ := hns.count hw
  refine PySem.W.set_plain I.kIn (ox := { cls := .ref C, dict := some dx, data := .fields #[.ref t1, .none, .none, .none, .bool false, .none] }) (od := some oD) ⟨ho, rfl, rfl, hoD⟩ T.sa ?_
  refine osa_more T I.kIn ho hns hw (by rw [List.length_map]; omega) hno (fun h' tk' k hn => ?_)
  obtain ⟨oN, _, _, eN, _⟩ := id hn
  exact h _ (I.write (t' := tk') (x := dx) (e := dx) (o := exd dx ((f, y) :: fs)) (by rw [ed]; exact True.intro) (.inl rfl) k ⟨oN, eN⟩ (exd_ok hn (relO_put ry rel)))
end

/-- self.f = e of an error that is being made -/
def tXs (K : PySem.W.Frag) (f : Str) (to te : TE) : TS := fun D σ H => te σ H fun y H1 => to σ H1 fun x H2 => ∃ (a C : Addr) (B nw it : String) (bm : List Value), x = .ref a ∧ XC K C B nw it bm ∧ PySem.W.findIn K (.ref C) f = some none ∧
  ((H2 a = some (exo a C none) ∧ ∀ dx, H2 dx = none → dx ≠ a → D.nx σ (upd (upd H2 dx (exd dx [(f, y)])) a (exo a C (some dx)))) ∨
    ∃ (dx : Addr) (fs : List (Str × V)), H2 a = some (exo a C (some dx)) ∧ H2 dx = some (exd dx fs) ∧ fs.length ≤ 900 ∧ D.nx σ (upd H2 dx (exd dx ((f, y) :: fs))))
section
variable {X : Cx} {o e : Expr} {es : List Expr} {to te : TE} {ta : TA} {f : Str} {p p' p1 p2 pos : Pos}
theorem ps_xs (ho : PE X o to) (he : PE X e te) (hs : swapsWith e (some (.Attribute o f p')) pos.line X.env = pure false := by rfl) : PS X (.Assign [.Attribute o f p'] e pos) (tXs X.K f to te) := by
  refine ⟨fun pins s σ H D I h => ?_⟩
  refine plainObj_wpAny_Assign_Attribute (thn (he.run pins s σ H _ I h) fun v s1 ⟨y, H1, I1, r1, q1⟩ => thn (ho.run pins s1 σ H1 _ I1 q1) fun u s2 ⟨x, H2, I2, r2, a, C, B, nw, it, bm, ex, T, hno, q⟩ => ?_) hs
  subst ex
  obtain rfl : u = Value.ref a := r2
  rcases q with ⟨ea, q⟩ | ⟨dx, fs, ea, ed, hl, q⟩
  · exact xs_first T I2 ea hno r1 fun dx s' n ne J => ⟨σ, _, J, q dx n ne⟩
  · exact xs_more T I2 ea ed hl hno r1 fun s' J => ⟨σ, _, J, q⟩
variable {CX : CXT} {x : Str} {C fI : Addr} {k : Nat} {fd : FuncData} {ps : List Str} {sp : Sp} {B nw it : String} {bm : List Value}
theorem xm_run (T : XC X.K C B nw it bm) (iC : PySem.W.findIn X.K (.ref C) "__init__" = some (some (.ref fI))) (tI : PySem.W.typeIn X.K (.ref fI) = some (.type "function"))
    (F1 : FnOk X.prog X.w X.K X.mg X.base CX k fI fd ps sp) (hr : Room (k + 1) X.A) (hb : Binds X.K fd ps []) (hx : Passes CX X (fun _ _ _ => False)) {pins : List (Addr × Obj)} {σ : L2.St} {H1 : Hp} {s1 : Shared} {us : List Value} {vs : List V} {Q : XK}
    (I1 : Inv X pins σ H1 s1) (r1 : Vals vs us) (hz : vs.length ≤ 1000)
    (q1 : ∀ a, H1 a = none → sp (.ref a :: vs) (upd H1 a (exo a C none)) (fun v H2 => v = .non ∧ ∃ (d : Addr) (fs : List (Str × V)), H2 a = some (exo a C (some d)) ∧ H2 d = some (exd d fs) ∧ H1 d = none ∧ Q (.ref C) (some d) (upd (del H2 a) d (.xd fs))) (fun _ _ _ => False)) :
    wpAny (model X.prog X.w) X.A (call (.ref C) us) (MkP X pins σ Q) X.xe s1 := by
  obtain ⟨hp, g, dr, tk, os⟩ := s1
  obtain ⟨nm, N, q, bs, bl, hdct, sn, sub, ab, col, dd, k0, k1, k2, k3, k5, hC, hT⟩ := PySem.W.excInit_of I1.kIn T.ini
  have hsz : hp.objs.size ≤ hp.objs.size + 1 := Nat.le_succ _
  have hn : H1 (hp.objs.size + 1) = none := I1.hok.fresh hsz
  have hq := q1 (hp.objs.size + 1) hn
  have kk : ∀ b o, hp.get? b = some o → ((hp.push (PySem.W.kdv_tup us)).push (PySem.HandSPX.excO C hp.objs.size)).get? b = some o := fun b o e => Heap.get?_push_of_some _ (Heap.get?_push_of_some _ e)
  have hget : ((hp.push (PySem.W.kdv_tup us)).push (PySem.HandSPX.excO C hp.objs.size)).get? (hp.objs.size + 1) = some (PySem.HandSPX.excO C hp.objs.size) := by heap_get
  have I2 := I1.laid (t' := tk) (a := hp.objs.size + 1) (o := exo (hp.objs.size + 1) C none) kk hsz (exo_ok hget)
  have r2 : Vals (V.ref (hp.objs.size + 1) :: vs) (Value.ref (hp.objs.size + 1) :: us) := .cons rfl r1
  have hl : (Value.ref (hp.objs.size + 1) :: us).length = ps.length := by
    have e := r2.length
    rw [F1.len _ _ _ _ hq] at e
    exact e.symm
  have hus : us.length ≤ sizeLine := by
    rw [← Paired.length r1, sizeLine_eq]
    omega
  have bnd := hb ⟨(hp.push (PySem.W.kdv_tup us)).push (PySem.HandSPX.excO C hp.objs.size), g, dr, tk, os⟩ (Value.ref (hp.objs.size + 1) :: us) I2.kIn (by rw [List.append_nil]; exact hl)
  rw [List.append_nil] at bnd
  refine wpAny_call (PySem.HandSPX.call_own T.bf hT hC (PySem.W.looks_findIn I1.kIn iC) (fun self => PySem.W.bind_fn I1.kIn self tI) hus
    (codeAny_mono (F1.run _ X.stack _ _ ⟨Value.ref (hp.objs.size + 1) :: us, []⟩ _ _ _ (fun _ _ _ => False) (hr.make C us []) (I2.env0.make C us []) bnd r2 hq) fun r s' hq' => ?_))
  cases r with
  | error er => exact hx pins σ _ _ er s' I2 hq'
  | ok fl =>
    cases fl with
    | ret u =>
      obtain ⟨v, H2, os2, bare2, un2, hok2, rv, ev, d, fs, ea, ed, hd1, q2⟩ := hq'
      subst ev
      obtain ⟨h2, g2, d2, t2, os'⟩ := s'
      exact ⟨rv, mk_end (raises_own T.exC T.tyC) I1 hsz kk un2 hok2 os2 bare2 ea ed hd1 q2⟩
    | next => exact False.elim hq'
    | brk => exact False.elim hq'
    | cont => exact False.elim hq'
end
end Wn
/-! repr of data, defs that are called where no repr runs, the law's end for such a def -/
namespace Wn
open PySem PySem.Spec PyProof.Rows L2 LamX

/-! ### repr -/
def rRepr (K : PySem.W.Frag) : List V → Hp → VK → Prop := fun xs H Q => ∃ (x : V) (d : PyData), xs = [x] ∧ Dp K H x d ∧ d.showable = true ∧ d.hasDict = false ∧ d.depth ≤ 100 ∧ d.shown.length ≤ sizeLine ∧ Q (.str d.shown) H
theorem call_repr {X : Cx} (hg : X.A.guards = some []) (hu : X.A.units + 200 < cLine) : CallR X (.builtin "repr") (rRepr X.K) := by
  intro pins s σ H xs us Q I r h
  obtain ⟨x, d, rfl, hd, hs, hh, hdep, hz, q⟩ := h
  obtain ⟨u, rfl, ru⟩ := vals1 r
  obtain ⟨as, hr⟩ := Dp.reads I d x u hd ru
  cases hd with
  | non =>
    cases ru
    exact PySem.P.repr_of_none ⟨.str _, H, I.tok _, ⟨_, rfl⟩, q⟩
  | bl b =>
    cases ru
    have q' : Q (.str (if b then "True" else "False")) H := by cases b <;> exact q
    exact PySem.P.repr_of_bool ⟨.str _, H, I.tok _, ⟨_, rfl⟩, q'⟩
  | int i =>
    obtain ⟨t, rfl⟩ := ru
    exact PySem.P.repr_of_int (of_decide_eq_true hs) ⟨.str _, H, I.tok _, ⟨_, rfl⟩, q⟩
  | str z =>
    obtain ⟨t, rfl⟩ := ru
    exact PySem.P.repr_of_str ⟨.str _, H, I.tok _, ⟨_, rfl⟩, q⟩ hz
  | lst _ _ =>
    cases ru
    exact repr_of_reads' hr hs (PyData.noDict_hsm hh) hg (by omega) (fun _ _ e => e) (fun h' v tk k => ⟨.str _, H, I.kept k, ⟨_, rfl⟩, q⟩) hz
  | tup _ _ =>
    cases ru
    exact repr_of_reads' hr hs (PyData.noDict_hsm hh) hg (by omega) (fun _ _ e => e) (fun h' v tk k => ⟨.str _, H, I.kept k, ⟨_, rfl⟩, q⟩) hz

/-! ### a def that is called where no repr runs -/
structure FnG (P : Program) (w : World) (K : PySem.W.Frag) (mg : Str → Option Value) (base : Heap) (CX : CXT) (k : Nat) (f : Addr) (fd : FuncData) (ps : List Str) (sp : Sp) : Prop where
  len : ∀ vs H Q E, sp vs H Q E → vs.length = ps.length
  run : ∀ (A : Around) (outer : List Env) (s : Shared) (H : Hp) (args : Args) (us : List Value) (vs : List V) (Q : VK) (E : XK), A.guards = some [] → Room k A → Env0 P w K mg base A outer s H →
    BindsTo s fd args (ps.zip us) → Vals vs us → sp vs H Q E → codeAny (model P w) A (.call (.ref f) args) (CR CX outer P w H s Q E) s
theorem FnG.of {P : Program} {w : World} {K : PySem.W.Frag} {mg : Str → Option Value} {base : Heap} {CX : CXT} {k : Nat} {f : Addr} {fd : FuncData} {ps : List Str} {sp : Sp} (F : FnOk P w K mg base CX k f fd ps sp) : FnG P w K mg base CX k f fd ps sp :=
  ⟨F.len, fun A outer s H args us vs Q E _ => F.run A outer s H args us vs Q E⟩
section
variable {P : Program} {w : World} {K : PySem.W.Frag} {mg : Str → Option Value} {base : Heap} {x qual : Str} {params : Arguments} {body : List Stmt} {scope : Scope} {dvs : List V} {kws : List (Str × V)} {f : Addr} {fd : FuncData}
theorem okG {CX : CXT} {N ps : List Str} {k : Nat} {sp : Sp} (F : FunD K x qual params body scope dvs kws f fd) (S : FnScope N ps scope) (len : ∀ vs H Q E, sp vs H Q E → vs.length = ps.length)
    (hbody : ∀ (cdv : Value) (A : Around) (outer : List Env) (s : Shared) (H : Hp) (vs : List V) (Q : VK) (E : XK), A.guards = some [] → Room k (A.deeper (envOfC qual scope s.heap.objs.size f cdv)) → sp vs H Q E →
      ∃ t, PSs (cxOf CX P w K mg base N qual scope f cdv A outer s H E) body t ∧ t { nx := fun _ H' => Q .non H', rt := Q } (L2.start N vs) H) : FnG P w K mg base CX (k + 1) f fd ps sp := by
  obtain ⟨oc, od, dV, kV, doc, pm, an, cdv, ct, osl, rfl, lk, hcd, _, _⟩ := F.ex
  refine ⟨len, fun A outer s H args us vs Q E hg hr e0 hb r hsp => ?_⟩
  exact run_ofS lk hcd S hr e0 hb r (len _ _ _ _ hsp) fun hr' => hbody cdv A outer s H vs Q E hg hr' hsp
end
section
variable {X : Cx} {CX : CXT} {k : Nat} {f C : Addr} {fd : FuncData} {ps : List Str} {sp : Sp} {dvs : List V} {ds : List Value} {E : XK} {x m : Str} {p pos apos : Pos} {e o : Expr} {es : List Expr} {ta : TE} {t : TA}
theorem run_g {pins : List (Addr × Obj)} {σ : L2.St} {H : Hp} {s : Shared} {Q : VK} {us : List Value} {vs : List V} (F : FnG X.prog X.w X.K X.mg X.base CX k f fd ps sp) (hgd : X.A.guards = some []) (hr : Room k X.A) (hb : Binds X.K fd ps ds) (hd : Vals dvs ds) (hx : Passes CX X E)
    (I : Inv X pins σ H s) (r : Vals vs us) (h : sp (vs ++ dvs) H Q E) : wpAny (model X.prog X.w) X.A (call (.ref f) us) (EP X pins σ Q) X.xe s := by
  have r2 : Vals (vs ++ dvs) (us ++ ds) := r.append hd
  have hl : (us ++ ds).length = ps.length := r2.length.symm.trans (F.len _ _ _ _ h)
  refine wpAny_call (codeAny_mono (F.run X.A X.stack s H ⟨us, []⟩ _ _ Q E hgd hr I.env0 (hb s us I.kIn hl) r2 h) fun r s' hq => ?_)
  cases r with
  | error z => exact hx pins σ H s z s' I hq
  | ok fl =>
    cases fl with
    | ret u => exact I.after hq
    | next => exact False.elim hq
    | brk => exact False.elim hq
    | cont => exact False.elim hq
/-- f(e, ..) of such a def -/
theorem pe_callG (F : FnG X.prog X.w X.K X.mg X.base CX k f fd ps sp) (hgd : X.A.guards = some []) (hr : Room k X.A) (hg : Gl X x) (hm : X.mg x = some (.ref f)) (hk : PySem.W.keepIn X.K (.ref f) = true) (hb : Binds X.K fd ps ds) (hd : Vals dvs ds) (hx : Passes CX X E)
    (ha : PA X (e :: es) t) (hdb : (x == ("__debug__" : Str)) = false := by decide) (he : starEach (e :: es) X.env = (false, eval e X.env) :: starEach es X.env := by rfl) (hpl : (backTo pos (starEach es X.env)).any (·.1) = false := by rfl) :
    PE X (.Call (.Name x p) (e :: es) [] pos) (tCall sp dvs E t) := by
  refine ⟨fun pins s σ H Q I h => wpAny_Call_Name_kw (ld_glob I hg hm ?_ hdb)⟩
  exact PySem.W.callWith_K (h₀ := X.base) I.ok.mod.kin hk (thn (ha.run pos pins s σ H _ I h) fun us s1 ⟨vs, H1, I1, r, q⟩ => ⟨I1.kIn, run_g F hgd hr hb hd hx I1 r q⟩) he hpl
end

/-! ### the law's end -/
section
variable {P : Program} {w : World} {K : PySem.W.Frag} {mg mb : Str → Option Value} {CX : CXT} {k : Nat} {fa a : Addr} {cs : List (Addr × Addr)} {fd : FuncData} {x : Str} {sp : Sp} {s1 : Shared} {vs : List Value} {ns : List Int}
/-- what is tracked at the law's entry: the tables, the script -/
def Ent (cs : List (Addr × Addr)) (a : Addr) (o : Obj) (ns : List Int) (H : Hp) : Prop :=
  ∀ b u, H b = some u → (b ∈ cs.map (·.2) ∧ u = .tbl #[]) ∨ (b = a ∧ u = .frz o (.lst (ns.map V.int)))
theorem law_core {H : Hp} (KX : K.In s1.heap) (hns : s1.heap.Ns mainGlobals mg) (hb : s1.heap.Ns builtinsNs mb) (hbb : ∀ x : Str, x ≠ "__name__" → mb x = bootBuiltins x) (hlim : s1.heap.NoLimit) (hg : s1.gens = #[])
    (hT : ∀ p ∈ cs, s1.heap.get? p.2 = some { cls := .none, data := .fields #[] }) (nT : ∀ p ∈ cs, K.lookup p.2 = none) (C : ∀ p ∈ cs, PySem.W.CodeHd s1.heap p.1 p.2)
    (hbm : ∃ (bm : Addr) (ob : Obj), mg "__builtins__" = some (.ref bm) ∧ bm ≠ builtinsNs ∧ s1.heap.get? bm = some ob ∧ ob.cls = .type "module" ∧ ob.dict = some builtinsNs ∧ ob.data = .plain)
    (ha : s1.heap.get? a = some { cls := .type "list", data := .seq vs.toArray }) (rv : Vals (ns.map V.int) vs) (hl : ns.length ≤ sizeLine) (hr : Room k callerA)
    (F : ∀ base : Heap, K.In base → base.Ns mainGlobals mg → (∀ p ∈ cs, TabB base mg p.1 p.2) → FnG P w K mg base CX k fa fd [x] sp) (hbind : ∀ (s : Shared) (u : Value), BindsTo s fd ⟨[u], []⟩ [(x, u)])
    (hH : ∀ p ∈ cs, H p.2 = some (.tbl #[])) (ent : Ent cs a { cls := .type "list", data := .seq vs.toArray } ns H) (hKa : H a ≠ none → K.lookup a = none)
    (hsp : sp [.ref a] H (fun v _ => v = .bl true) fun _ _ _ => False) (hCX : ∀ H e s', CX [] H s1 (fun _ _ _ => False) e s' → False) :
    codeAny (model P w) callerA (.call (.ref fa) ⟨[.ref a], []⟩) (fun r s' => r = .ok (.ret (.bool true)) ∧ OldK s1.heap s'.heap ∧ s'.os = s1.os ∧ AllBare s'.gens) s1 := by
  have tabAt : ∀ {b : Addr}, b ∈ cs.map (·.2) → s1.heap.get? b = some { cls := .none, data := .fields #[] } := fun {b} m => by
    obtain ⟨p, hp, rfl⟩ := List.mem_map.mp m
    exact hT p hp
  have hok : HOk P w H s1.heap := fun b u e => by
    rcases ent b u e with ⟨m, rfl⟩ | ⟨rfl, rfl⟩
    · exact tabAt m
    · exact ⟨ha, by rw [List.length_map]; exact hl, vs, _, rv, ha⟩
  -- what is neither a list nor an empty table is not tracked
  have unt : ∀ {b : Addr} {o : Obj}, s1.heap.get? b = some o → o.data ≠ .seq vs.toArray → o.data ≠ .fields #[] → H b = none := fun {b o} e n1 n2 => by
    cases q : H b with
    | none => rfl
    | some u =>
      rcases ent b u q with ⟨m, _⟩ | ⟨z, _⟩
      · rw [tabAt m] at e
        cases e
        exact (n2 rfl).elim
      · rw [z, ha] at e
        cases e
        exact (n1 rfl).elim
  have bs : ∀ {b : Addr} {o : Obj}, s1.heap.get? b = some o → o.data ≠ .seq vs.toArray → o.data ≠ .fields #[] → (hidT s1.heap H).get? b = some o := fun e n1 n2 => hidT_get e (unt e n1 n2)
  have nsB : ∀ {b : Addr} {m : Str → Option Value}, s1.heap.Ns b m → (hidT s1.heap H).Ns b m := fun {b m} ⟨o, es, ep, e, d, r⟩ => ⟨o, es, ep, bs e (by rw [d]; exact fun z => nomatch z) (by rw [d]; exact fun z => nomatch z), d, r⟩
  have hKb : K.In (hidT s1.heap H) := fun b o e => hidT_get (KX b o e) (by
    cases q : H b with
    | none => rfl
    | some u =>
      rcases ent b u q with ⟨m, _⟩ | ⟨z, _⟩
      · obtain ⟨p, hp, rfl⟩ := List.mem_map.mp m
        rw [nT p hp] at e
        cases e
      · subst z
        rw [hKa (by rw [q]; exact fun z => nomatch z)] at e
        cases e)
  have hM : L2.Mod K mg (hidT s1.heap H) := ⟨hKb, nsB hns, ⟨mb, nsB hb, hbb⟩, let ⟨mc, h1, h2⟩ := hlim; ⟨mc, nsB h1, h2⟩⟩
  have TB : ∀ p ∈ cs, TabB (hidT s1.heap H) mg p.1 p.2 := fun p hp => by
    refine ⟨?_, ?_, fun z => ?_⟩
    · obtain ⟨o, us, file, tf, flags, tg, inF, text, tt, e1, r1, r2, r3, rest⟩ := C p hp
      refine ⟨o, us, file, tf, flags, tg, inF, text, tt, bs e1 (by rw [r2]; exact fun z => nomatch z) (fun z => ?_), r1, r2, r3, rest⟩
      rw [r2] at z
      cases z
      simp at r3
    · obtain ⟨bm, ob, b1, b2, b3, b4, b5, b6⟩ := hbm
      refine ⟨bm, ob, b1, b2, fun q => ?_, fun q => ?_, bs b3 (by rw [b6]; exact fun z => nomatch z) (by rw [b6]; exact fun z => nomatch z), b4, b5, b6⟩
      · obtain ⟨o, es, ep, e, hd, _⟩ := hns
        rw [q, e] at b3
        cases b3
        rw [hd] at b6
        cases b6
      · rw [q, hT p hp] at b3
        cases b3
        cases b6
    · obtain ⟨o, es, ep, e, hd, _⟩ := hns
      rw [z, hT p hp] at e
      cases e
      cases hd
  have e0 : Env0 P w K mg (hidT s1.heap H) callerA [] s1 H := ⟨rfl, hM, fun b o e => of_hidT e, Nat.le_of_eq (hidT_size _ _), trivial, (fun b hb => absurd (show b ∈ ([] : List Addr) from hb) List.not_mem_nil), hok, .of_eq hg⟩
  refine codeAny_mono ((F _ hKb (nsB hns) TB).run callerA [] s1 H ⟨[.ref a], []⟩ [.ref a] [.ref a] _ _ rfl hr e0 (hbind s1 (.ref a)) (.cons rfl .nil) hsp) fun r s' h => ?_
  cases r with
  | error z => exact (hCX H z s' h).elim
  | ok fl =>
   cases fl with
   | next => exact False.elim h
   | brk => exact False.elim h
   | cont => exact False.elim h
   | ret u =>
    obtain ⟨v, H', os, bare, un, hok', r', q⟩ := h
    obtain rfl : v = .bl true := q
    obtain rfl : u = Value.bool true := r'
    have kept : ∀ b o, b ∉ cs.map (·.2) → s1.heap.get? b = some o → s'.heap.get? b = some o := fun b o nb e => by
      cases q : H b with
      | none => exact un.keep b o e q (fun z => absurd (show b ∈ ([] : List Addr) from z) List.not_mem_nil) List.not_mem_nil
      | some u =>
        rcases ent b u q with ⟨m, _⟩ | ⟨z, zu⟩
        · exact absurd m nb
        · subst zu
          have e1 := (hok b _ q).1
          have e2 := (hok' b _ (un.frzs b _ _ q)).1
          rw [e] at e1
          rw [e1]
          exact e2
    have tabN : ∀ b, b ∈ cs.map (·.2) → ∃ more : Array Value, s'.heap.get? b = some { cls := .none, data := .fields more } := fun b m => by
      obtain ⟨p, hp, rfl⟩ := List.mem_map.mp m
      obtain ⟨more, z⟩ := un.tbls p.2 #[] (hH p hp)
      exact ⟨_, hok' p.2 _ z⟩
    refine ⟨rfl, ⟨fun b o e => ?_, fun b o e => ?_⟩, os, bare⟩
    · by_cases m : b ∈ cs.map (·.2)
      · obtain ⟨more, hm⟩ := tabN b m
        obtain ⟨p, hp, rfl⟩ := List.mem_map.mp m
        rw [hT p hp] at e
        cases e
        exact .inr (.inl ⟨((C p hp).tab (hT p hp)).isCodeTable, rfl, #[], more, rfl, by rw [Array.empty_append]; exact hm⟩)
      · exact .inl (kept b o m e)
    · by_cases m : b ∈ cs.map (·.2)
      · obtain ⟨more, hm⟩ := tabN b m
        exact ⟨_, hm⟩
      · exact ⟨o, kept b o m e⟩
end
/-- what the law's def must keep, for the end below -/
def LawG (l : PySem.W.OpenLaw) (w : World) (K : PySem.W.Frag) (CX : CXT) (k n : Nat) (x : Str) (mg : Str → Option Value) (fa : Addr) (h : Heap) : Prop :=
  ∃ (fd : FuncData) (cs : List (Addr × Addr)) (sp : Sp), (∀ p ∈ cs, h.get? p.2 = some { cls := .none, data := .fields #[] }) ∧ (∀ p ∈ cs, K.lookup p.2 = none) ∧ (∀ p ∈ cs, PySem.W.CodeHd h p.1 p.2) ∧
    (∀ (s : Shared) (u : Value), BindsTo s fd ⟨[u], []⟩ [(x, u)]) ∧
    (∀ (H : Hp) (a : Addr) (ns : List Int), ns.length ≤ n → (∀ p ∈ cs, H p.2 = some (.tbl #[])) → SqL K H a (ns.map V.int) → sp [.ref a] H (fun v _ => v = .bl true) fun _ _ _ => False) ∧
    ∀ base : Heap, K.In base → base.Ns mainGlobals mg → (∀ p ∈ cs, TabB base mg p.1 p.2) → FnG l.prog w K mg base CX k fa fd [x] sp
theorem walk_g {l : PySem.W.OpenLaw} {n k : Nat} {q : Program} {loose : List Str} {XP : (Str → Option Value) → Heap → Prop} {YP : World → Heap → Prop} {d : DefRec} {CX : World → CXT} {x : Str}
    (hn : l.most = some n) (hn2 : n ≤ sizeLine) (hdf : d.params.defaults = []) (hr : Room k callerA)
    (F : ∀ (w : World) (mg : Str → Option Value) (fa : Addr) (h : Heap), YP w h → h.Ns mainGlobals mg → mg d.name = some (.ref fa) → ∃ K : PySem.W.Frag, K.In h ∧ LawG l w K (CX w) k n x mg fa h)
    (hCX : ∀ (w : World) (H : Hp) (s : Shared) (e : Value) (s' : Shared), CX w [] H s (fun _ _ _ => False) e s' → False) :
    PySem.W.WalkO q loose XP YP l.row.toRowW d [] (fun f vs => PySem.call f vs) := by
  refine Att.attach_callB hn hdf fun w s0 s1 mg mb fa o pm cd doc a vs ns G Y ho hd hcd hmg hobj hints hlen hbits hg => ?_
  obtain ⟨K, KX, fd, cs, sp, hT, nT, C, hb, hsp, hF⟩ := F w mg fa _ Y G.T.g hmg
  have rv := vals_ints hints
  have hl : ns.length ≤ sizeLine := Nat.le_trans hlen hn2
  have nm : ∀ {b : Addr}, b ∈ cs.map (·.2) → b ≠ a := fun {b} m z => by
    obtain ⟨p, hp, rfl⟩ := List.mem_map.mp m
    have e := hT p hp
    rw [z, hobj] at e
    cases e
  cases hk : K.lookup a with
  | some o =>
    have e := KX a o hk
    rw [hobj] at e
    cases e
    let HA : Hp := fun b => if b ∈ cs.map (·.2) then some (.tbl #[]) else none
    have hH : ∀ p ∈ cs, HA p.2 = some (.tbl #[]) := fun p hp => if_pos (List.mem_map.mpr ⟨p, hp, rfl⟩)
    refine law_core (H := HA) KX G.T.g G.T.b G.T.builtins G.T.nolimit hg hT nT C G.T.bmain hobj rv hl hr hF hb hH (fun b u z => ?_) (fun z => absurd (if_neg fun m => nm m rfl) z) (hsp HA a ns hlen hH (.inr ⟨_, vs.toArray, _, hk, rfl, rfl, rfl, by rw [List.size_toArray, hints.length]; exact hl, by simpa using rv⟩)) fun H e s' => hCX w H s1 e s'
    by_cases m : b ∈ cs.map (·.2)
    · exact .inl ⟨m, (Option.some.inj ((if_pos m).symm.trans z)).symm⟩
    · cases (if_neg m).symm.trans z
  | none =>
    let HB : Hp := fun b => if b = a then some (.frz { cls := .type "list", data := .seq vs.toArray } (.lst (ns.map V.int))) else if b ∈ cs.map (·.2) then some (.tbl #[]) else none
    have hH : ∀ p ∈ cs, HB p.2 = some (.tbl #[]) := fun p hp =>
      (if_neg (nm (List.mem_map.mpr ⟨p, hp, rfl⟩))).trans (if_pos (List.mem_map.mpr ⟨p, hp, rfl⟩))
    refine law_core (H := HB) KX G.T.g G.T.b G.T.builtins G.T.nolimit hg hT nT C G.T.bmain hobj rv hl hr hF hb hH (fun b u z => ?_) (fun _ => hk) (hsp HB a ns hlen hH (.inl (.inr ⟨{ cls := .type "list", data := .seq vs.toArray }, if_pos rfl⟩))) fun H e s' => hCX w H s1 e s'
    by_cases e : b = a
    · exact .inr ⟨e, (Option.some.inj ((if_pos e).symm.trans z)).symm⟩
    · have z2 := (if_neg e).symm.trans z
      by_cases m : b ∈ cs.map (·.2)
      · exact .inl ⟨m, (Option.some.inj ((if_pos m).symm.trans z2)).symm⟩
      · cases (if_neg m).symm.trans z2
end Wn
/-! the head's facts, by a Hook of one's own -/
namespace Wn
open PySem PySem.Spec PyProof.Rows L2 LamX He

/-! ### defs wherever they stand -/
def fnO (K : PySem.W.Frag) (a : Addr) : FnW := match K.lookup a with
  | some ⟨_, _, .func fd, _⟩ => some (fd.name, fd.qualname, fd.params, fd.body, fd.scope, fd.globals, fd.closure, fd.builtins)
  | _ => none
/-- one def, by a function that finds it -/
structure DefW where
  find : PySem.W.Frag → Addr
  name : Str
  qual : Str
  st : Stmt
  dfl : List Dv := []
  kwd : List (Str × Dv) := []
def DefW.val (d : DefW) : FnW := some (d.name, d.qual, defArgs d.st, .stmts (defBody d.st), defScope d.st, mainGlobals, [], builtinsNs)
def DefW.dvs (K : PySem.W.Frag) (d : DefW) : List V := d.dfl.map (Dv.v K)
def DefW.kws (K : PySem.W.Frag) (d : DefW) : List (Str × V) := d.kwd.map fun q => (q.1, q.2.v K)
def DefW.ok (K : PySem.W.Frag) (d : DefW) : Bool := PySem.W.keepIn K (.ref (d.find K)) && (match K.lookup (d.find K) with
  | some ⟨_, _, .func fd, _⟩ => PySem.W.codeIn K fd.code d.qual && (dflB K fd.defaults (d.dvs K) && kwdB K fd.kwdefaults (d.kws K))
  | _ => false)
/-- the function object at an address -/
def fdAt (K : PySem.W.Frag) (a : Addr) : FuncData := match K.lookup a with
  | some ⟨_, _, .func fd, _⟩ => fd
  | _ => PySem.W.fnOf "" "" ⟨[], [], none, [], [], none, []⟩ [] ⟨.function, [], false, false, []⟩ .none .none .none .none none .none .none
/-- the def of the statement st stands at a -/
abbrev FD (K : PySem.W.Frag) (x qual : Str) (st : Stmt) (dvs : List V) (kws : List (Str × V)) (a : Addr) : Prop := FunD K x qual (defArgs st) (defBody st) (defScope st) dvs kws a (fdAt K a)
theorem DefW.fd {K : PySem.W.Frag} {d : DefW} (e : fnO K (d.find K) = d.val) (c : d.ok K = true) : FD K d.name d.qual d.st (d.dvs K) (d.kws K) (d.find K) := by
  obtain ⟨kp, c2⟩ := ba c
  unfold fnO at e
  unfold FD fdAt
  cases q : K.lookup (d.find K) with
  | none =>
    rw [q] at c2
    cases c2
  | some o =>
    obtain ⟨oc, od, dt, osl⟩ := o
    rw [q] at c2 e
    cases dt with
    | func fd =>
      obtain ⟨n1, n2, n3, n4, n5, n6, n7, n8, n9, n10, n11, n12, n13, n14, n15⟩ := fd
      have e2 : (some (n1, n2, n3, n4, n5, n6, n7, n15) : FnW) = some (d.name, d.qual, defArgs d.st, .stmts (defBody d.st), defScope d.st, mainGlobals, [], builtinsNs) := e
      simp only [Option.some.injEq, Prod.mk.injEq] at e2
      obtain ⟨h1, h2, h3, h4, h5, h6, h7, h8⟩ := e2
      subst h1 h2 h3 h4 h5 h6 h7 h8
      obtain ⟨k1, k2⟩ := ba (show (PySem.W.codeIn K n13 d.qual && (dflB K n8 (d.dvs K) && kwdB K n9 (d.kws K))) = true from c2)
      obtain ⟨k3, k4⟩ := ba k2
      exact ⟨⟨oc, od, n8, n9, n10, n11, n12, n13, n14, osl, rfl, q, k1, dflB_ok k3, kwdB_ok k4⟩, kp⟩
    | _ => cases c2

/-! ### where things stand -/
/-- a method's def; a property's getter; a classmethod's def -/
def mA (C m : Str) (K : PySem.W.Frag) : Addr := ma K (ga K C) m
def pA (C m : Str) (K : PySem.W.Frag) : Addr := match PySem.W.recIn K (mA C m K) "property" with
  | some (.ref g :: _) => g
  | _ => 0
def kA (C m : Str) (K : PySem.W.Frag) : Addr := match PySem.W.recIn K (mA C m K) "classmethod" with
  | some (.ref g :: _) => g
  | _ => 0
def gA (x : Str) (K : PySem.W.Frag) : Addr := ga K x

/-! ### facts -/
inductive Fc where
  | fa (f : Fa)
  | prop (C f : Str)
  | exc (C : Str) (bm : List Value) (nw : String) (fs : List Str)
  | cval (C f : Str) (v : Dv)
  | isc (C T : Str) (b : Bool)
  | mro (C : Str)
  | ins (C : Str)
  | sub (C : Str) (T : String) (b : Bool)
  | tup (x : Str) (vs : List Dv)
  | bmt (C m : Str)
def clsRd (K : PySem.W.Frag) (C : Addr) : Bool := PySem.W.readsIn K C (.type "type") && eqO (PySem.W.specialIn K (.ref C) "__getattribute__") (some (some (.builtin "type.__getattribute__")))
def cvalB (K : PySem.W.Frag) (C : Addr) (f : Str) (v : V) : Bool := match PySem.W.findCls K (.ref C) (.type "type") f with
  | some (.val u) => relB v u
  | _ => false
/-- an instance of C is asked for its class in the plain way -/
def insB (K : PySem.W.Frag) (C : Addr) : Bool := eqO (PySem.W.findIn K (.ref C) "__class__") (some (some (.builtin "object.__class__")))
def Fc.ok (K : PySem.W.Frag) : Fc → Bool
  | .fa f => f.ok K
  | .prop C f => eqO (PySem.W.findIn K (.ref (ga K C)) f) (some (some (.ref (mA C f K)))) && (eqO (PySem.W.specialIn K (.ref (mA C f K)) "__get__") (some (some (.builtin "property.__get__"))) &&
      (decide (PySem.W.takesIn K (.ref (mA C f K)) = some true) && (match PySem.W.recIn K (mA C f K) "property" with
        | some (.ref _ :: _) => true
        | _ => false)))
  | .exc C bm nw fs => PySem.W.excInitIn K (ga K C) bm nw && (PySem.W.excOver K (ga K C) bm && (PySem.W.hasDictIn K (ga K C) && (eqO (PySem.W.findIn K (.ref (ga K C)) "__setattr__") (some (some (.builtin "object.__setattr__"))) &&
      (decide (PySem.W.subIn K (.ref (ga K C)) (.type "BaseException") = some true) && (decide (PySem.W.typeIn K (.ref (ga K C)) = some (.type "type")) && (PySem.W.keepIn K (.ref (ga K C)) &&
      (eqO (PySem.W.findIn K (.ref (ga K C)) "__init__") (some (some (.ref (mA C "__init__" K)))) && (decide (PySem.W.typeIn K (.ref (mA C "__init__" K)) = some (.type "function")) && (xfB K (ga K C) &&
      (fs.all (fun f => eqO (PySem.W.findIn K (.ref (ga K C)) f) (some none)) && eqO (PySem.W.findIn K (.ref (ga K C)) "__class__") (some (some (.builtin "object.__class__")))))))))))))
  | .cval C f v => clsRd K (ga K C) && cvalB K (ga K C) f (v.v K)
  | .isc C T b => decide (PySem.W.kitOne K (.ref (ga K C)) (.ref (ga K T)) = some b)
  | .mro C => decide (PySem.W.mroIn K (ga K C) (.type "object") = some true)
  | .ins C => insB K (ga K C)
  | .sub C T b => decide (PySem.W.kitOne K (.ref (ga K C)) (.type T) = some b)
  | .tup x vs => tupB K x vs
  | .bmt C m => eqO (PySem.W.specialIn K (.ref (mA C m K)) "__get__") (some (some (.builtin "function.__get__"))) && (decide (PySem.W.takesIn K (.ref (mA C m K)) = some false) && PySem.W.fnIn K (mA C m K))

/-! ### the Hook -/
/-- what is looked at: what the module's names reach in n steps, and the statics -/
def refsB (g : Addr → Option Obj) (a : Addr) : List Addr := match g a with
  | some o => refsD o
  | none => []
/-- what is new among them, told by the bits of m -/
def seeB : List Addr → Nat → List Addr → (Nat → List Addr → List Addr) → List Addr
  | [], m, l, k => k m l
  | a :: r, m, l, k => match Nat.beq (Nat.land (Nat.shiftRight m a) 1) 1 with
    | true => seeB r m l k
    | false => HandSHeadRun.frNat (Nat.lor m (Nat.shiftLeft 1 a)) fun m => seeB r m (a :: l) k
def growB (g : Addr → Option Obj) : Nat → Nat → List Addr → List Addr → List Addr
  | 0, _, _, all => all
  | n + 1, m, front, all => seeB (front.flatMap (refsB g)) m [] fun m new => growB g n m new (all ++ new)
def asW (g : Addr → Option Obj) (n : Nat) : List Addr := growB g n (Nat.lor (Nat.shiftLeft 1 mainGlobals) (Nat.shiftLeft 1 cStatics)) [mainGlobals] [mainGlobals, cStatics]
structure SaysW (fc : List Fc) (fw : List DefW) (ts : List Tab) (tf : List Defn) (w : World) (h : Heap) (K : PySem.W.Frag) : Prop where
  x : SaysX [] [] ts tf (fun K => fc.all fun f => f.ok K) w h K
  d : ∀ d ∈ fw, FD K d.name d.qual d.st (d.dvs K) (d.kws K) (d.find K)
theorem SaysW.fact {fc : List Fc} {fw : List DefW} {ts : List Tab} {tf : List Defn} {w : World} {h : Heap} {K : PySem.W.Frag} (c : SaysW fc fw ts tf w h K) (i : Nat) {f : Fc} (e : fc[i]? = some f := by rfl) : f.ok K = true :=
  List.all_eq_true.mp c.x.more f (List.mem_of_getElem? e)
theorem SaysW.def_ {fc : List Fc} {fw : List DefW} {ts : List Tab} {tf : List Defn} {w : World} {h : Heap} {K : PySem.W.Frag} (c : SaysW fc fw ts tf w h K) (i : Nat) {d : DefW} (e : fw[i]? = some d := by rfl) :
    FD K d.name d.qual d.st (d.dvs K) (d.kws K) (d.find K) := c.d d (List.mem_of_getElem? e)
abbrev AlW : Type := AlX × (Bool × List FnW)
def obsK (fc : List Fc) (fw : List DefW) (ts : List Tab) (tf : List Defn) (g : Addr → Option Obj) (K : PySem.W.Frag) : AlW :=
  ((obsT [] [] ts K, (fc.all fun f => f.ok K) && tabsB g tf K), (fw.all fun d => d.ok K, fw.map fun d => fnO K (d.find K)))
def obsW (n : Nat) (fc : List Fc) (fw : List DefW) (ts : List Tab) (tf : List Defn) (g : Addr → Option Obj) : AlW := obsK fc fw ts tf g (frT g (asW g n))
def valW (fw : List DefW) (ts : List Tab) (w : World) : AlW := (valX [] ts w, (true, fw.map DefW.val))
theorem saysW_of {n : Nat} {fc : List Fc} {fw : List DefW} {ts : List Tab} {tf : List Defn} {w : World} {h : Heap} (e : obsW n fc fw ts tf h.get? = valW fw ts w) : SaysW fc fw ts tf w h (frT h.get? (asW h.get? n)) := by
  unfold obsW at e
  generalize eK : frT h.get? (asW h.get? n) = K at e
  have out : ∀ {a : Addr} {o : Obj}, h.get? a = some o → emptyTab o = true → K.lookup a = none := fun {a o} q z => by rw [← eK]; exact frT_none q z
  have t1 : obsT [] [] ts K = valT [] ts w := congrArg (fun z : AlW => z.1.1) e
  have t2 : ((fc.all fun f => f.ok K) && tabsB h.get? tf K) = true := congrArg (fun z : AlW => z.1.2) e
  have e1 : (fw.all fun d => d.ok K) = true := congrArg (fun z : AlW => z.2.1) e
  have e2 : (fw.map fun d => fnO K (d.find K)) = fw.map DefW.val := congrArg (fun z : AlW => z.2.2) e
  obtain ⟨t3, t4⟩ := ba t2
  have key : ∀ p ∈ tf, PySem.W.codeHdIn K (cT K p).1 (cT K p).2 = true ∧ ∃ o, h.get? (cT K p).2 = some o ∧ emptyTab o = true := fun p hp => by
    obtain ⟨y1, y2⟩ := ba (List.all_eq_true.mp t4 p hp)
    refine ⟨y1, ?_⟩
    cases q : h.get? (cT K p).2 with
    | none =>
      rw [q] at y2
      cases y2
    | some o =>
      rw [q] at y2
      exact ⟨o, rfl, y2⟩
  refine ⟨⟨t1, t3, fun p hp => (key p hp).1, fun p hp => ?_, fun p hp => ?_⟩, fun d hd => ?_⟩
  · obtain ⟨_, o, q, z⟩ := key p hp
    exact out q z
  · obtain ⟨_, o, q, z⟩ := key p hp
    rw [q, emptyTab_eq z]
  · obtain ⟨i, hi, ei⟩ := List.mem_iff_getElem.mp hd
    have h3 : fw[i]? = some d := by rw [List.getElem?_eq_getElem hi, ei]
    have e3 : (fw.map fun d => fnO K (d.find K))[i]? = (fw.map DefW.val)[i]? := by rw [e2]
    rw [List.getElem?_map, List.getElem?_map, h3] at e3
    exact DefW.fd (Option.some.inj e3) (List.all_eq_true.mp e1 d hd)
def hookW (n : Nat) (fc : List Fc) (fw : List DefW) (ts : List Tab) (tf : List Defn) : PySem.W.Hook where
  α := AlW
  obs := fun s => obsW n fc fw ts tf s.heap.get?
  val := fun w => valW fw ts w
  says := fun w h => ∃ K : PySem.W.Frag, K.In h ∧ SaysW fc fw ts tf w h K
  of := fun _ _ e => ⟨_, frT_in, saysW_of e⟩
  keeps := fun _ _ _ ⟨K, hK, c⟩ k => ⟨K, PySem.W.Frag.In.keeps hK k, ⟨⟨c.x.t, c.x.more, c.x.hd, c.x.out, fun p hp => k _ _ (c.x.empty p hp)⟩, c.d⟩⟩
theorem obsW_eq {n : Nat} {fc : List Fc} {fw : List DefW} {ts : List Tab} {tf : List Defn} {g : Addr → Option Obj} {s : Shared} (h : ∀ a, g a = s.heap.get? a) : obsW n fc fw ts tf g = (hookW n fc fw ts tf).obs s := by
  have e : g = s.heap.get? := funext h
  rw [e] <;> rfl

/-! ### what the facts say -/
section
variable {K : PySem.W.Frag} {h : Heap} {mg : Str → Option Value}
theorem bm_ok {C f : Str} (c : (Fc.bmt C f).ok K = true) : PySem.W.specialIn K (.ref (mA C f K)) "__get__" = some (some (.builtin "function.__get__")) ∧ PySem.W.takesIn K (.ref (mA C f K)) = some false ∧ PySem.W.fnIn K (mA C f K) = true := by
  obtain ⟨h1, c⟩ := ba c
  obtain ⟨h2, h3⟩ := ba c
  exact ⟨eqO_ok h1, of_decide_eq_true h2, h3⟩
theorem prop_ok {C f : Str} (c : (Fc.prop C f).ok K = true) : PropOf K (ga K C) f (mA C f K) (pA C f K) := by
  obtain ⟨h1, c⟩ := ba c
  obtain ⟨h2, c⟩ := ba c
  obtain ⟨h3, h4⟩ := ba c
  refine ⟨eqO_ok h1, eqO_ok h2, of_decide_eq_true h3, ?_⟩
  unfold pA
  cases q : PySem.W.recIn K (mA C f K) "property" with
  | none =>
    rw [q] at h4
    cases h4
  | some l =>
    rw [q] at h4
    cases l with
    | nil => cases h4
    | cons v r =>
      cases v with
      | ref g => exact ⟨r, rfl⟩
      | _ => cases h4
/-- an own error class: what is raised, what its fields need -/
structure XT (K : PySem.W.Frag) (C : Str) (B nw it : String) (bm : List Value) (fs : List Str) : Prop where
  xc : XC K (ga K C) B nw it bm
  ini : PySem.W.findIn K (.ref (ga K C)) "__init__" = some (some (.ref (mA C "__init__" K)))
  fn : PySem.W.typeIn K (.ref (mA C "__init__" K)) = some (.type "function")
  xf : XfC K (ga K C)
  no : ∀ f ∈ fs, PySem.W.findIn K (.ref (ga K C)) f = some none
  cl : PySem.W.findIn K (.ref (ga K C)) "__class__" = some (some (.builtin "object.__class__"))
theorem exc_okW {C : Str} {B nw it : String} {bm : List Value} {fs : List Str} (bf : ExcBaseFacts B nw it bm) (sf : StoreFacts B bm "object.__setattr__" "object") (c : (Fc.exc C bm nw fs).ok K = true) : XT K C B nw it bm fs := by
  obtain ⟨h1, c⟩ := ba c
  obtain ⟨h2, c⟩ := ba c
  obtain ⟨h3, c⟩ := ba c
  obtain ⟨h4, c⟩ := ba c
  obtain ⟨h5, c⟩ := ba c
  obtain ⟨h6, c⟩ := ba c
  obtain ⟨h7, c⟩ := ba c
  obtain ⟨h8, c⟩ := ba c
  obtain ⟨h9, c⟩ := ba c
  obtain ⟨h10, c⟩ := ba c
  obtain ⟨h11, h12⟩ := ba c
  exact ⟨⟨bf, sf, h1, h2, h3, eqO_ok h4, of_decide_eq_true h5, of_decide_eq_true h6, h7⟩, eqO_ok h8, of_decide_eq_true h9, xfB_ok h10, fun f hf => eqO_ok (List.all_eq_true.mp h11 f hf), eqO_ok h12⟩
theorem cval_ok {C f : Str} {v : Dv} (c : (Fc.cval C f v).ok K = true) : ClX.CRead K (ga K C) (.type "type") ∧ ∃ u, ClX.CVal K (ga K C) (.type "type") f (v.v K) u := by
  obtain ⟨h1, h2⟩ := ba c
  obtain ⟨h3, h4⟩ := ba h1
  refine ⟨⟨h3, eqO_ok h4⟩, ?_⟩
  unfold cvalB at h2
  cases q : PySem.W.findCls K (.ref (ga K C)) (.type "type") f with
  | none =>
    rw [q] at h2
    cases h2
  | some r =>
    rw [q] at h2
    cases r with
    | val u => exact ⟨u, q, relB_ok h2⟩
    | _ => cases h2
end
end Wn
/-! isinstance of a caught error that has a dict of its own -/
namespace Wn
open PySem PySem.Spec PyProof.Rows L2 LamX He
theorem cls_get (K : PySem.W.Frag) : PySem.W.specialIn K (.builtin "object.__class__") "__get__" = some (some (.builtin "getset_descriptor.__get__")) := by
  first | rfl | kernel_rfl
theorem cls_tak (K : PySem.W.Frag) : PySem.W.takesIn K (.builtin "object.__class__") = some true := by
  first | rfl | kernel_rfl
end Wn
/-! several clauses 'except x as n' of one name -/
namespace Wn
open PySem PySem.Spec PyProof.Rows L2 LamX He
abbrev Clause := Value × (Addr → Value → Option Addr → TS)
/-- the ends, with the clause's name gone -/
def gone (i : Nat) (D : Ends) : Ends := { nx := fun σ H => D.nx (σ.set i none) H, rt := D.rt, bk := fun σ H => D.bk (σ.set i none) H, ct := fun σ H => D.ct (σ.set i none) H }
def wAsN (K : PySem.W.Frag) (i : Nat) (Wout : WX) (D : Ends) : List Clause → WX
  | [] => Wout
  | (c, ts) :: r => fun cls d σ H => ∃ b, PySem.W.exmOne K cls c = some b ∧ (b = true → ∀ a, H a = none → ts a cls d (gone i D) (σ.set i (some (.ref a))) H) ∧ (b = false → wAsN K i Wout D r cls d σ H)
inductive HdsA (X : Cx) (n : Str) : List ExceptHandler → List Clause → Prop
  | nil : HdsA X n [] []
  | cons {x : Str} {c : Value} {ts : Addr → Value → Option Addr → TS} {b₀ : Stmt} {suite : List Stmt} {np pos' : Pos} {hds : List ExceptHandler} {l : List Clause} (hc : Names X x c)
      (hsu : ∀ (a : Addr) (oe : Obj) (cls : Value) (d : Option Addr) (pn : List (Addr × Obj)), Zc cls d oe → (∃ vs, oe.data = .fields vs) → PSs (X.suite a ((a, oe) :: pn)) (b₀ :: suite) (ts a cls d)) (r : HdsA X n hds l) :
      HdsA X n (.ExceptHandler (some (.Name x np)) (some n) (b₀ :: suite) pos' :: hds) ((c, ts) :: l)
section
variable {X : Cx} {body : List Stmt} {h₀ : ExceptHandler} {hds : List ExceptHandler} {l : List Clause} {pos : Pos} {tb : WX → TS} {Wout : WX} {i : Nat} {n : Str}
theorem ps_try_asN (hs : X.stack = X.env :: X.outer) (hf : X.env.frame = some X.env.locals) (hN : X.N.Nodup) (hi : X.N[i]? = some n) (hln : X.env.kindOf n = some .local) (tk : Takes X Wout)
    (hb : ∀ (W : WX) (pn : List (Addr × Obj)) (xe : Value → Shared → Prop), Takes (X.tr pn xe) W → PassesOwn (model X.prog X.w) X.A X.env xe → PSs (X.tr pn xe) body (tb W))
    (hh : HdsA X n (h₀ :: hds) l) : PS X (.Try body (h₀ :: hds) [] [] pos) (fun D σ H => tb (wAsN X.K i Wout D l) D σ H) := by
  refine ⟨fun pins s σ H D I h => ?_⟩
  have ok := I.ok
  have hfr : X.A.frames = some (X.env :: X.outer) := by rw [ok.frames, hs]
  have hloc : Loc X.env.scope n := .inl hln
  refine wpAny_Try_except ?_
  refine wpAny_mono ((hb (wAsN X.K i Wout D l) (X.pn ++ pins) (fun e s₁ => wpAny (model X.prog X.w) X.A (noteFrame e X.env) (fun _ s₂ => wpAny (model X.prog X.w) X.A (setFlight e none) (fun _ s₃ =>
    wpAny (model X.prog X.w) X.A (handleBy e X.env (h₀ :: hds)) (SP X pins D) X.xe s₃) X.xe s₂) X.xe s₁) (fun u s' xx => ?_) PassesOwn.looking).run [] s σ H D (I.toTry _) h) (fun f s1 hsp => ?_) (fun e s1 he => he)
  · obtain ⟨a, B, sI, pins', σ', H', cls, d, rfl, J', nb, up, sky, na, os, ag, w⟩ := xx
    have J : Inv X pins σ' H' sI := J'.ofTry ok
    have sky' : Sky B (X.env :: X.outer) a (Zc cls d) X.env.locals s'.heap := by rw [← hs]; exact sky
    show wpAny (model X.prog X.w) X.A (noteFrame (.ref a) X.env) _ _ _
    refine Sky.land Zc.steady hfr hf sky' fun h3 fl3 up3 => ?_
    have J3 : Inv X pins σ' H' { s' with heap := h3 } := J.landed nb fl3.1 (up.trans up3) os ag
    obtain ⟨oe3, vs3, he3, hz3, hd3⟩ := fl3.there
    have nfr : a ∉ frs (X.env :: X.outer) := fun hm => by
      obtain ⟨_, o', e', hnf⟩ := fl3.2.2.1.mem hm
      rw [he3] at e'; cases e'
      exact hnf _ hd3
    have nL : a ≠ X.env.locals := fun z => nfr (List.mem_filterMap.mpr ⟨X.env, List.mem_cons_self, by rw [hf, z]⟩)
    have nF : a ∉ X.fs := fun hm => by
      obtain ⟨e, he, q⟩ := List.mem_filterMap.mp hm
      exact nfr (List.mem_filterMap.mpr ⟨e, List.mem_cons_of_mem _ he, q⟩)
    have S3 := J3.suite he3 hd3 na nL nF
    have go : ∀ {hds' : List ExceptHandler} {l' : List Clause}, HdsA X n hds' l' → wAsN X.K i Wout D l' cls d σ' H' →
        wpAny (model X.prog X.w) X.A (handleBy (.ref a) X.env hds') (SP X pins D) X.xe { s' with heap := h3 } := by
      intro hds' l' hk
      induction hk with
      | nil =>
        intro w
        refine wpAny_handleBy_nil ?_
        obtain ⟨k1, k2, k3, oe, vs, T, oT, ts', he, hz, hd, h1, hr⟩ := id fl3
        unfold PySem.passOn
        refine wpAny_bind (wpAny_field he hd h1 ?_)
        rw [if_neg (show ¬ ((Value.ref T == Value.none) = true) from by simp)]
        have fin : wpAny (model X.prog X.w) X.A (setFlight (.ref a) X.env.frame) (fun _ s4 => wpAny (model X.prog X.w) X.A (throw (.ref a) : Sem Flow) (SP X pins D) X.xe s4) X.xe { s' with heap := h3 } := by
          rw [hf]
          refine HandSPX.setFlight_upZ fl3 fun h4 hh4 up4 => wpAny_throw (tk _ _ ?_)
          exact ⟨a, B, sI, pins, σ', H', cls, d, rfl, J, nb, (up.trans up3).trans up4, .inr (.inr (by rw [hs]; exact hh4)), na, os, ag, w⟩
        first
          | exact wpAny_bind (wpAny_pure (wpAny_bind fin))
          | exact wpAny_bind fin
      | @cons x c ts b₀ suite np pos' hds2 l2 hc hsu r ih =>
        intro w
        obtain ⟨b, hb1, hyes, hno⟩ := w
        refine wpAny_handleBy_cons (codeAny_handlers_test ?_) (by intro q; cases q)
        have LT : PySem.W.Looks (model X.prog X.w) h3 (typeOf (.ref a)) cls := fun A Q E s k q => wpAny_typeOf_ref (k _ _ he3) (by rw [hz3.1]; exact q)
        have LM := PySem.W.exm_one (M := model X.prog X.w) (J3.kIn) LT hb1
        have test : ∀ {Q : Value → Shared → Prop} {E : Value → Shared → Prop}, Q c { s' with heap := h3 } → wpAny (model X.prog X.w) (X.A.mark (some (.ref a))) (eval (.Name x np) X.env) Q E { s' with heap := h3 } := fun {Q E} q => by
          obtain ⟨hg, hdbg, hm | ⟨hm, hv, hnn⟩⟩ := hc
          · exact ld_glob (X := X.suite a ((a, oe3) :: (X.pn ++ pins))) S3 hg hm q hdbg
          · exact ld_blt (X := X.suite a ((a, oe3) :: (X.pn ++ pins))) S3 hg hm hv q hnn hdbg
        refine test (LM.here ?_)
        cases b with
        | true =>
          refine codeAny_handlers_suite_as ?_
          refine HandSPX.lands_againZ fl3 fun h4 fl4 up4 => ?_
          have J4 : Inv X pins σ' H' { s' with heap := h4 } := J.landed nb fl4.1 ((up.trans up3).trans up4) os ag
          obtain ⟨oe4, vs4, he4, hz4, hd4⟩ := fl4.there
          have S4 := J4.suite he4 hd4 na nL nF
          refine store_ok (X := X.suite a ((a, oe4) :: (X.pn ++ pins))) (v := .ref a) S4 hN hi hloc rfl (fun s5 S5 => ?_) (.inr hln)
          refine wpAny_mono ((hsu a oe4 cls d (X.pn ++ pins) hz4 ⟨_, hd4⟩).run [] s5 _ H' _ S5 (hyes rfl a na)) (fun f s6 hsp => ?_) (fun _ _ z => False.elim z)
          have end_ : ∀ {σ6 : L2.St} {H6 : Hp} {Q : Shared → Prop}, Inv (X.suite a ((a, oe4) :: (X.pn ++ pins))) [] σ6 H6 s6 → (∀ s7, Inv X pins (σ6.set i none) H6 s7 → Q s7) →
              wpAny (model X.prog X.w) X.A (do bindName X.env n .none; unbindBehindTheSuite X.env n pos') (fun _ s7 => Q s7) X.xe s6 := fun {σ6 H6 Q} S6 hq => gone_ok (S6.unsuite ok) hN hi hln hq
          cases f with
          | next =>
            obtain ⟨σ6, H6, S6, q6⟩ := hsp
            exact end_ S6 fun s7 J7 => ⟨_, _, J7, q6⟩
          | brk =>
            obtain ⟨σ6, H6, S6, q6⟩ := hsp
            exact end_ S6 fun s7 J7 => ⟨_, _, J7, q6⟩
          | cont =>
            obtain ⟨σ6, H6, S6, q6⟩ := hsp
            exact end_ S6 fun s7 J7 => ⟨_, _, J7, q6⟩
          | ret u =>
            obtain ⟨v6, σ6, H6, S6, r6, q6⟩ := hsp
            exact end_ S6 fun s7 J7 => ⟨_, _, _, J7, r6, q6⟩
        | false =>
          show wpAny _ X.A (handleBy (.ref a) X.env hds2) _ _ _
          exact ih (hno rfl)
    exact go hh w
  · cases f with
    | next =>
      obtain ⟨σ', H', J', q⟩ := hsp
      exact wpAny_execs_nil ⟨σ', H', J'.ofTry ok, q⟩
    | brk =>
      obtain ⟨σ', H', J', q⟩ := hsp
      exact ⟨σ', H', J'.ofTry ok, q⟩
    | cont =>
      obtain ⟨σ', H', J', q⟩ := hsp
      exact ⟨σ', H', J'.ofTry ok, q⟩
    | ret u =>
      obtain ⟨v, σ', H', J', r, q⟩ := hsp
      exact ⟨v, σ', H', J'.ofTry ok, r, q⟩
end
end Wn
/-! raise C(e) where C's __init__ stores a caption and one field -/
namespace Wn
open PySem PySem.Spec PyProof.Rows L2 LamX He

def spErr (C : Addr) (f cap : Str) : Sp := fun vs H Q _ => ∃ (a : Addr) (v : V), vs = [.ref a, v] ∧ H a = some (exo a C none) ∧ ∀ dx, H dx = none → dx ≠ a →
  Q .non (upd (upd (upd H dx (exd dx [("caption", .str cap)])) a (exo a C (some dx))) dx (exd dx [(f, v), ("caption", .str cap)]))
def spErr0 (C : Addr) (cap : Str) : Sp := fun vs H Q _ => ∃ (a : Addr), vs = [.ref a] ∧ H a = some (exo a C none) ∧ ∀ dx, H dx = none → dx ≠ a →
  Q .non (upd (upd H dx (exd dx [("caption", .str cap)])) a (exo a C (some dx)))
/-- raise C(e): for every new d the way out, d the error's own dict -/
def tErr (C : Addr) (f cap : Str) (te : TE) : L2.St → Hp → XK → Prop := fun σ H Q => te σ H fun v H1 => ∀ d, H1 d = none → Q (.ref C) (some d) (upd H1 d (.xd [(f, v), ("caption", .str cap)]))
def tErr0 (C : Addr) (cap : Str) : L2.St → Hp → XK → Prop := fun _ H Q => ∀ d, H d = none → Q (.ref C) (some d) (upd H d (.xd [("caption", .str cap)]))
theorem err_heap {H : Hp} {a d C : Addr} {f1 f2 fs : List (Str × V)} (ha : H a = none) (ne : d ≠ a) :
    upd (del (upd (upd (upd (upd H a (exo a C none)) d (exd d f1)) a (exo a C (some d))) d (exd d f2)) a) d (.xd fs) = upd H d (.xd fs) := by
  funext b
  by_cases h1 : b = d
  · subst h1
    rw [upd_same, upd_same]
  · rw [upd_ne h1, upd_ne h1]
    by_cases h2 : b = a
    · subst h2
      rw [del_same, ha]
    · rw [del_ne h2, upd_ne h1, upd_ne h2, upd_ne h1, upd_ne h2]
theorem err_heap0 {H : Hp} {a d C : Addr} {f1 fs : List (Str × V)} (ha : H a = none) (ne : d ≠ a) :
    upd (del (upd (upd (upd H a (exo a C none)) d (exd d f1)) a (exo a C (some d))) a) d (.xd fs) = upd H d (.xd fs) := by
  funext b
  by_cases h1 : b = d
  · subst h1
    rw [upd_same, upd_same]
  · rw [upd_ne h1, upd_ne h1]
    by_cases h2 : b = a
    · subst h2
      rw [del_same, ha]
    · rw [del_ne h2, upd_ne h2, upd_ne h1, upd_ne h2]
section
variable {X : Cx} {e : Expr} {te : TE} {f cap : Str} {p pos : Pos} {CX : CXT} {x C : Str} {k : Nat} {fd : FuncData} {B nw it : String} {bm : List Value} {fs : List Str}
/-- what is wanted behind one argument -/
def one1 (R : V → Hp → Prop) : List V → Hp → Prop := fun vs H => match vs with
  | [v] => R v H
  | _ => False
theorem pmk_err (T : XT X.K C B nw it bm fs) (F1 : FnOk X.prog X.w X.K X.mg X.base CX k (mA C "__init__" X.K) fd ["self", f] (spErr (ga X.K C) f cap)) (hr : Room (k + 1) X.A) (hb : Binds X.K fd ["self", f] []) (hx : Passes CX X (fun _ _ _ => False))
    (hg : Gl X x) (hm : X.mg x = some (.ref (ga X.K C))) (he : PE X e te) (hdb : (x == ("__debug__" : Str)) = false := by decide) (hst : starEach [e] X.env = [(false, eval e X.env)] := by rfl) :
    PMk X (.Call (.Name x p) [e] [] pos) (tErr (ga X.K C) f cap te) := by
  intro pins s σ H Q I h
  refine wpAny_Call_Name_kw (ld_glob I hg hm ?_ hdb)
  refine PySem.W.callWith_K (h₀ := X.base) I.ok.mod.kin T.xc.kC (thn ((pa_cons he pa_nil hst).run pos pins s σ H (one1 fun v H1 => ∀ d, H1 d = none → Q (.ref (ga X.K C)) (some d) (upd H1 d (.xd [(f, v), ("caption", .str cap)]))) I h) fun us s1 ⟨vs, H1, I1, r1, q1⟩ => ⟨I1.kIn, ?_⟩) hst rfl
  match vs, r1, q1 with
  | [v], r1, q1 =>
    refine xm_run T.xc T.ini T.fn F1 hr hb hx I1 r1 (by show 1 ≤ 1000; decide) fun a ha => ⟨a, v, rfl, upd_same, fun dx hd ne => ⟨rfl, dx, [(f, v), ("caption", .str cap)], ?_, upd_same, ?_, ?_⟩⟩
    · rw [upd_ne (Ne.symm ne), upd_same]
    · rw [upd_ne ne] at hd
      exact hd
    · rw [err_heap ha ne]
      rw [upd_ne ne] at hd
      exact q1 dx hd
theorem pmk_err0 (T : XT X.K C B nw it bm fs) (F1 : FnOk X.prog X.w X.K X.mg X.base CX k (mA C "__init__" X.K) fd ["self"] (spErr0 (ga X.K C) cap)) (hr : Room (k + 1) X.A) (hb : Binds X.K fd ["self"] []) (hx : Passes CX X (fun _ _ _ => False))
    (hg : Gl X x) (hm : X.mg x = some (.ref (ga X.K C))) (hdb : (x == ("__debug__" : Str)) = false := by decide) : PMk X (.Call (.Name x p) [] [] pos) (tErr0 (ga X.K C) cap) := by
  intro pins s σ H Q I h
  refine wpAny_Call_Name_kw (ld_glob I hg hm ?_ hdb)
  refine PySem.W.callWith_K0 I.kIn T.xc.kC ?_
  refine xm_run (us := []) (vs := []) T.xc T.ini T.fn F1 hr hb hx I .nil (by decide) fun a ha => ⟨a, rfl, upd_same, fun dx hd ne => ⟨rfl, dx, [("caption", .str cap)], upd_same, ?_, ?_, ?_⟩⟩
  · rw [upd_ne ne, upd_same]
  · rw [upd_ne ne] at hd
    exact hd
  · rw [err_heap0 ha ne]
    rw [upd_ne ne] at hd
    exact h dx hd
/-- an error's __init__ keeps its promise -/
theorem err_init {P : Program} {w : World} {K : PySem.W.Frag} {mg : Str → Option Value} {base : Heap} {st : Stmt} {p1 p2 p3 p4 p5 p6 p7 p8 : Pos} {j : Nat} (T : XT K C B nw it bm fs) (F : FD K "__init__" cap st [] [] (mA C "__init__" K)) (S : FnScope ["self", f] ["self", f] (defScope st))
    (hbd : defBody st = [.Assign [.Attribute (.Name "self" p1) "caption" p2] (.Constant (.str x) j p3) p4, .Assign [.Attribute (.Name "self" p5) f p6] (.Name f p7) p8])
    (h1 : (("caption" : Str) ∈ fs) ∧ f ∈ fs) (hn : (f == ("__debug__" : Str)) = false ∧ (f == ("__classdict__" : Str)) = false)
    (hs : ∀ env : Env, swapsWith (.Constant (.str x) j p3) (some (.Attribute (.Name "self" p1) "caption" p2)) p4.line env = pure false ∧ swapsWith (.Name f p7) (some (.Attribute (.Name "self" p5) f p6)) p8.line env = pure false)
    (hv : Vis (defScope st) "self" ∧ Vis (defScope st) f) :
    FnOk P w K mg base CX0 1 (mA C "__init__" K) (fdAt K (mA C "__init__" K)) ["self", f] (spErr (ga K C) f x) := by
  refine FunD.ok F S (fun vs H Q E h => ?_) (fun cdv A outer s H vs Q E hr h => ?_)
  · obtain ⟨a, v, rfl, _⟩ := h
    rfl
  · obtain ⟨a, v, rfl, ha, k⟩ := h
    rw [hbd]
    refine ⟨_, pss_cons (ps_xs (pe_var (i := 0) rfl hv.1) pe_str (hs _).1) (pss_one (ps_xs (pe_var (i := 0) rfl hv.1) (pe_var (i := 1) rfl hv.2 hn.1 hn.2) (hs _).2)), ?_⟩
    refine ⟨_, rfl, a, ga K C, B, nw, it, bm, rfl, T.xc, T.no _ h1.1, .inl ⟨ha, fun dx hd ne => ?_⟩⟩
    refine ⟨_, rfl, _, rfl, a, ga K C, B, nw, it, bm, rfl, T.xc, T.no _ h1.2, .inr ⟨dx, [("caption", .str x)], upd_same, ?_, (by show 1 ≤ 900; decide), ?_⟩⟩
    · rw [upd_ne ne, upd_same]
    · exact k dx hd ne
theorem err_init0 {P : Program} {w : World} {K : PySem.W.Frag} {mg : Str → Option Value} {base : Heap} {st : Stmt} {p1 p2 p3 p4 : Pos} {j : Nat} (T : XT K C B nw it bm fs) (F : FD K "__init__" cap st [] [] (mA C "__init__" K)) (S : FnScope ["self"] ["self"] (defScope st))
    (hbd : defBody st = [.Assign [.Attribute (.Name "self" p1) "caption" p2] (.Constant (.str x) j p3) p4])
    (h1 : ("caption" : Str) ∈ fs)
    (hs : ∀ env : Env, swapsWith (.Constant (.str x) j p3) (some (.Attribute (.Name "self" p1) "caption" p2)) p4.line env = pure false)
    (hv : Vis (defScope st) "self") :
    FnOk P w K mg base CX0 1 (mA C "__init__" K) (fdAt K (mA C "__init__" K)) ["self"] (spErr0 (ga K C) x) := by
  refine FunD.ok F S (fun vs H Q E h => ?_) (fun cdv A outer s H vs Q E hr h => ?_)
  · obtain ⟨a, rfl, _⟩ := h
    rfl
  · obtain ⟨a, rfl, ha, k⟩ := h
    rw [hbd]
    refine ⟨_, pss_one (ps_xs (pe_var (i := 0) rfl hv) pe_str (hs _)), ?_⟩
    exact ⟨_, rfl, a, ga K C, B, nw, it, bm, rfl, T.xc, T.no _ h1, .inl ⟨ha, fun dx hd ne => k dx hd ne⟩⟩
end
end Wn
/-! sorted(xs, key=f): f is called as a def of the text is -/
namespace Wn
open PySem PySem.Spec PyProof.Rows L2 LamX PySem.W

theorem Same.sqt {K : PySem.W.Frag} {H H' : Hp} {a : Addr} {xs : List V} (e : Same H H') (h : SqT K H a xs) : SqT K H' a xs := by
  rcases h with (h | ⟨o, h⟩) | h
  · exact .inl (.inl (e _ _ h))
  · exact .inl (.inr ⟨o, e _ _ h⟩)
  · exact .inr h
mutual
theorem Dp.same {K : PySem.W.Frag} {H H' : Hp} (e : Same H H') : ∀ (d : PyData) (v : V), Dp K H v d → Dp K H' v d
  | .none, _, h => by cases h; exact .non
  | .bool b, _, h => by cases h; exact .bl b
  | .int i, _, h => by cases h; exact .int i
  | .str x, _, h => by cases h; exact .str x
  | .list ds, _, h => by cases h with | lst hs ha => exact .lst (e.seq hs) (DpAll.same e ds _ ha)
  | .tuple ds, _, h => by cases h with | tup hs ha => exact .tup (Same.sqt e hs) (DpAll.same e ds _ ha)
  | .dict kvs, _, h => by cases h
theorem DpAll.same {K : PySem.W.Frag} {H H' : Hp} (e : Same H H') : ∀ (ds : List PyData) (vs : List V), DpAll K H vs ds → DpAll K H' vs ds
  | [], _, h => by cases h; exact .nil
  | d :: ds, _, h => by cases h with | cons h1 h2 => exact .cons (Dp.same e d _ h1) (DpAll.same e ds _ h2)
end

theorem dpLen {K : PySem.W.Frag} {H : Hp} : ∀ {vs : List V} {ds : List PyData}, DpAll K H vs ds → vs.length = ds.length
  | _, _, .nil => rfl
  | _, _, .cons _ t => congrArg Nat.succ (dpLen t)
theorem dpApp {K : PySem.W.Frag} {H : Hp} : ∀ {vs ws : List V} {ds es : List PyData}, DpAll K H vs ds → DpAll K H ws es → DpAll K H (vs ++ ws) (ds ++ es)
  | _, _, _, _, .nil, h => h
  | _, _, _, _, .cons a t, h => .cons a (dpApp t h)
theorem eachVals : ∀ {xs : List V} {us : List Value}, Vals xs us → EachIs (fun v x => RelV x v) us xs
  | _, _, .nil => .nil
  | _, _, .cons r t => .cons r (eachVals t)
theorem valsEach : ∀ {xs : List V} {us : List Value}, EachIs (fun v x => RelV x v) us xs → Vals xs us
  | _, _, .nil => .nil
  | _, _, .cons r t => .cons r (valsEach t)
theorem eachReads {X : Cx} {pins : List (Addr × Obj)} {σ : L2.St} {H : Hp} {s : Shared} (I : Inv X pins σ H s) : ∀ {ks : List V} {us : List Value} {ds : List PyData}, Vals ks us → DpAll X.K H ks ds → EachIs (fun v k => ∃ as, Reads s.heap v k as) us ds
  | _, _, _, .nil, .nil => .nil
  | _, _, _, .cons r t, .cons d ds => .cons (Dp.reads I _ _ _ d r) (eachReads I t ds)
section
variable {X : Cx} {pins : List (Addr × Obj)} {σ : L2.St} {H : Hp} {s : Shared}
/-- addresses behind the heap of an invariant are nobody's -/
structure Own (X : Cx) (pins : List (Addr × Obj)) (a : Addr) : Prop where
  loc : a ≠ X.env.locals
  old : X.s_0.heap.objs.size ≤ a
  cel : ∀ x c, X.env.cells.lookup x = some c → c ≠ a
  pin : ∀ p ∈ X.pn ++ pins, p.1 ≠ a
  fs : a ∉ X.fs
theorem own_of (I : Inv X pins σ H s) {a : Addr} (h : s.heap.objs.size ≤ a) : Own X pins a :=
  ⟨Nat.ne_of_gt (Nat.lt_of_lt_of_le I.lt h), Nat.le_trans I.sz h, fun x c e z => by
    obtain ⟨v, o, ho, _⟩ := I.cell x c e
    exact absurd (Nat.lt_of_lt_of_le (Heap.lt_size ho) h) (by rw [z]; exact Nat.lt_irrefl _),
   fun p hp z => absurd (Nat.lt_of_lt_of_le (Heap.lt_size (I.pin p hp).1) h) (by rw [z]; exact Nat.lt_irrefl _), I.nofs h⟩
/-- what is pinned and one's own is tracked from now on, another one is forgotten -/
theorem track {h' : Heap} {t' : Nat} {a b : Addr} {xs : List V} (I : Inv X pins σ H s) (oa : Own X pins a) (ob : Own X pins b) (na : H a = none) (nb : H b = none)
    (k : ∀ c o, c ≠ a → c ≠ b → s.heap.get? c = some o → h'.get? c = some o) (ha : ObjOk X.prog X.w (upd H a (.lst xs)) h' a (.lst xs)) :
    Inv X pins σ (upd H a (.lst xs)) { s with heap := h', toks := t' } := by
  have nt : ∀ {c : Addr} {u : HO}, H c = some u → c ≠ a ∧ c ≠ b := fun {c u} e => ⟨ne_of_none e na, ne_of_none e nb⟩
  have up : ∀ {c : Addr} {u : HO}, H c = some u → upd H a (.lst xs) c = some u := fun {c u} e => by rw [upd_ne (nt e).1]; exact e
  have nin : ∀ {c : Addr}, c ∉ [a, b] → c ≠ a ∧ c ≠ b := fun {c} h => ⟨fun z => h (by simp [z]), fun z => h (by simp [z])⟩
  refine I.step (g' := s.gens) (d' := s.drawn) (ch := [a, b]) (fun c hc => ?_) (fun c o _ _ hc e _ => k c o (nin hc).1 (nin hc).2 e) (fun c o _ _ hc e _ => ⟨o.slots, k c o (nin hc).1 (nin hc).2 e⟩)
    (fun c o hc _ n => by rw [upd_ne (nin hc).1]; exact n) (fun c o hc e => ⟨o, k c o (nin hc).1 (nin hc).2 e⟩) (fun c xs q => up q) (fun c o u q => up q) (fun c ps q => ⟨#[], by rw [up q]; simp⟩) (fun m hm => ?_) (fun c u q => ?_) I.bare
  · rcases List.mem_cons.mp hc with z | z
    · subst z; exact ⟨.inr oa.old, oa.loc, oa.cel, oa.pin⟩
    · cases List.mem_singleton.mp z
      exact ⟨.inr ob.old, ob.loc, ob.cel, ob.pin⟩
  · obtain ⟨o, es, ep, e, r⟩ := hm
    exact ⟨o, es, ep, k _ _ (Ne.symm oa.loc) (Ne.symm ob.loc) e, r⟩
  · by_cases z : c = a
    · subst z
      rw [upd_same] at q
      cases q
      exact ha
    · rw [upd_ne z] at q
      exact (I.hok c u q).stay (fun d v hd y => by
          have hn : d ≠ a ∧ d ≠ b := by
            rcases hd with hd | hd
            · subst hd
              exact nt q
            · exact nt hd
          exact k d v hn.1 hn.2 y) (fun d hd => up hd) fun d ys hd => up hd

variable {Q : VK} {l q : Addr} {xs : List V} {kd : V → PyData}
theorem sorted_key_run (I : Inv X pins σ H s) (hS : SqL X.K H l xs) (hal : AllAlike (xs.map kd)) (hsk : Sortable (xs.map kd)) (hdp : ∀ x ∈ xs, (kd x).depth ≤ 50) (hu : X.A.units + 100 < cLine)
    (hcall : ∀ (pins' : List (Addr × Obj)) (H1 : Hp) (s1 : Shared) (x : V) (u : Value), Inv X pins' σ H1 s1 → Same H H1 → x ∈ xs → RelV x u →
      wpAny (model X.prog X.w) X.A.in1.in1 (call (.ref q) [u]) (EP X pins' σ fun v H2 => Same H1 H2 ∧ Dp X.K H2 v (kd x)) (fun _ _ => False) s1)
    (hfin : ∀ H2 p, Same H H2 → H2 p = none → Q (.ref p) (upd H2 p (.lst (xs.mergeSort (dataLe false kd))))) :
    wpAny (model X.prog X.w) X.A (call (.builtin "sorted") [.ref l] [(Str.ofString "key", .ref q)]) (EP X pins σ Q) X.xe s := by
  obtain ⟨its, rv, pl, hz⟩ := I.list hS
  have hlen : its.length = xs.length := (Vals.length rv).symm
  have hIL : s.heap.IsList l its.toArray := by
    obtain ⟨o, n, ho, hc, _, hd⟩ := pl
    exact ⟨o, ho, hc, n, hd⟩
  refine sorted_of_sort hIL (by rw [hlen]; exact hz) (ksk_s1 _ _) (fun x => ksk_l1 _ _) fun E' => ?_
  rw [ksk_t1]
  -- the copy at D
  have oD : Own X pins (s.heap.objs.size + 1) := own_of I (Nat.le_succ s.heap.objs.size)
  generalize hDe : s.heap.objs.size + 1 = D at oD ⊢
  have hoD : (copyHeap s.heap its).get? D = some (seqObj "list" its.toArray 0) := by rw [← hDe]; exact copyHeap_at s.heap its
  have ltD : D < (copyHeap s.heap its).objs.size := Heap.lt_size hoD
  obtain ⟨e1, ho1⟩ : ∃ e1, ((copyHeap s.heap its).update D (Obj.mapSeq fun _ => (#[] : Array Value))).get? D = some (seqObj "list" #[] e1) := ⟨_, get?_update_seq hoD fun _ => #[]⟩
  unfold ksk_tree
  refine wpAny_bind (listItems_at hoD rfl ?_)
  refine wpAny_bind (listUpdate_at hoD rfl ?_ (by rw [List.size_toArray, hlen]; exact hz) (Nat.zero_le _))
  refine wpAny_bind (seqEpoch_at ho1 rfl ?_)
  refine wpAny_bind (wpAny_newTuple ?_ (by show its.length ≤ _; rw [hlen]; exact hz))
  refine wpAny_bind (wpAny_newList ?_ (Nat.zero_le _))
  refine wpAny_holding ?_
  have nD : ∀ {b : Addr} {o : Obj}, s.heap.get? b = some o → b ≠ D := fun {b o} e => by rw [← hDe]; exact Nat.ne_of_lt (Nat.lt_succ_of_lt (Heap.lt_size e))
  have kp : ∀ b o, s.heap.get? b = some o → (sortingHeap (copyHeap s.heap its) D its).get? b = some o := fun b o e => sortingHeap_old (nD e) (copyHeap_old e)
  have I2 : Inv X pins σ H { s with heap := sortingHeap (copyHeap s.heap its) D its } := I.kept kp
  -- the keys' list at S
  have hSe : ((((copyHeap s.heap its).update D (Obj.mapSeq fun _ => (#[] : Array Value))).push (seqObj "tuple" its.toArray 0)).objs.size) = (copyHeap s.heap its).objs.size + 1 := by rw [size_push', Heap.size_update]
  have szc : s.heap.objs.size ≤ (copyHeap s.heap its).objs.size := by omega
  have oS : Own X pins ((copyHeap s.heap its).objs.size + 1) := own_of I (Nat.le_succ_of_le szc)
  have nS0 : H ((copyHeap s.heap its).objs.size + 1) = none := I.hok.fresh (Nat.le_succ_of_le szc)
  have hSD : (copyHeap s.heap its).objs.size + 1 ≠ D := by omega
  have gD : (sortingHeap (copyHeap s.heap its) D its).get? D = some (seqObj "list" #[] e1) := Heap.get?_push_of_some _ (Heap.get?_push_of_some _ ho1)
  have gS : (sortingHeap (copyHeap s.heap its) D its).get? ((copyHeap s.heap its).objs.size + 1) = some (seqObj "list" #[] 0) := by
    unfold sortingHeap
    rw [← hSe]
    exact Heap.get?_push_size _ rfl
  show wpAny _ _ (ksk_rest D (.ref q) false its.toArray e1 (.ref ((((copyHeap s.heap its).update D (Obj.mapSeq fun _ => (#[] : Array Value))).push (seqObj "tuple" its.toArray 0)).objs.size))) _ _ { s with heap := sortingHeap (copyHeap s.heap its) D its }
  rw [hSe]
  generalize (copyHeap s.heap its).objs.size + 1 = S at oS hSD gS nS0 ⊢
  generalize sortingHeap (copyHeap s.heap its) D its = hp2 at I2 gD gS ⊢
  have nH : ∀ {a : Addr}, s.heap.objs.size ≤ a → H a = none := fun h => I.hok.fresh h
  have mkp : ∀ {H1 : Hp} {s1 : Shared} {kA : Array Value} {e : Nat}, Inv X pins σ H1 s1 → s1.heap.get? D = some (seqObj "list" #[] e1) → s1.heap.get? S = some (seqObj "list" kA e) → H1 D = none → H1 S = none →
      Inv X ((D, seqObj "list" #[] e1) :: (S, seqObj "list" kA e) :: pins) σ H1 s1 := fun {H1 s1 kA e} J g1 g2 n1 n2 => by
    refine J.pins_of fun p hp => ?_
    rcases List.mem_cons.mp hp with z | hp
    · subst z
      exact ⟨g1, n1, oD.loc, oD.fs, fun v z => nomatch z⟩
    · rcases List.mem_cons.mp hp with z | hp
      · subst z
        exact ⟨g2, n2, oS.loc, oS.fs, fun v z => nomatch z⟩
      · exact J.pin p (List.mem_append_right _ hp)
  have nD0 : H D = none := nH (by omega)
  unfold ksk_rest
  refine wpAny_bind (wpAny_rule ?_)
  first
    | rw [List.forIn_toArray]
    | (rw [← Array.forIn_toList]; simp only [List.toList_toArray])
    | rw [← Array.forIn_toList]
  refine wpAny_bind (ksk_fold (fun i s' => ∃ H' kA e ks, Same H H' ∧ Inv X ((D, seqObj "list" #[] e1) :: (S, seqObj "list" kA e) :: pins) σ H' s' ∧ Vals ks kA.toList ∧ DpAll X.K H' ks ((xs.take i).map kd)) its 0 { s with heap := hp2 }
    ⟨H, #[], 0, [], Same.refl H, ?_, .nil, ?_⟩ ?step ?done)
  · exact mkp I2 gD gS nD0 nS0
  · rw [List.take_zero]
    exact .nil
  case step =>
    rintro j u s' hj ⟨H', kA, e, ks, sm, J, rk, dk⟩
    simp only [Nat.zero_add] at dk ⊢
    obtain ⟨x, hx, rx⟩ : ∃ x, xs[j]? = some x ∧ RelV x u := by
      have hjl : j < xs.length := by rw [← hlen]; exact (List.getElem?_eq_some_iff.mp hj).1
      obtain ⟨u', hu', rx⟩ := rv.get (List.getElem?_eq_getElem hjl)
      rw [hj] at hu'
      cases hu'
      exact ⟨_, List.getElem?_eq_getElem hjl, rx⟩
    have hjl : j < xs.length := (List.getElem?_eq_some_iff.mp hx).1
    refine wpAny_bind (wpAny_attempt (wpAny_mono (hcall _ H' s' x u J sm (List.mem_of_getElem? hx) rx) (fun v s'' he => ?_) fun _ _ hF => hF.elim))
    obtain ⟨v', H2, J2, rv', sm2, dv⟩ := he
    dsimp only
    have pD := J2.pin (D, seqObj "list" #[] e1) (List.mem_append_right _ List.mem_cons_self)
    have pS := J2.pin (S, seqObj "list" kA e) (List.mem_append_right _ (List.mem_cons_of_mem _ List.mem_cons_self))
    have J3 : Inv X pins σ H2 s'' := J2.pins_of fun p hp => J2.pin p (List.mem_append_right _ (List.mem_cons_of_mem _ (List.mem_cons_of_mem _ hp)))
    obtain ⟨c2, hc2⟩ : ∃ c2, (s''.heap.update S (Obj.mapSeq (·.push v))).get? S = some (seqObj "list" (kA.push v) c2) := ⟨_, get?_update_seq pS.1 (·.push v)⟩
    have sb := Heap.SameBut.update s''.heap S (Obj.mapSeq (·.push v))
    have lk : kA.size = j := by
      have h1 := Vals.length rk
      have h2 : ks.length = ((xs.take j).map kd).length := dpLen dk
      rw [List.length_map, List.length_take, Nat.min_eq_left (Nat.le_of_lt hjl)] at h2
      have h3 : kA.toList.length = kA.size := Array.length_toList
      rw [← h1, h2] at h3
      exact h3.symm
    refine wpAny_bind (listUpdate_at pS.1 rfl ?_ (by rw [lk]; omega) (by rw [Array.size_push, lk]; omega))
    have J4 : Inv X pins σ H2 { s'' with heap := s''.heap.update S (Obj.mapSeq (·.push v)), toks := s''.toks } :=
      J3.turned (it := S) (fun b o hb eo => (sb.2 b hb).trans eo) pS.2.1 oS.loc (.inr oS.old) oS.cel oS.pin
    refine wpAny_pure ⟨rfl, H2, kA.push v, c2, ks ++ [v'], sm.trans sm2, mkp J4 ((sb.2 D (Ne.symm hSD)).trans pD.1) hc2 pD.2.1 pS.2.1, ?_, ?_⟩
    · rw [Array.toList_push]
      exact rk.append (.cons rv' .nil)
    · rw [List.take_add_one, hx, List.map_append]
      exact dpApp (DpAll.same sm2 _ _ dk) (.cons dv .nil)
  case done =>
    rintro s' ⟨H', kA, e, ks, sm, J, rk, dk⟩
    have dk' : DpAll X.K H' ks (xs.map kd) := by
      rw [Nat.zero_add, hlen, List.take_length] at dk
      exact dk
    have pD := J.pin (D, seqObj "list" #[] e1) (List.mem_append_right _ List.mem_cons_self)
    have pS := J.pin (S, seqObj "list" kA e) (List.mem_append_right _ (List.mem_cons_of_mem _ List.mem_cons_self))
    have J3 : Inv X pins σ H' s' := J.pins_of fun p hp => J.pin p (List.mem_append_right _ (List.mem_cons_of_mem _ (List.mem_cons_of_mem _ hp)))
    have rd : EachIs (fun v k => ∃ as, Reads s'.heap v k as) kA.toList (xs.map kd) := eachReads J3 rk dk'
    have hsz : kA.size = its.length := by
      have h1 := rd.length
      rw [Array.length_toList, List.length_map] at h1
      omega
    obtain ⟨G, g1, g2⟩ := L2.restrict s'.heap fun b => decide (b ≠ S)
    have gk : ∀ b, b ≠ S → G.get? b = s'.heap.get? b := fun b hb => g1 b (decide_eq_true hb)
    have kpG : KeepsBut D G s'.heap := fun b o hb eo => by
      by_cases z : b = S
      · rw [z, g2 S (by simp)] at eo
        cases eo
      · rw [← gk b z]
        exact eo
    (try dsimp only)
    refine wpAny_bind (listItems_at pS.1 rfl ?_)
    refine keyH_end (κ := dataKind s'.heap (xs.map kd)) (h₁ := G) kpG (g2 S (by simp)) pS.1 pD.1 hSD (SortsAt.data (s := s') rd hal hsk (fun d hd => ?_)) hsz (by rw [hlen]; exact hz) fun h' tk c kpD hD => ⟨rfl, ?_⟩
    · obtain ⟨x, hx, rfl⟩ := List.mem_map.mp hd
      have := hdp x hx
      show X.A.units + 1 + 1 + (kd x).depth < cLine
      omega
    · have ko : KeyedOut false (xs.map kd) its (sortVals (dataKind s'.heap (xs.map kd)) false kA.toList its) := ⟨s'.heap, kA.toList, hal, rfl, rd⟩
      have eo := keyedOut_each (R := fun v x => RelV x v) kd ko (eachVals rv)
      have ov : Vals (xs.mergeSort (dataLe false kd)) (sortVals (dataKind s'.heap (xs.map kd)) false kA.toList its) := valsEach eo
      refine ⟨.ref D, upd H' D (.lst (xs.mergeSort (dataLe false kd))), ?_, rfl, hfin H' D sm pD.2.1⟩
      refine track J3 oD oS pD.2.1 pS.2.1 (fun b o h1 h2 eb => kpD b o h1 ((gk b h2).trans eb)) ⟨?_, _, c, ov, hD⟩
      rw [List.length_mergeSort]
      exact hz
/-- sorted(xs, key=x.m): the bound method at q, its def g keeps sp -/
def rSortMet (K : PySem.W.Frag) (g : Addr) (sp : Sp) : List V → List V → Hp → VK → Prop := fun vs zs H Q => ∃ (l q a : Addr) (xs : List V) (kd : V → PyData), vs = [.ref l] ∧ zs = [.ref q] ∧ SqL K H l xs ∧ H q = some (.met g a) ∧
  AllAlike (xs.map kd) ∧ Sortable (xs.map kd) ∧ (∀ x ∈ xs, (kd x).depth ≤ 50) ∧ (∀ H1 x, Same H H1 → x ∈ xs → sp [.ref a, x] H1 (fun v H2 => Same H1 H2 ∧ Dp K H2 v (kd x)) E0) ∧
  ∀ H2 p, Same H H2 → H2 p = none → Q (.ref p) (upd H2 p (.lst (xs.mergeSort (dataLe false kd))))
theorem cr_sortMet {CX : CXT} {k : Nat} {g : Addr} {fd : FuncData} {ps : List Str} {sp : Sp} (F : FnOk X.prog X.w X.K X.mg X.base CX k g fd ps sp) (hr : Room (k + 2) X.A) (hb : Binds X.K fd ps [])
    (hx : ∀ (H : Hp) (s : Shared) (e : Value) (s' : Shared), CX X.stack H s E0 e s' → False) : CallRK X (.builtin "sorted") [Str.ofString "key"] (rSortMet X.K g sp) := by
  intro pins s σ H xs0 zs us ws Q I r1 r2 h
  obtain ⟨l, q, a, xs, kd, rfl, rfl, hS, hq, hal, hsk, hdp, hkey, hfin⟩ := h
  obtain ⟨u1, rfl, e1⟩ := vals1 r1
  obtain ⟨u2, rfl, e2⟩ := vals1 r2
  cases (show u1 = Value.ref l from e1)
  cases (show u2 = Value.ref q from e2)
  refine sorted_key_run I hS hal hsk hdp (by have := hr.un; omega) (fun pins' H1 s1 x u J sm hm rx => ?_) hfin
  have hsp := hkey H1 x sm hm
  have r3 : Vals [V.ref a, x] [Value.ref a, u] := .cons rfl (.cons rx .nil)
  have hl : ([Value.ref a, u] ++ []).length = ps.length := by
    rw [← F.len _ _ _ _ hsp]
    rfl
  refine wpAny_call (call_met J (sm _ _ hq) (codeAny_mono (F.run X.A.in1.in1 X.stack s1 H1 ⟨[.ref a, u], []⟩ _ _ _ E0 (hr.in1).in1 J.env0.in1.in1 (hb s1 [.ref a, u] J.kIn hl) r3 hsp) fun r s' hq' => ?_))
  cases r with
  | error e => exact (hx H1 s1 e s' hq').elim
  | ok fl =>
    cases fl with
    | ret v => exact J.after hq'
    | next => exact False.elim hq'
    | brk => exact False.elim hq'
    | cont => exact False.elim hq'
/-- x.m as a value -/
def tMet (C g : Addr) (m : Str) (ta : TE) : TE := fun σ H Q => ta σ H fun x H1 => ∃ a dx fs, x = .ref a ∧ H1 a = some (.ins C dx fs) ∧ fs.lookup m = none ∧ ∀ q, H1 q = none → Q (.ref q) (upd H1 q (.met g a))
theorem pe_met {C g : Addr} {m : Str} {e : Expr} {pos : Pos} {ta : TE} (he : PE X e ta) (c : Cls X.K C) (k : BMeth X.K C m g) (hab : attributeBase e m X.env (eval e X.env) = eval e X.env := by rfl) : PE X (.Attribute e m pos) (tMet C g m ta) := by
  refine ⟨fun pins s σ H Q I h => ?_⟩
  refine attr_of hab (thn (he.run pins s σ H _ I h) fun u s1 ⟨x, H1, I1, rx, a, dx, fs, ex, ea, hl, q⟩ => ?_)
  subst ex
  exact op_getbound I1 ea c k hl rx q
end
end Wn
/-! systems: what stands in the heap, and its plain picture -/
namespace Wn
open PySem PySem.Spec PyProof.Rows L2 LamX He

/-! ### lists of pairs with whole numbers as keys -/
section
variable {α β : Type}
def lk : List (Int × α) → Int → Option α
  | [], _ => none
  | r :: l, n => if r.1 = n then some r.2 else lk l n
def pt : List (Int × α) → Int → α → List (Int × α)
  | [], n, x => [(n, x)]
  | r :: l, n, x => if r.1 = n then (n, x) :: l else r :: pt l n x
def dr (l : List (Int × α)) (n : Int) : List (Int × α) := l.filter fun r => decide (r.1 ≠ n)
def kv (g : α → V) (l : List (Int × α)) : List (Key × V) := l.map fun r => (Sum.inl r.1, g r.2)
theorem kv_len (g : α → V) (l : List (Int × α)) : (kv g l).length = l.length := List.length_map ..
theorem lk_pos {r : Int × α} {l : List (Int × α)} {n : Int} (e : r.1 = n) : lk (r :: l) n = some r.2 := if_pos e
theorem lk_neg {r : Int × α} {l : List (Int × α)} {n : Int} (e : ¬ r.1 = n) : lk (r :: l) n = lk l n := if_neg e
theorem val_kv (g : α → V) (n : Int) : ∀ l : List (Int × α), valV (kv g l) (Sum.inl n : Key) = (lk l n).map g
  | [] => rfl
  | r :: l => by
    show valV (((Sum.inl r.1 : Key), g r.2) :: kv g l) (Sum.inl n) = _
    by_cases e : r.1 = n
    · rw [valV_pos (show (Sum.inl r.1 : Key) = Sum.inl n by rw [e]), lk_pos e]
      rfl
    · rw [valV_neg (fun z => e (Sum.inl.inj z)), lk_neg e, val_kv g n l]
theorem lk_mem {n : Int} {x : α} : ∀ {l : List (Int × α)}, lk l n = some x → (n, x) ∈ l
  | [], h => nomatch h
  | r :: l, h => by
    by_cases e : r.1 = n
    · rw [lk_pos e] at h
      cases h
      subst e
      exact List.mem_cons_self
    · rw [lk_neg e] at h
      exact List.mem_cons_of_mem _ (lk_mem h)
theorem lk_none {n : Int} : ∀ {l : List (Int × α)}, lk l n = none ↔ n ∉ l.map (·.1)
  | [] => ⟨fun _ => List.not_mem_nil, fun _ => rfl⟩
  | r :: l => by
    by_cases e : r.1 = n
    · rw [lk_pos e]
      exact ⟨fun z => (nomatch z), fun z => (z (by simp [e])).elim⟩
    · rw [lk_neg e, lk_none]
      simp only [List.map_cons, List.mem_cons, not_or]
      exact ⟨fun z => ⟨fun q => e q.symm, z⟩, fun z => z.2⟩
theorem lk_some_of {n : Int} {l : List (Int × α)} (h : n ∈ l.map (·.1)) : ∃ x, lk l n = some x := by
  cases e : lk l n with
  | none => exact absurd h (lk_none.mp e)
  | some x => exact ⟨x, rfl⟩
theorem lk_of_mem {n : Int} {x : α} : ∀ {l : List (Int × α)}, (l.map (·.1)).Nodup → (n, x) ∈ l → lk l n = some x
  | [], _, h => nomatch h
  | r :: l, nd, h => by
    obtain ⟨h1, h2⟩ := List.nodup_cons.mp (show (r.1 :: l.map (·.1)).Nodup from nd)
    rcases List.mem_cons.mp h with z | z
    · subst z
      exact lk_pos rfl
    · rw [lk_neg fun e => h1 (e ▸ List.mem_map.mpr ⟨_, z, rfl⟩)]
      exact lk_of_mem h2 z
theorem put_kv (g : α → V) (n : Int) (x : α) {l : List (Int × α)} (h : lk l n = none) : putK (kv g l) (Sum.inl n : Key) (g x) = kv g (l ++ [(n, x)]) := by
  rw [putK_new _ (by rw [val_kv, h]; rfl)]
  unfold kv
  rw [List.map_append]
  rfl
theorem drop_kv (g : α → V) (n : Int) (l : List (Int × α)) : dropK (kv g l) (Sum.inl n : Key) = kv g (dr l n) := by
  unfold dropK kv dr
  rw [List.filter_map]
  congr 1
  refine List.filter_congr fun r _ => ?_
  refine decide_eq_decide.mpr ?_
  exact ⟨fun h z => h (congrArg Sum.inl z), fun h z => h (Sum.inl.inj z)⟩
theorem lk_app {n : Int} {l m : List (Int × α)} : lk (l ++ m) n = (lk l n).or (lk m n) := by
  induction l with
  | nil => rfl
  | cons r l ih =>
    show lk (r :: (l ++ m)) n = _
    by_cases e : r.1 = n
    · rw [lk_pos e, lk_pos e]
      rfl
    · rw [lk_neg e, lk_neg e, ih]
theorem lk_dr {n k : Int} (l : List (Int × α)) : lk (dr l n) k = if k = n then none else lk l k := by
  induction l with
  | nil =>
    unfold dr
    split <;> rfl
  | cons r l ih =>
    unfold dr at ih ⊢
    rw [List.filter_cons]
    by_cases e : r.1 = n
    · rw [if_neg (by simp [e]), ih]
      by_cases q : k = n
      · rw [if_pos q, if_pos q]
      · rw [if_neg q, if_neg q, lk_neg (fun z => q (z.symm.trans e))]
    · rw [if_pos (by simp [e])]
      by_cases q : r.1 = k
      · rw [lk_pos q, if_neg (fun z => e (q.trans z)), lk_pos q]
      · rw [lk_neg q, ih, lk_neg q]
end

/-! ### what stands in the heap -/
structure En where
  ad : Addr
  dx : Addr
  num : Int
  ser : Int
  lab : Int
  wrd : Str
  arm : Bool
inductive Tg where
  | src (dx : Addr) (u : Int) (f : Bool)
  | set (dx L R : Addr) (es : List En) (row : List Int)
structure Th where
  ad : Addr
  tg : Tg
structure Tb where
  ad : Addr
  rows : List (Int × Int)
structure Sy where
  p : Addr
  dx : Addr
  T : Addr
  G : Addr
  P : Int
  N : Int
  made : Int
  tabs : List (Int × Tb)
  ths : List (Int × Th)
def sysF (P N : Int) (T G : Addr) (m : Int) : List (Str × V) := [("process_limit", .int P), ("number_limit", .int N), ("tables", .ref T), ("things", .ref G), ("serials_made", .int m)]
def srcF (u : Int) (f : Bool) : List (Str × V) := [("unread", .int u), ("finished", .bl f)]
def setF (L R : Addr) : List (Str × V) := [("entries", .ref L), ("row", .ref R)]
def entF (e : En) : List (Str × V) := [("number", .int e.num), ("serial", .int e.ser), ("label", .int e.lab), ("word", .str e.wrd), ("armed", .bl e.arm)]
def tbV (t : Tb) : V := .ref t.ad
def thV (t : Th) : V := .ref t.ad
def TgAt (K : PySem.W.Frag) (H : Hp) (a : Addr) : Tg → Prop
  | .src dx u f => H a = some (.ins (ga K "Source") dx (srcF u f))
  | .set dx L R es row => H a = some (.ins (ga K "WaitSet") dx (setF L R)) ∧ H L = some (.lst (es.map fun e => .ref e.ad)) ∧ H R = some (.lst (row.map V.int)) ∧ ∀ e ∈ es, H e.ad = some (.ins (ga K "Entry") e.dx (entF e))
/-- the lists and the registrations of a thing -/
def Tg.lsts : Tg → List Addr
  | .src _ _ _ => []
  | .set _ L R _ _ => [L, R]
def Tg.ents : Tg → List Addr
  | .src _ _ _ => []
  | .set _ _ _ es _ => es.map (·.ad)
def Sy.dcs (s : Sy) : List Addr := s.T :: s.G :: s.tabs.map (·.2.ad)
def Sy.ths' (s : Sy) : List Addr := s.ths.map (·.2.ad)
def Sy.lsts (s : Sy) : List Addr := s.ths.flatMap (·.2.tg.lsts)
def Sy.ents (s : Sy) : List Addr := s.ths.flatMap (·.2.tg.ents)
/-- all that a system owns -/
def Sy.foot (s : Sy) : List Addr := s.p :: (s.dcs ++ (s.ths' ++ (s.lsts ++ s.ents)))
structure SyAt (K : PySem.W.Frag) (H : Hp) (s : Sy) : Prop where
  ob : H s.p = some (.ins (ga K "System") s.dx (sysF s.P s.N s.T s.G s.made))
  tb : H s.T = some (.dK (kv tbV s.tabs))
  tt : ∀ t ∈ s.tabs, H t.2.ad = some (.dK (kv V.int t.2.rows))
  gb : H s.G = some (.dK (kv thV s.ths))
  gt : ∀ t ∈ s.ths, TgAt K H t.2.ad t.2.tg
  nd : s.dcs.Nodup
  nt : s.ths'.Nodup
  nl : s.lsts.Nodup
  ne : s.ents.Nodup
/-! ### the plain picture -/
structure Ev where
  num : Int
  ser : Int
  lab : Int
  wrd : Str
  arm : Bool
  deriving DecidableEq
inductive Tv where
  | src (u : Int) (f : Bool)
  | set (es : List Ev) (row : List Int)
  deriving DecidableEq
structure Sv where
  P : Int
  N : Int
  made : Int
  tabs : List (Int × List (Int × Int))
  ths : List (Int × Tv)
def En.v (e : En) : Ev := ⟨e.num, e.ser, e.lab, e.wrd, e.arm⟩
def Tg.v : Tg → Tv
  | .src _ u f => .src u f
  | .set _ _ _ es row => .set (es.map En.v) row
def Sy.v (s : Sy) : Sv := ⟨s.P, s.N, s.made, s.tabs.map fun t => (t.1, t.2.rows), s.ths.map fun t => (t.1, t.2.tg.v)⟩
/-- behind a call: what is not the system's stands, what is the system's was or is new -/
structure Fr' (s s' : Sy) (H H' : Hp) : Prop where
  keep : ∀ b o, H b = some o → b ∉ s.foot → H' b = some o
  foot : ∀ b ∈ s'.foot, b ∈ s.foot ∨ H b = none
  same : s'.p = s.p
theorem Fr'.refl (s : Sy) (H : Hp) : Fr' s s H H := ⟨fun _ _ e _ => e, fun _ h => .inl h, rfl⟩
theorem Fr'.more {s s' : Sy} {H H' H'' : Hp} (f : Fr' s s' H H') (e : Same H' H'') : Fr' s s' H H'' := ⟨fun b o h n => e _ _ (f.keep b o h n), f.foot, f.same⟩
theorem Fr'.out {s s' : Sy} {H H' : Hp} (f : Fr' s s' H H') {b : Addr} {o : HO} (h : H b = some o) (n : b ∉ s.foot) : b ∉ s'.foot := fun m => by
  rcases f.foot b m with z | z
  · exact n z
  · rw [h] at z
    cases z
theorem Fr'.trans {s s1 s2 : Sy} {H H1 H2 : Hp} (f : Fr' s s1 H H1) (g : Fr' s1 s2 H1 H2) : Fr' s s2 H H2 := by
  refine ⟨fun b o h n => g.keep b o (f.keep b o h n) (f.out h n), fun b m => ?_, g.same.trans f.same⟩
  rcases g.foot b m with z | z
  · exact f.foot b z
  · by_cases n : b ∈ s.foot
    · exact .inl n
    · cases e : H b with
      | none => exact .inr rfl
      | some o =>
        rw [f.keep b o e n] at z
        cases z
theorem SyAt.same {K : PySem.W.Frag} {H H' : Hp} {s : Sy} (S : SyAt K H s) (e : ∀ b o, H b = some o → b ∈ s.foot → H' b = some o) : SyAt K H' s := by
  have fT : ∀ {b}, b ∈ s.dcs → b ∈ s.foot := fun h => List.mem_cons_of_mem _ (List.mem_append_left _ h)
  have fH : ∀ {b}, b ∈ s.ths' → b ∈ s.foot := fun h => List.mem_cons_of_mem _ (List.mem_append_right _ (List.mem_append_left _ h))
  have fL : ∀ {b}, b ∈ s.lsts → b ∈ s.foot := fun h => List.mem_cons_of_mem _ (List.mem_append_right _ (List.mem_append_right _ (List.mem_append_left _ h)))
  have fE : ∀ {b}, b ∈ s.ents → b ∈ s.foot := fun h => List.mem_cons_of_mem _ (List.mem_append_right _ (List.mem_append_right _ (List.mem_append_right _ h)))
  refine ⟨e _ _ S.ob List.mem_cons_self, e _ _ S.tb (fT List.mem_cons_self), fun t h => e _ _ (S.tt t h) (fT (List.mem_cons_of_mem _ (List.mem_cons_of_mem _ (List.mem_map.mpr ⟨t, h, rfl⟩)))), e _ _ S.gb (fT (List.mem_cons_of_mem _ List.mem_cons_self)),
    fun t h => ?_, S.nd, S.nt, S.nl, S.ne⟩
  have ha : t.2.ad ∈ s.foot := fH (List.mem_map.mpr ⟨t, h, rfl⟩)
  have q := S.gt t h
  cases ht : t.2.tg with
  | src dx u f =>
    rw [ht] at q
    exact e _ _ q ha
  | set dx L R es row =>
    rw [ht] at q
    obtain ⟨q1, q2, q3, q4⟩ := q
    have mL : ∀ b ∈ [L, R], b ∈ s.foot := fun b hb => fL (List.mem_flatMap.mpr ⟨t, h, by rw [ht]; exact hb⟩)
    exact ⟨e _ _ q1 ha, e _ _ q2 (mL L (by simp)), e _ _ q3 (mL R (by simp)), fun x hx => e _ _ (q4 x hx) (fE (List.mem_flatMap.mpr ⟨t, h, by rw [ht]; exact List.mem_map.mpr ⟨x, hx, rfl⟩⟩))⟩
theorem SyAt.ext {K : PySem.W.Frag} {H H' : Hp} {s : Sy} (S : SyAt K H s) (e : Same H H') : SyAt K H' s := S.same fun b o h _ => e b o h
end Wn
/-! plain facts of systems -/
namespace Wn
open PySem PySem.Spec PyProof.Rows L2 LamX He

/-! ### sorted lists of whole numbers -/
def srtI (l : List Int) : List Int := l.mergeSort fun a b => decide (a ≤ b)
theorem perm_eq : ∀ {l m : List Int}, l.Perm m → l.Pairwise (· ≤ ·) → m.Pairwise (· ≤ ·) → l = m
  | [], m, h, _, _ => by
    have := h.length_eq
    cases m with
    | nil => rfl
    | cons a m => cases this
  | a :: l, [], h, _, _ => by
    have := h.length_eq
    cases this
  | a :: l, b :: m, h, h1, h2 => by
    obtain ⟨a1, a2⟩ := List.pairwise_cons.mp h1
    obtain ⟨b1, b2⟩ := List.pairwise_cons.mp h2
    have ab : a = b := by
      have x1 : a ∈ b :: m := h.subset List.mem_cons_self
      have x2 : b ∈ a :: l := h.symm.subset List.mem_cons_self
      rcases List.mem_cons.mp x1 with z | z
      · exact z
      · rcases List.mem_cons.mp x2 with y | y
        · exact y.symm
        · exact Int.le_antisymm (a1 b y) (b1 a z)
    subst ab
    rw [perm_eq (List.Perm.cons_inv h) a2 b2]
theorem srtI_perm (l : List Int) : (srtI l).Perm l := List.mergeSort_perm _ _
theorem srtI_pw (l : List Int) : (srtI l).Pairwise (· ≤ ·) := by
  have h := List.pairwise_mergeSort (le := fun a b : Int => decide (a ≤ b)) (fun a b c h1 h2 => decide_eq_true (Int.le_trans (of_decide_eq_true h1) (of_decide_eq_true h2))) (fun a b => by
    rcases Int.le_total a b with h | h
    · simp [h]
    · simp [h]) l
  exact h.imp fun z => of_decide_eq_true z
theorem srtI_eq {l m : List Int} (h : m.Perm l) (hs : m.Pairwise (· ≤ ·)) : m = srtI l := perm_eq (h.trans (srtI_perm l).symm) hs (srtI_pw l)
theorem srtI_mem {l : List Int} {x : Int} : x ∈ srtI l ↔ x ∈ l := (srtI_perm l).mem_iff
theorem srtI_len (l : List Int) : (srtI l).length = l.length := (srtI_perm l).length_eq
/-- numbers below n, none twice, are at most n -/
theorem few : ∀ (n : Nat) {l : List Int}, l.Nodup → (∀ x ∈ l, 0 ≤ x ∧ x < (n : Int)) → l.length ≤ n
  | 0, l, _, h => by
    cases l with
    | nil => exact Nat.le_refl _
    | cons a l =>
      have := h a List.mem_cons_self
      omega
  | n + 1, l, nd, h => by
    have h1 := few n (l := l.filter fun x => decide (x ≠ (n : Int))) (nd.filter _) (fun x hx => by
      obtain ⟨h1, h2⟩ := List.mem_filter.mp hx
      have h3 := h x h1
      have h4 : x ≠ (n : Int) := of_decide_eq_true h2
      omega)
    have h2 : l.length ≤ (l.filter fun x => decide (x ≠ (n : Int))).length + 1 := by
      clear h h1
      induction l with
      | nil => exact Nat.zero_le _
      | cons a l ih =>
        obtain ⟨n1, n2⟩ := List.nodup_cons.mp nd
        by_cases e : a = (n : Int)
        · have : l.filter (fun x => decide (x ≠ (n : Int))) = l := List.filter_eq_self.mpr fun x hx => decide_eq_true fun z => n1 (by rw [e, ← z]; exact hx)
          rw [List.filter_cons, if_neg (by simp [e]), this]
          exact Nat.le_refl _
        · rw [List.filter_cons, if_pos (by simp [e])]
          have := ih n2
          simp only [List.length_cons]
          omega
    omega

/-! ### well formed systems -/
def SetOk (v : Sv) (es : List Ev) (row : List Int) : Prop :=
  (es.map (·.lab)).Nodup ∧ (es.map fun e => (e.num, e.ser)).Nodup ∧ row.Nodup ∧ (∀ x ∈ row, ∃ e ∈ es, e.lab = x ∧ e.arm = true) ∧ (∀ e ∈ es, ∃ u f, lk v.ths e.ser = some (.src u f)) ∧ es.length ≤ mostE
theorem mostE_le : mostE ≤ 1000000 := by decide
/-- what is known of the class of registrations -/
structure EntF (K : PySem.W.Frag) : Prop where
  c : Cls K (ga K "Entry")
  number : NoAttr K (ga K "Entry") "number"
  serial : NoAttr K (ga K "Entry") "serial"
  label : NoAttr K (ga K "Entry") "label"
  word : NoAttr K (ga K "Entry") "word"
  armed : NoAttr K (ga K "Entry") "armed"
structure WF (v : Sv) : Prop where
  p : 2 ≤ v.P ∧ v.P ≤ 6
  n : 3 ≤ v.N ∧ v.N ≤ 8
  ndp : (v.tabs.map (·.1)).Nodup
  rp : ∀ t ∈ v.tabs, 0 ≤ t.1 ∧ t.1 < v.P
  ndn : ∀ t ∈ v.tabs, (t.2.map (·.1)).Nodup
  rn : ∀ t ∈ v.tabs, ∀ r ∈ t.2, 0 ≤ r.1 ∧ r.1 < v.N
  th : ∀ t ∈ v.tabs, ∀ r ∈ t.2, r.2 ∈ v.ths.map (·.1)
  nds : (v.ths.map (·.1)).Nodup
  rs : ∀ t ∈ v.ths, 0 ≤ t.1 ∧ t.1 < v.made
  held : ∀ t ∈ v.ths, ∃ u ∈ v.tabs, ∃ r ∈ u.2, r.2 = t.1
  ok : ∀ t ∈ v.ths, ∀ es row, t.2 = .set es row → SetOk v es row
/-- what the tables and serials alone say -/
structure WF0 (v : Sv) : Prop where
  p : 2 ≤ v.P ∧ v.P ≤ 6
  n : 3 ≤ v.N ∧ v.N ≤ 8
  ndp : (v.tabs.map (·.1)).Nodup
  rp : ∀ t ∈ v.tabs, 0 ≤ t.1 ∧ t.1 < v.P
  ndn : ∀ t ∈ v.tabs, (t.2.map (·.1)).Nodup
  rn : ∀ t ∈ v.tabs, ∀ r ∈ t.2, 0 ≤ r.1 ∧ r.1 < v.N
  nds : (v.ths.map (·.1)).Nodup
  rs : ∀ t ∈ v.ths, 0 ≤ t.1 ∧ t.1 < v.made
theorem WF.w0 {v : Sv} (h : WF v) : WF0 v := ⟨h.p, h.n, h.ndp, h.rp, h.ndn, h.rn, h.nds, h.rs⟩
theorem WF0.tabs6 {v : Sv} (h : WF0 v) : v.tabs.length ≤ 6 := by
  have h1 := few v.P.toNat (l := v.tabs.map (·.1)) h.ndp (fun x hx => by
    obtain ⟨t, ht, rfl⟩ := List.mem_map.mp hx
    have := h.rp t ht
    omega)
  rw [List.length_map] at h1
  have := h.p
  omega
theorem WF0.rows8 {v : Sv} (h : WF0 v) {t : Int × List (Int × Int)} (ht : t ∈ v.tabs) : t.2.length ≤ 8 := by
  have h1 := few v.N.toNat (l := t.2.map (·.1)) (h.ndn t ht) (fun x hx => by
    obtain ⟨r, hr, rfl⟩ := List.mem_map.mp hx
    have := h.rn t ht r hr
    omega)
  rw [List.length_map] at h1
  have := h.n
  omega
theorem WF0.thsM {v : Sv} (h : WF0 v) : v.ths.length ≤ v.made.toNat := by
  have h1 := few v.made.toNat (l := v.ths.map (·.1)) h.nds (fun x hx => by
    obtain ⟨t, ht, rfl⟩ := List.mem_map.mp hx
    have := h.rs t ht
    omega)
  rw [List.length_map] at h1
  exact h1
theorem WF.tabs6 {v : Sv} (h : WF v) : v.tabs.length ≤ 6 := h.w0.tabs6
theorem WF.rows8 {v : Sv} (h : WF v) {t : Int × List (Int × Int)} (ht : t ∈ v.tabs) : t.2.length ≤ 8 := h.w0.rows8 ht
theorem WF.thsM {v : Sv} (h : WF v) : v.ths.length ≤ v.made.toNat := h.w0.thsM
theorem WF.new {P N : Int} (h1 : 2 ≤ P ∧ P ≤ 6) (h2 : 3 ≤ N ∧ N ≤ 8) : WF ⟨P, N, 0, [(0, [])], []⟩ where
  p := h1
  n := h2
  ndp := by simp
  rp := fun t ht => by
    cases List.mem_singleton.mp ht
    show (0 : Int) ≤ 0 ∧ (0 : Int) < P
    omega
  ndn := fun t ht => by
    cases List.mem_singleton.mp ht
    exact List.nodup_nil
  rn := fun t ht r hr => by
    cases List.mem_singleton.mp ht
    cases hr
  th := fun t ht r hr => by
    cases List.mem_singleton.mp ht
    cases hr
  nds := List.nodup_nil
  rs := fun t ht => nomatch ht
  held := fun t ht => nomatch ht
  ok := fun t ht => nomatch ht
/-- the picture of the tables and of the things -/
theorem lk_map {α β : Type} (f : α → β) (n : Int) : ∀ l : List (Int × α), lk (l.map fun r => (r.1, f r.2)) n = (lk l n).map f
  | [] => rfl
  | r :: l => by
    show lk ((r.1, f r.2) :: l.map fun r => (r.1, f r.2)) n = _
    by_cases e : r.1 = n
    · rw [lk_pos (r := (r.1, f r.2)) e, lk_pos e]
      rfl
    · rw [lk_neg (r := (r.1, f r.2)) e, lk_neg e, lk_map f n l]
theorem Sy.tabs_v (s : Sy) (n : Int) : lk s.v.tabs n = (lk s.tabs n).map (·.rows) := lk_map (fun t : Tb => t.rows) n s.tabs
theorem Sy.ths_v (s : Sy) (n : Int) : lk s.v.ths n = (lk s.ths n).map (·.tg.v) := lk_map (fun t : Th => t.tg.v) n s.ths
theorem Sy.pids (s : Sy) : s.v.tabs.map (·.1) = s.tabs.map (·.1) := by
  show (s.tabs.map fun t => (t.1, t.2.rows)).map (·.1) = _
  rw [List.map_map]
  rfl
theorem Sy.sers (s : Sy) : s.v.ths.map (·.1) = s.ths.map (·.1) := by
  show (s.ths.map fun t => (t.1, t.2.tg.v)).map (·.1) = _
  rw [List.map_map]
  rfl
/-- the lowest free number -/
def lowFree (used : List Int) (n : Int) : Option Int := ((List.range n.toNat).map fun (k : Nat) => (k : Int)).find? fun k => decide (k ∉ used)
/-- the numbers that mean a thing -/
def holdsIn (ser p : Int) (rows : List (Int × Int)) : List (Int × Int) := ((srtI (rows.map (·.1))).filter fun n => decide (lk rows n = some ser)).map fun n => (p, n)
def holds (tabs : List (Int × List (Int × Int))) (ser : Int) : List (Int × Int) := (srtI (tabs.map (·.1))).flatMap fun p => match lk tabs p with
  | none => []
  | some rows => holdsIn ser p rows
end Wn
namespace Wn
open PySem PySem.Spec PyProof.Rows L2 LamX He
/-! ### things are placed -/
section
variable {α β : Type}
def upAt (l : List (Int × α)) (i : Int) (f : α → α) : List (Int × α) := l.map fun t => if t.1 = i then (t.1, f t.2) else t
theorem upAt_keys (l : List (Int × α)) (i : Int) (f : α → α) : (upAt l i f).map (·.1) = l.map (·.1) := by
  unfold upAt
  rw [List.map_map]
  refine List.map_congr_left fun t _ => ?_
  show (if t.1 = i then (t.1, f t.2) else t).1 = t.1
  split <;> rfl
theorem upAt_mem {l : List (Int × α)} {i : Int} {f : α → α} {t : Int × α} (h : t ∈ upAt l i f) : (t.1 ≠ i ∧ t ∈ l) ∨ ∃ x, (i, x) ∈ l ∧ t = (i, f x) := by
  obtain ⟨u, hu, rfl⟩ := List.mem_map.mp h
  by_cases e : u.1 = i
  · right
    refine ⟨u.2, ?_, ?_⟩
    · rw [← e]; exact hu
    · rw [if_pos e, e]
  · left
    rw [if_neg e]
    exact ⟨e, hu⟩
theorem upAt_lk (l : List (Int × α)) (i n : Int) (f : α → α) : lk (upAt l i f) n = if n = i then (lk l n).map f else lk l n := by
  induction l with
  | nil =>
    show none = _
    split <;> rfl
  | cons r l ih =>
    show lk ((if r.1 = i then (r.1, f r.2) else r) :: upAt l i f) n = _
    by_cases e : r.1 = n
    · by_cases q : r.1 = i
      · rw [if_pos q, lk_pos (r := (r.1, f r.2)) e, lk_pos e, if_pos (e ▸ q)]
        rfl
      · rw [if_neg q, lk_pos e, lk_pos e, if_neg (fun z => q (e.trans z))]
    · rw [lk_neg (r := if r.1 = i then (r.1, f r.2) else r) (by split <;> exact e), ih, lk_neg e]
theorem upAt_map (g : α → β) (f : α → α) (f' : β → β) (h : ∀ x, g (f x) = f' (g x)) (l : List (Int × α)) (i : Int) : (upAt l i f).map (fun t => (t.1, g t.2)) = upAt (l.map fun t => (t.1, g t.2)) i f' := by
  unfold upAt
  rw [List.map_map, List.map_map]
  refine List.map_congr_left fun t _ => ?_
  show ((if t.1 = i then (t.1, f t.2) else t).1, g (if t.1 = i then (t.1, f t.2) else t).2) = if t.1 = i then (t.1, f' (g t.2)) else (t.1, g t.2)
  split
  · rw [h]
  · rfl
theorem upAt_kv (g : α → V) (f : α → α) (h : ∀ x, g (f x) = g x) (l : List (Int × α)) (i : Int) : kv g (upAt l i f) = kv g l := by
  unfold upAt kv
  rw [List.map_map]
  refine List.map_congr_left fun t _ => ?_
  show (Sum.inl (if t.1 = i then (t.1, f t.2) else t).1, g (if t.1 = i then (t.1, f t.2) else t).2) = ((Sum.inl t.1 : Key), g t.2)
  split
  · rw [h]
  · rfl
end
/-- the rows of one table are changed -/
def Tb.fn (f : List (Int × Int) → List (Int × Int)) (t : Tb) : Tb := ⟨t.ad, f t.rows⟩
theorem Sy.in_dcs {s : Sy} {b : Addr} (h : b ∈ s.dcs) : b ∈ s.foot := List.mem_cons_of_mem _ (List.mem_append_left _ h)
theorem Sy.in_ths {s : Sy} {b : Addr} (h : b ∈ s.ths') : b ∈ s.foot := List.mem_cons_of_mem _ (List.mem_append_right _ (List.mem_append_left _ h))
theorem Sy.in_lsts {s : Sy} {b : Addr} (h : b ∈ s.lsts) : b ∈ s.foot := List.mem_cons_of_mem _ (List.mem_append_right _ (List.mem_append_right _ (List.mem_append_left _ h)))
theorem Sy.in_ents {s : Sy} {b : Addr} (h : b ∈ s.ents) : b ∈ s.foot := List.mem_cons_of_mem _ (List.mem_append_right _ (List.mem_append_right _ (List.mem_append_right _ h)))
theorem Sy.foot_cases {s : Sy} {b : Addr} (h : b ∈ s.foot) : b = s.p ∨ b ∈ s.dcs ∨ b ∈ s.ths' ∨ b ∈ s.lsts ∨ b ∈ s.ents := by
  rcases List.mem_cons.mp h with h | h
  · exact .inl h
  · rcases List.mem_append.mp h with h | h
    · exact .inr (.inl h)
    · rcases List.mem_append.mp h with h | h
      · exact .inr (.inr (.inl h))
      · rcases List.mem_append.mp h with h | h
        · exact .inr (.inr (.inr (.inl h)))
        · exact .inr (.inr (.inr (.inr h)))
section
variable {K : PySem.W.Frag} {H : Hp} {s : Sy}
theorem SyAt.dc (S : SyAt K H s) {b : Addr} (h : b ∈ s.dcs) : ∃ kvs, H b = some (.dK kvs) := by
  rcases List.mem_cons.mp h with z | z
  · exact ⟨_, z ▸ S.tb⟩
  · rcases List.mem_cons.mp z with z | z
    · exact ⟨_, z ▸ S.gb⟩
    · obtain ⟨t, ht, rfl⟩ := List.mem_map.mp z
      exact ⟨_, S.tt t ht⟩
theorem SyAt.th' (S : SyAt K H s) {b : Addr} (h : b ∈ s.ths') : ∃ C dx fs, fs.lookup ("tables" : Str) = none ∧ fs.lookup ("label" : Str) = none ∧ H b = some (.ins C dx fs) := by
  obtain ⟨t, ht, rfl⟩ := List.mem_map.mp h
  have q := S.gt t ht
  cases e : t.2.tg with
  | src dx u f =>
    rw [e] at q
    exact ⟨_, _, _, rfl, rfl, q⟩
  | set dx L R es row =>
    rw [e] at q
    exact ⟨_, _, _, rfl, rfl, q.1⟩
theorem SyAt.ls (S : SyAt K H s) {b : Addr} (h : b ∈ s.lsts) : ∃ xs, H b = some (.lst xs) := by
  obtain ⟨t, ht, hb⟩ := List.mem_flatMap.mp h
  have q := S.gt t ht
  cases e : t.2.tg with
  | src dx u f =>
    rw [e] at hb
    cases hb
  | set dx L R es row =>
    rw [e] at q hb
    rcases List.mem_cons.mp hb with z | z
    · exact ⟨_, z ▸ q.2.1⟩
    · cases List.mem_singleton.mp z
      exact ⟨_, q.2.2.1⟩
theorem SyAt.en (S : SyAt K H s) {b : Addr} (h : b ∈ s.ents) : ∃ dx fs, fs.lookup ("tables" : Str) = none ∧ (fs.lookup ("label" : Str)).isSome = true ∧ H b = some (.ins (ga K "Entry") dx fs) := by
  obtain ⟨t, ht, hb⟩ := List.mem_flatMap.mp h
  have q := S.gt t ht
  cases e : t.2.tg with
  | src dx u f =>
    rw [e] at hb
    cases hb
  | set dx L R es row =>
    rw [e] at q hb
    obtain ⟨x, hx, rfl⟩ := List.mem_map.mp hb
    exact ⟨_, _, rfl, rfl, q.2.2.2 x hx⟩
theorem SyAt.some_of (S : SyAt K H s) {b : Addr} (h : b ∈ s.foot) : ∃ o, H b = some o := by
  rcases Sy.foot_cases h with z | z | z | z | z
  · exact ⟨_, z ▸ S.ob⟩
  · obtain ⟨_, q⟩ := S.dc z
    exact ⟨_, q⟩
  · obtain ⟨_, _, _, _, _, q⟩ := S.th' z
    exact ⟨_, q⟩
  · obtain ⟨_, q⟩ := S.ls z
    exact ⟨_, q⟩
  · obtain ⟨_, _, _, _, q⟩ := S.en z
    exact ⟨_, q⟩
/-- a table's rows are changed -/
theorem SyAt.rows (S : SyAt K H s) {i : Int} {t : Tb} {f : List (Int × Int) → List (Int × Int)} (hl : lk s.tabs i = some t) (nd : (s.tabs.map (·.1)).Nodup) :
    SyAt K (upd H t.ad (.dK (kv V.int (f t.rows)))) { s with tabs := upAt s.tabs i (Tb.fn f) } := by
  have hm := lk_mem hl
  have ht := S.tt _ hm
  have np : s.p ≠ t.ad := ne_of S.ob ht (fun z => nomatch z)
  obtain ⟨d1, d2⟩ := List.nodup_cons.mp S.nd
  obtain ⟨d3, d4⟩ := List.nodup_cons.mp d2
  have mA : t.ad ∈ s.tabs.map (·.2.ad) := List.mem_map.mpr ⟨_, hm, rfl⟩
  have nT : s.T ≠ t.ad := fun z => d1 (z ▸ List.mem_cons_of_mem _ mA)
  have nG : s.G ≠ t.ad := fun z => d3 (z ▸ mA)
  have ads : (upAt s.tabs i (Tb.fn f)).map (·.2.ad) = s.tabs.map (·.2.ad) := by
    unfold upAt
    rw [List.map_map]
    refine List.map_congr_left fun u _ => ?_
    show (if u.1 = i then (u.1, Tb.fn f u.2) else u).2.ad = u.2.ad
    split <;> rfl
  refine ⟨by rw [upd_ne np]; exact S.ob, ?_, fun u hu => ?_, by rw [upd_ne nG]; exact S.gb, fun u hu => ?_, ?_, S.nt, S.nl, S.ne⟩
  · rw [upd_ne nT]
    show H s.T = some (.dK (kv tbV (upAt s.tabs i (Tb.fn f))))
    rw [upAt_kv tbV (Tb.fn f) (fun _ => rfl)]
    exact S.tb
  · rcases upAt_mem hu with ⟨ni, hm'⟩ | ⟨x, hx, rfl⟩
    · have na : u.2.ad ≠ t.ad := fun z => by
        have e1 : u = (i, t) := inj_of_nodup d4 hm' hm z
        exact ni (by rw [e1])
      rw [upd_ne na]
      exact S.tt u hm'
    · have e : x = t := by
        have := lk_of_mem nd hx
        rw [hl] at this
        exact (Option.some.inj this).symm
      subst e
      exact upd_same
  · have q := S.gt u hu
    have hk : ∀ {b : Addr} {o : HO}, H b = some o → (∀ kvs, o ≠ .dK kvs) → upd H t.ad (.dK (kv V.int (f t.rows))) b = some o := fun {b o} e ne => by
      rw [upd_ne (ne_of e ht (ne _))]
      exact e
    cases e : u.2.tg with
    | src dx v fi =>
      rw [e] at q
      exact hk q fun _ z => nomatch z
    | set dx L R es row =>
      rw [e] at q
      exact ⟨hk q.1 fun _ z => (nomatch z), hk q.2.1 fun _ z => (nomatch z), hk q.2.2.1 fun _ z => (nomatch z), fun x hx => hk (q.2.2.2 x hx) fun _ z => (nomatch z)⟩
  · show (s.T :: s.G :: (upAt s.tabs i (Tb.fn f)).map (·.2.ad)).Nodup
    rw [ads]
    exact S.nd
where
  inj_of_nodup {l : List (Int × Tb)} (nd : (l.map (·.2.ad)).Nodup) {x y : Int × Tb} (hx : x ∈ l) (hy : y ∈ l) (e : x.2.ad = y.2.ad) : x = y := by
    induction l with
    | nil => cases hx
    | cons a l ih =>
      obtain ⟨n1, n2⟩ := List.nodup_cons.mp (show (a.2.ad :: l.map (·.2.ad)).Nodup from nd)
      rcases List.mem_cons.mp hx with zx | zx
      · rcases List.mem_cons.mp hy with zy | zy
        · rw [zx, zy]
        · subst zx
          exact (n1 (e ▸ List.mem_map.mpr ⟨_, zy, rfl⟩)).elim
      · rcases List.mem_cons.mp hy with zy | zy
        · subst zy
          exact (n1 (e ▸ List.mem_map.mpr ⟨_, zx, rfl⟩)).elim
        · exact ih n2 zx zy
end

section
variable {K : PySem.W.Frag} {H : Hp} {s : Sy}
/-- what the object at a is not: a change there keeps the things -/
theorem TgAt.keep {a b : Addr} {o : HO} {tg : Tg} (h : TgAt K H a tg) (ha : a ≠ b) (hl : ∀ x ∈ tg.lsts, x ≠ b) (he : ∀ x ∈ tg.ents, x ≠ b) : TgAt K (upd H b o) a tg := by
  cases tg with
  | src dx u f =>
    show upd H b o a = _
    rw [upd_ne ha]
    exact h
  | set dx L R es row =>
    obtain ⟨q1, q2, q3, q4⟩ := h
    refine ⟨by rw [upd_ne ha]; exact q1, by rw [upd_ne (hl L (by simp [Tg.lsts]))]; exact q2, by rw [upd_ne (hl R (by simp [Tg.lsts]))]; exact q3, fun e h => ?_⟩
    rw [upd_ne (he e.ad (List.mem_map.mpr ⟨e, h, rfl⟩))]
    exact q4 e h
/-- the parts of a system stand apart -/
theorem ins_ne {C C' dx dx' : Addr} {fs fs' : List (Str × V)} (f : Str) (h : fs.lookup f ≠ fs'.lookup f) : HO.ins C dx fs ≠ HO.ins C' dx' fs' := fun z => by
  cases z
  exact h rfl
theorem SyAt.np (S : SyAt K H s) {b : Addr} (h : b ∈ s.dcs ∨ b ∈ s.ths' ∨ b ∈ s.lsts ∨ b ∈ s.ents) : b ≠ s.p := by
  rcases h with z | z | z | z
  · obtain ⟨_, q⟩ := S.dc z
    exact ne_of q S.ob fun z => nomatch z
  · obtain ⟨_, _, _, e, _, q⟩ := S.th' z
    exact ne_of q S.ob (ins_ne "tables" (by rw [e]; exact fun z => nomatch z))
  · obtain ⟨_, q⟩ := S.ls z
    exact ne_of q S.ob fun z => nomatch z
  · obtain ⟨_, _, e, _, q⟩ := S.en z
    exact ne_of q S.ob (ins_ne "tables" (by rw [e]; exact fun z => nomatch z))
theorem Sy.th_in {s : Sy} {t : Int × Th} (h : t ∈ s.ths) : t.2.ad ∈ s.ths' := List.mem_map.mpr ⟨t, h, rfl⟩
theorem Sy.ls_in {s : Sy} {t : Int × Th} (h : t ∈ s.ths) {x : Addr} (hx : x ∈ t.2.tg.lsts) : x ∈ s.lsts := List.mem_flatMap.mpr ⟨t, h, hx⟩
theorem Sy.en_in {s : Sy} {t : Int × Th} (h : t ∈ s.ths) {x : Addr} (hx : x ∈ t.2.tg.ents) : x ∈ s.ents := List.mem_flatMap.mpr ⟨t, h, hx⟩
theorem SyAt.dc_th (S : SyAt K H s) {a b : Addr} (ha : a ∈ s.dcs) (hb : b ∈ s.ths' ∨ b ∈ s.lsts ∨ b ∈ s.ents) : b ≠ a := by
  obtain ⟨_, q⟩ := S.dc ha
  rcases hb with z | z | z
  · obtain ⟨_, _, _, _, _, q'⟩ := S.th' z
    exact ne_of q' q fun z => nomatch z
  · obtain ⟨_, q'⟩ := S.ls z
    exact ne_of q' q fun z => nomatch z
  · obtain ⟨_, _, _, _, q'⟩ := S.en z
    exact ne_of q' q fun z => nomatch z
/-- the counter -/
theorem SyAt.count (S : SyAt K H s) (m : Int) : SyAt K (upd H s.p (.ins (ga K "System") s.dx (sysF s.P s.N s.T s.G m))) { s with made := m } := by
  refine ⟨upd_same, by rw [upd_ne (S.np (.inl List.mem_cons_self))]; exact S.tb, fun t h => ?_, by rw [upd_ne (S.np (.inl (List.mem_cons_of_mem _ List.mem_cons_self)))]; exact S.gb, fun t h => ?_, S.nd, S.nt, S.nl, S.ne⟩
  · rw [upd_ne (S.np (.inl (List.mem_cons_of_mem _ (List.mem_cons_of_mem _ (List.mem_map.mpr ⟨t, h, rfl⟩)))))]
    exact S.tt t h
  · exact (S.gt t h).keep (S.np (.inr (.inl (Sy.th_in h)))) (fun x hx => S.np (.inr (.inr (.inl (Sy.ls_in h hx))))) (fun x hx => S.np (.inr (.inr (.inr (Sy.en_in h hx)))))
/-- a new thing, which stands apart, is kept under a new serial -/
theorem SyAt.thing (S : SyAt K H s) {n : Int} {t : Th} (ht : TgAt K H t.ad t.tg) (h1 : t.ad ∉ s.foot) (h2 : ∀ x ∈ t.tg.lsts, x ∉ s.foot) (h3 : ∀ x ∈ t.tg.ents, x ∉ s.foot) (n2 : t.tg.lsts.Nodup) (n3 : t.tg.ents.Nodup) :
    SyAt K (upd H s.G (.dK (kv thV (s.ths ++ [(n, t)])))) { s with ths := s.ths ++ [(n, t)] } := by
  have mG : s.G ∈ s.dcs := List.mem_cons_of_mem _ List.mem_cons_self
  obtain ⟨d1, d2⟩ := List.nodup_cons.mp S.nd
  obtain ⟨d3, d4⟩ := List.nodup_cons.mp d2
  have fG : s.G ∈ s.foot := Sy.in_dcs mG
  have nTG : s.T ≠ s.G := fun z => d1 (by rw [z]; exact List.mem_cons_self)
  have nG : ∀ {u : Int × Tb}, u ∈ s.tabs → u.2.ad ≠ s.G := fun {u} h z => d3 (by rw [← z]; exact List.mem_map.mpr ⟨u, h, rfl⟩)
  refine ⟨by rw [upd_ne (Ne.symm (S.np (.inl mG)))]; exact S.ob, by rw [upd_ne nTG]; exact S.tb, fun u h => ?_, upd_same, fun u h => ?_, S.nd, ?_, ?_, ?_⟩
  · rw [upd_ne (nG h)]
    exact S.tt u h
  · rcases List.mem_append.mp h with h | h
    · exact (S.gt u h).keep (S.dc_th mG (.inl (Sy.th_in h))) (fun x hx => S.dc_th mG (.inr (.inl (Sy.ls_in h hx)))) (fun x hx => S.dc_th mG (.inr (.inr (Sy.en_in h hx))))
    · cases List.mem_singleton.mp h
      exact ht.keep (fun z => h1 (z ▸ fG)) (fun x hx z => h2 x hx (z ▸ fG)) (fun x hx z => h3 x hx (z ▸ fG))
  · show ((s.ths ++ [(n, t)]).map (·.2.ad)).Nodup
    rw [List.map_append]
    exact List.nodup_append.mpr ⟨S.nt, by simp, fun a ha b hb z => by
      have z' : a = t.ad := z.trans (List.mem_singleton.mp hb)
      exact h1 (by rw [← z']; exact Sy.in_ths ha)⟩
  · show ((s.ths ++ [(n, t)]).flatMap (·.2.tg.lsts)).Nodup
    rw [List.flatMap_append]
    refine List.nodup_append.mpr ⟨S.nl, by simpa using n2, fun a ha b hb z => ?_⟩
    have hb' : b ∈ t.tg.lsts := by simpa using hb
    exact h2 b hb' (z ▸ Sy.in_lsts ha)
  · show ((s.ths ++ [(n, t)]).flatMap (·.2.tg.ents)).Nodup
    rw [List.flatMap_append]
    refine List.nodup_append.mpr ⟨S.ne, by simpa using n3, fun a ha b hb z => ?_⟩
    have hb' : b ∈ t.tg.ents := by simpa using hb
    exact h3 b hb' (z ▸ Sy.in_ents ha)
/-- a new process with a table of its own -/
theorem SyAt.proc (S : SyAt K H s) {n : Int} {t : Tb} (ht : H t.ad = some (.dK (kv V.int t.rows))) (h1 : t.ad ∉ s.foot) :
    SyAt K (upd H s.T (.dK (kv tbV (s.tabs ++ [(n, t)])))) { s with tabs := s.tabs ++ [(n, t)] } := by
  have mT : s.T ∈ s.dcs := List.mem_cons_self
  obtain ⟨d1, d2⟩ := List.nodup_cons.mp S.nd
  have fT : s.T ∈ s.foot := Sy.in_dcs mT
  have nGT : s.G ≠ s.T := fun z => d1 (by rw [← z]; exact List.mem_cons_self)
  have nT : ∀ {u : Int × Tb}, u ∈ s.tabs → u.2.ad ≠ s.T := fun {u} h z => d1 (by rw [← z]; exact List.mem_cons_of_mem _ (List.mem_map.mpr ⟨u, h, rfl⟩))
  have tT : t.ad ≠ s.T := fun z => h1 (by rw [z]; exact fT)
  refine ⟨by rw [upd_ne (Ne.symm (S.np (.inl mT)))]; exact S.ob, upd_same, fun u h => ?_, by rw [upd_ne nGT]; exact S.gb, fun u h => ?_, ?_, S.nt, S.nl, S.ne⟩
  · rcases List.mem_append.mp h with h | h
    · rw [upd_ne (nT h)]
      exact S.tt u h
    · cases List.mem_singleton.mp h
      rw [upd_ne tT]
      exact ht
  · exact (S.gt u h).keep (S.dc_th mT (.inl (Sy.th_in h))) (fun x hx => S.dc_th mT (.inr (.inl (Sy.ls_in h hx)))) (fun x hx => S.dc_th mT (.inr (.inr (Sy.en_in h hx))))
  · have e : (s.T :: s.G :: (s.tabs ++ [(n, t)]).map (·.2.ad)) = s.dcs ++ [t.ad] := by
      show s.T :: s.G :: (s.tabs ++ [(n, t)]).map (·.2.ad) = s.T :: s.G :: (s.tabs.map (·.2.ad)) ++ [t.ad]
      rw [List.map_append]
      rfl
    show (s.T :: s.G :: (s.tabs ++ [(n, t)]).map (·.2.ad)).Nodup
    rw [e]
    exact List.nodup_append.mpr ⟨S.nd, by simp, fun a ha b hb z => by
      have z' : a = t.ad := z.trans (List.mem_singleton.mp hb)
      exact h1 (by rw [← z']; exact Sy.in_dcs ha)⟩
end

/-! ### the pictures of these changes -/
def Sv.place (v : Sv) (i n : Int) (tv : Tv) : Sv := { v with made := v.made + 1, tabs := upAt v.tabs i (· ++ [(n, v.made)]), ths := v.ths ++ [(v.made, tv)] }
def Sv.fork (v : Sv) (c : Int) (rows : List (Int × Int)) : Sv := { v with tabs := v.tabs ++ [(c, rows)] }
def Tv.fresh : Tv → Prop
  | .src u f => 0 ≤ u
  | .set es row => es = [] ∧ row = []
theorem WF.place {v : Sv} (h : WF v) {i n : Int} {rows : List (Int × Int)} {tv : Tv} (hl : lk v.tabs i = some rows) (hn : 0 ≤ n ∧ n < v.N ∧ n ∉ rows.map (·.1)) (hf : tv.fresh) (hm : 0 ≤ v.made) : WF (v.place i n tv) := by
  have mem : (i, rows) ∈ v.tabs := lk_mem hl
  have one : ∀ {t : Int × List (Int × Int)}, t ∈ (v.place i n tv).tabs → t ∈ v.tabs ∨ t = (i, rows ++ [(n, v.made)]) := fun {t} ht => by
    rcases upAt_mem (show t ∈ upAt v.tabs i (· ++ [(n, v.made)]) from ht) with ⟨_, z⟩ | ⟨x, hx, rfl⟩
    · exact .inl z
    · have := lk_of_mem h.ndp hx
      rw [hl] at this
      cases this
      exact .inr rfl
  have old : ∀ {k : Int}, k ∈ v.ths.map (·.1) → k ∈ (v.place i n tv).ths.map (·.1) := fun {k} hk => by
    show k ∈ (v.ths ++ [(v.made, tv)]).map (·.1)
    rw [List.map_append]
    exact List.mem_append_left _ hk
  have nm : v.made ∉ v.ths.map (·.1) := fun z => by
    obtain ⟨t, ht, e⟩ := List.mem_map.mp z
    have := h.rs t ht
    omega
  refine ⟨h.p, h.n, ?_, fun t ht => ?_, fun t ht => ?_, fun t ht r hr => ?_, fun t ht r hr => ?_, ?_, fun t ht => ?_, fun t ht => ?_, fun t ht es row e => ?_⟩
  · show ((upAt v.tabs i (· ++ [(n, v.made)])).map (·.1)).Nodup
    rw [upAt_keys]
    exact h.ndp
  · rcases one ht with z | z
    · exact h.rp t z
    · subst z
      exact h.rp (i, rows) mem
  · rcases one ht with z | z
    · exact h.ndn t z
    · subst z
      show ((rows ++ [(n, v.made)]).map (·.1)).Nodup
      rw [List.map_append]
      exact nd_snoc (h.ndn (i, rows) mem) hn.2.2
  · rcases one ht with z | z
    · exact h.rn t z r hr
    · subst z
      rcases List.mem_append.mp hr with y | y
      · exact h.rn (i, rows) mem r y
      · cases List.mem_singleton.mp y
        exact ⟨hn.1, hn.2.1⟩
  · rcases one ht with z | z
    · exact old (h.th t z r hr)
    · subst z
      rcases List.mem_append.mp hr with y | y
      · exact old (h.th (i, rows) mem r y)
      · cases List.mem_singleton.mp y
        show v.made ∈ (v.ths ++ [(v.made, tv)]).map (·.1)
        simp
  · show ((v.ths ++ [(v.made, tv)]).map (·.1)).Nodup
    rw [List.map_append]
    exact nd_snoc h.nds nm
  · show 0 ≤ t.1 ∧ t.1 < v.made + 1
    rcases List.mem_append.mp ht with y | y
    · have := h.rs t y
      omega
    · cases List.mem_singleton.mp y
      show 0 ≤ v.made ∧ v.made < v.made + 1
      omega
  · have up : ∀ {u : Int × List (Int × Int)}, u ∈ v.tabs → ∃ u' ∈ (v.place i n tv).tabs, ∀ r ∈ u.2, r ∈ u'.2 := fun {u} hu => by
      refine ⟨_, List.mem_map.mpr ⟨u, hu, rfl⟩, fun r hr => ?_⟩
      show r ∈ (if u.1 = i then (u.1, u.2 ++ [(n, v.made)]) else u).2
      split
      · exact List.mem_append_left _ hr
      · exact hr
    rcases List.mem_append.mp ht with y | y
    · obtain ⟨u, hu, r, hr, e⟩ := h.held t y
      obtain ⟨u', hu', k⟩ := up hu
      exact ⟨u', hu', r, k r hr, e⟩
    · cases List.mem_singleton.mp y
      refine ⟨(i, rows ++ [(n, v.made)]), List.mem_map.mpr ⟨(i, rows), mem, if_pos rfl⟩, (n, v.made), List.mem_append_right _ (List.mem_singleton.mpr rfl), rfl⟩
  · have ext : ∀ {k : Int} {x : Tv}, lk v.ths k = some x → lk (v.ths ++ [(v.made, tv)]) k = some x := fun {k x} hk => by rw [lk_app, hk]; rfl
    rcases List.mem_append.mp ht with y | y
    · obtain ⟨h1, h2, h3, h4, h5, h6⟩ := h.ok t y es row e
      exact ⟨h1, h2, h3, h4, fun x hx => (h5 x hx).imp fun u ⟨f, q⟩ => ⟨f, ext q⟩, h6⟩
    · cases List.mem_singleton.mp y
      have e' : tv = .set es row := e
      subst e'
      obtain ⟨rfl, rfl⟩ := hf
      exact ⟨List.nodup_nil, List.nodup_nil, List.nodup_nil, fun x hx => (nomatch hx), fun x hx => (nomatch hx), Nat.zero_le _⟩
theorem WF.fork {v : Sv} (h : WF v) {i c : Int} {rows : List (Int × Int)} (hl : lk v.tabs i = some rows) (hc : 0 ≤ c ∧ c < v.P ∧ c ∉ v.tabs.map (·.1)) : WF (v.fork c rows) := by
  have mem : (i, rows) ∈ v.tabs := lk_mem hl
  have one : ∀ {t : Int × List (Int × Int)}, t ∈ v.tabs ++ [(c, rows)] → t ∈ v.tabs ∨ t = (c, rows) := fun {t} ht => by simpa using ht
  refine ⟨h.p, h.n, ?_, fun t ht => ?_, fun t ht => ?_, fun t ht r hr => ?_, fun t ht r hr => ?_, h.nds, h.rs, fun t ht => ?_, h.ok⟩
  · show ((v.tabs ++ [(c, rows)]).map (·.1)).Nodup
    rw [List.map_append]
    exact nd_snoc h.ndp hc.2.2
  · rcases one ht with z | z
    · exact h.rp t z
    · subst z
      exact ⟨hc.1, hc.2.1⟩
  · rcases one ht with z | z
    · exact h.ndn t z
    · subst z
      exact h.ndn (i, rows) mem
  · rcases one ht with z | z
    · exact h.rn t z r hr
    · subst z
      exact h.rn (i, rows) mem r hr
  · rcases one ht with z | z
    · exact h.th t z r hr
    · subst z
      exact h.th (i, rows) mem r hr
  · obtain ⟨u, hu, q⟩ := h.held t ht
    exact ⟨u, List.mem_append_left _ hu, q⟩

end Wn
namespace Wn
open PySem PySem.Spec PyProof.Rows L2 LamX He
theorem upd_comm {H : Hp} {a b : Addr} {o u : HO} (h : a ≠ b) : upd (upd H a o) b u = upd (upd H b u) a o := by
  funext c
  by_cases c1 : c = a
  · subst c1
    rw [upd_ne h, upd_same, upd_same]
  · rw [upd_ne c1]
    by_cases c2 : c = b
    · subst c2
      rw [upd_same, upd_same]
    · rw [upd_ne c2, upd_ne c2, upd_ne c1]
theorem upd_idem {H : Hp} {a : Addr} {o : HO} (h : H a = some o) : upd H a o = H := by
  funext c
  by_cases c1 : c = a
  · subst c1
    rw [upd_same, h]
  · rw [upd_ne c1]
/-! ### a dict made by a walk -/
theorem dc_it {J : It} {n : Nat} {G : Hp → Prop} {Y : Nat → Hp → V → Hp → Prop} (w : Walk J n G Y) {g : TG} {tt : TT} {tk tv : TE} {vs : List Nat} {σ : L2.St} {H1 : Hp} {D : Addr} {Qd : Hp → Prop} (Pv : Nat → Hp → Prop) (h0 : Pv 0 (upd H1 D (.dK []))) (hG : ∀ i H, i ≤ n → Pv i H → G H)
    (hs : ∀ i x H H', i < n → Pv i H → Y i H x H' → g x (wipe σ vs) H' fun σ2 H2 => wipe σ2 vs = wipe σ vs ∧ tt σ2 H2 fun b H3 =>
      if b = true then tk σ2 H3 fun y H4 => tv σ2 H4 fun z H5 => ∃ kvs k, y = kV k ∧ H5 D = some (.dK kvs) ∧ kvs.length < sizeLine ∧ Pv (i + 1) (upd H5 D (.dK (putK kvs k z))) else Pv (i + 1) H3) (hd : ∀ H, Pv n H → Qd H) :
    ∃ W : Nat → Nat → Hp → Prop, (∃ m, W 0 m (upd H1 D (.dK []))) ∧ ∀ i m H, W i m H →
      (J.stop i H ∧ Qd H) ∨ (J.go i H ∧ ∃ Nx : Hp → Prop, (∀ H', Nx H' → ∃ m', m' < m ∧ W (i + 1) m' H') ∧ ∀ x H', J.yld i H x H' → g x (wipe σ vs) H' fun σ2 H2 => wipe σ2 vs = wipe σ vs ∧ tt σ2 H2 fun b H3 =>
        if b = true then tk σ2 H3 fun y H4 => tv σ2 H4 fun z H5 => ∃ kvs k, y = kV k ∧ H5 D = some (.dK kvs) ∧ kvs.length < sizeLine ∧ Nx (upd H5 D (.dK (putK kvs k z))) else Nx H3) := by
  refine ⟨fun i m H => m = n - i ∧ i ≤ n ∧ Pv i H, ⟨n, by simp, Nat.zero_le _, h0⟩, ?_⟩
  rintro i m H ⟨rfl, hi, p⟩
  have q := hG i H hi p
  by_cases hlt : i < n
  · exact .inr ⟨w.goes i H hlt q, Pv (i + 1), fun H' p' => ⟨n - (i + 1), by omega, rfl, hlt, p'⟩, fun x H' y => hs i x H H' hlt p (w.yields i H x H' hlt q y)⟩
  · have e : i = n := by omega
    subst e
    exact .inl ⟨w.stops H q, hd H p⟩
theorem take_put {l : List (Int × Int)} (nd : (l.map (·.1)).Nodup) {i : Nat} {r : Int × Int} (h : l[i]? = some r) : putK (kv V.int (l.take i)) (Sum.inl r.1 : Key) (.int r.2) = kv V.int (l.take (i + 1)) := by
  have e : l.take (i + 1) = l.take i ++ [r] := by rw [List.take_succ, h]; rfl
  rw [e, put_kv V.int r.1 r.2 (l := l.take i)]
  rw [lk_none]
  intro z
  have hi : i < l.length := by
    rcases Nat.lt_or_ge i l.length with h' | h'
    · exact h'
    · rw [List.getElem?_eq_none h'] at h
      cases h
  have s1 : l.map (·.1) = (l.take i).map (·.1) ++ (l.drop i).map (·.1) := by rw [← List.map_append, List.take_append_drop]
  rw [s1] at nd
  refine (List.nodup_append.mp nd).2.2 r.1 z r.1 ?_ rfl
  refine List.mem_map.mpr ⟨r, ?_, rfl⟩
  rw [List.drop_eq_getElem_cons hi]
  have : l[i] = r := by
    rw [List.getElem?_eq_getElem hi] at h
    exact Option.some.inj h
  rw [this]
  exact List.mem_cons_self
theorem kv_get {α : Type} {g : α → V} {l : List (Int × α)} {i : Nat} {k : Key} {v : V} (h : (kv g l)[i]? = some (k, v)) : ∃ r, l[i]? = some r ∧ k = Sum.inl r.1 ∧ v = g r.2 := by
  unfold kv at h
  rw [List.getElem?_map] at h
  cases e : l[i]? with
  | none => rw [e] at h; cases h
  | some r =>
    rw [e] at h
    cases h
    exact ⟨r, rfl, rfl, rfl⟩
/-! ### data that is new -/
/-- what stands in H' and not in H -/
def frs (H H' : Hp) : Hp := fun a => match H a with
  | none => H' a
  | some _ => none
def off (D : Addr) (H : Hp) : Hp := fun a => if a = D then none else H a
theorem frs_le {H H' : Hp} : Same (frs H H') H' := fun b o h => by
  unfold frs at h
  split at h
  · exact h
  · cases h
theorem off_le {D : Addr} {H : Hp} : Same (off D H) H := fun b o h => by
  unfold off at h
  split at h
  · cases h
  · exact h
theorem frs_new {H H' : Hp} {p : Addr} (h : H p = none) : frs H H' p = H' p := by
  unfold frs
  rw [h]
theorem off_ne {D p : Addr} {H : Hp} (h : p ≠ D) : off D H p = H p := if_neg h
theorem frs_mono {H H1 H2 : Hp} (e : Same H1 H2) : Same (frs H H1) (frs H H2) := fun b o h => by
  unfold frs at h ⊢
  cases q : H b with
  | none => rw [q] at h; exact e b o h
  | some _ => rw [q] at h; cases h
theorem off_mono {D : Addr} {H1 H2 : Hp} (e : Same H1 H2) : Same (off D H1) (off D H2) := fun b o h => by
  unfold off at h ⊢
  split at h
  · cases h
  · rw [if_neg (by assumption)]; exact e b o h
theorem off_upd {D : Addr} {H : Hp} {o : HO} : off D (upd H D o) = off D H := by
  funext b
  unfold off
  split
  · rfl
  · rw [upd_ne (by assumption)]
/-- a list that is being made at D: what is in it is new, and not D -/
structure Gro (K : PySem.W.Frag) (H1 : Hp) (D : Addr) (H' : Hp) (ds : List PyData) : Prop where
  new : H1 D = none
  same : Same H1 H'
  has : ∃ xs, H' D = some (.lst xs) ∧ DpAll K (frs H1 (off D H')) xs ds
section
variable {K : PySem.W.Frag} {H1 H' H4 : Hp} {D : Addr} {ds : List PyData} {d : PyData} {y : V}
theorem Gro.start (h : H1 D = none) : Gro K H1 D (upd H1 D (.lst [])) [] := ⟨h, fun b o e => by rw [upd_ne (ne_of_none e h)]; exact e, [], upd_same, .nil⟩
theorem Gro.add (g : Gro K H1 D H' ds) (e : Same H' H4) (hy : Dp K (frs H1 (off D H4)) y d) : ∃ xs, H4 D = some (.lst xs) ∧ xs.length = ds.length ∧ Gro K H1 D (upd H4 D (.lst (xs ++ [y]))) (ds ++ [d]) := by
  obtain ⟨xs, h1, h2⟩ := g.has
  refine ⟨xs, e _ _ h1, dpLen h2, g.new, fun b o q => by rw [upd_ne (ne_of_none q g.new)]; exact e _ _ (g.same _ _ q), _, upd_same, ?_⟩
  rw [off_upd]
  exact dpApp (DpAll.same (frs_mono (off_mono e)) _ _ h2) (.cons hy .nil)
theorem Gro.fin (g : Gro K H1 D H' ds) : Dp K (frs H1 H') (.ref D) (.list ds) := by
  obtain ⟨xs, h1, h2⟩ := g.has
  exact .lst (SqL.of (by rw [frs_new g.new]; exact h1)) (DpAll.same (frs_mono off_le) _ _ h2)
theorem Gro.ext (g : Gro K H1 D H' ds) (e : Same H' H4) : Gro K H1 D H4 ds := by
  obtain ⟨xs, h1, h2⟩ := g.has
  exact ⟨g.new, g.same.trans e, xs, e _ _ h1, DpAll.same (frs_mono (off_mono e)) _ _ h2⟩
/-- a new tuple of data, made while D grows -/
theorem Gro.tup (g : Gro K H1 D H' ds) {p : Addr} {vs : List V} {es : List PyData} (e : Same H' H4) (hp : H4 p = none) (h : DpAll K (frs H1 (off D (upd H4 p (.tup vs)))) vs es) : Dp K (frs H1 (off D (upd H4 p (.tup vs)))) (.ref p) (.tuple es) := by
  obtain ⟨xs, h1, _⟩ := g.has
  have ne : p ≠ D := fun z => by
    subst z
    rw [e _ _ h1] at hp
    cases hp
  refine .tup (SqT.of ?_) h
  rw [frs_new ((g.same.trans e).free hp), off_ne ne, upd_same]
end
theorem frs_frs {H1 H' H4 : Hp} {D D2 : Addr} {o : HO} (e : Same H1 H') (hD : H' D = some o) : Same (frs H' (off D2 H4)) (frs H1 (off D H4)) := fun b u h => by
  have hb : H' b = none := by
    cases q : H' b with
    | none => rfl
    | some _ =>
      unfold frs at h
      rw [q] at h
      cases h
  rw [frs_new hb] at h
  rw [frs_new (e.free hb), off_ne (fun z => by rw [z, hD] at hb; cases hb)]
  exact off_le _ _ h
theorem Gro.addAll {K : PySem.W.Frag} {H1 H' H4 : Hp} {D D2 : Addr} {ds es : List PyData} (g : Gro K H1 D H' ds) (g2 : Gro K H' D2 H4 es) : ∃ xs zs, H4 D = some (.lst xs) ∧ H4 D2 = some (.lst zs) ∧ xs.length = ds.length ∧ zs.length = es.length ∧ Gro K H1 D (upd H4 D (.lst (xs ++ zs))) (ds ++ es) := by
  obtain ⟨xs, h1, h2⟩ := g.has
  obtain ⟨zs, h3, h4⟩ := g2.has
  refine ⟨xs, zs, g2.same _ _ h1, h3, dpLen h2, dpLen h4, g.new, fun b o q => by rw [upd_ne (ne_of_none q g.new)]; exact g2.same _ _ (g.same _ _ q), _, upd_same, ?_⟩
  rw [off_upd]
  exact dpApp (DpAll.same (frs_mono (off_mono g2.same)) _ _ h2) (DpAll.same (frs_frs g.same h1) _ _ h4)
theorem DpAll.get {K : PySem.W.Frag} {H : Hp} : ∀ {xs : List V} {ds : List PyData} {i : Nat} {d : PyData}, DpAll K H xs ds → ds[i]? = some d → ∃ v, xs[i]? = some v ∧ Dp K H v d
  | _, _, 0, _, .cons h _, e => by
    cases e
    exact ⟨_, rfl, h⟩
  | _, _, i + 1, _, .cons _ t, e => DpAll.get (i := i) t e
/-- e.f inside a comprehension: the known facts K are named -/
theorem pe_fldK {X : Cx} {e : Expr} {f : Str} {pos : Pos} {ta : TE} (K : PySem.W.Frag) (he : PE X e ta) (hb : attributeBase e f X.env (eval e X.env) = eval e X.env) (hK : X.K = K := by rfl) : PE X (.Attribute e f pos) (tFld K ta f) := by
  subst hK
  exact pe_fld he hb
theorem call_isiK {X : Cx} (K : PySem.W.Frag) (hK : X.K = K := by rfl) : CallR X (.builtin "isinstance") (rIsi K) := by
  subst hK
  exact call_isi
/-! ### a property of one of two classes -/
end Wn
namespace Wn
open PySem PySem.Spec PyProof.Rows L2 LamX He
/-! ### calls in the body of a try: the wish looks at the slots -/
section
variable {X : Cx} {CX : CXT} {k : Nat} {f C : Addr} {fd : FuncData} {ps ks : List Str} {sp : Sp} {dvs : List V} {ds : List Value} {E : L2.St → XK} {x m : Str} {p pos apos : Pos} {e o : Expr} {es : List Expr} {kws : List Keyword} {ta : TE} {t tk : TA} {g : List Value → List Value → List Value} {gV : List V → List V → List V}
end
end Wn
namespace Wn
open PySem PySem.Spec PyProof.Rows L2 LamX He
/-! ### list(range(..)) -/
def rngV (lo : Int) (n : Nat) : List V := (List.range n).map fun k => .int (lo + (k : Nat))
section
variable {X : Cx} {a b : Expr} {ta : TA} {p p2 pos pos2 : Pos}
end
end Wn
namespace Wn
open PySem PySem.Spec PyProof.Rows L2 LamX He
/-! ### len(o), o an instance of an own class -/
end Wn
namespace Wn
open PySem PySem.Spec PyProof.Rows L2 LamX He
/-! ### one thing of a system is another -/
section
variable {α : Type} {f : α → List Addr} {n : Int} {x y : α}
def allF (f : α → List Addr) (l : List (Int × α)) : List Addr := l.flatMap fun t => f t.2
theorem allF_cons (t : Int × α) (l : List (Int × α)) : allF f (t :: l) = f t.2 ++ allF f l := List.flatMap_cons
theorem allF_mem {l : List (Int × α)} {a : Addr} : a ∈ allF f l ↔ ∃ t ∈ l, a ∈ f t.2 := List.mem_flatMap
theorem upAt_cons (t : Int × α) (l : List (Int × α)) (g : α → α) : upAt (t :: l) n g = (if t.1 = n then (t.1, g t.2) else t) :: upAt l n g := rfl
theorem upAt_none : ∀ {l : List (Int × α)} {g : α → α}, lk l n = none → upAt l n g = l
  | [], _, _ => rfl
  | t :: l, g, h => by
    by_cases e : t.1 = n
    · rw [lk_pos e] at h
      cases h
    · rw [lk_neg e] at h
      rw [upAt_cons, if_neg e, upAt_none h]
/-- the others are apart from it -/
theorem apart_of : ∀ {l : List (Int × α)}, (l.map (·.1)).Nodup → lk l n = some x → (allF f l).Nodup → ∀ t ∈ l, t.1 ≠ n → ∀ a ∈ f t.2, a ∉ f x
  | [], _, h, _ => nomatch h
  | r :: l, nd, hl, h => by
    obtain ⟨n1, n2⟩ := List.nodup_cons.mp (show (r.1 :: l.map (·.1)).Nodup from nd)
    rw [allF_cons] at h
    obtain ⟨d1, d2, d3⟩ := List.nodup_append.mp h
    intro t ht ne a ha hx
    by_cases e : r.1 = n
    · rw [lk_pos e] at hl
      cases hl
      rcases List.mem_cons.mp ht with z | z
      · exact ne (z ▸ e)
      · exact d3 a hx a (allF_mem.mpr ⟨t, z, ha⟩) rfl
    · rw [lk_neg e] at hl
      rcases List.mem_cons.mp ht with z | z
      · subst z
        exact d3 a ha a (allF_mem.mpr ⟨_, lk_mem hl, hx⟩) rfl
      · exact apart_of n2 hl d2 t z ne a ha hx
theorem allF_up : ∀ {l : List (Int × α)} {a : Addr}, a ∈ allF f (upAt l n fun _ => y) → (∃ t ∈ l, t.1 ≠ n ∧ a ∈ f t.2) ∨ a ∈ f y := fun {l a} h => by
  obtain ⟨t, ht, ha⟩ := allF_mem.mp h
  rcases upAt_mem ht with ⟨ne, hm⟩ | ⟨z, _, rfl⟩
  · exact .inl ⟨t, hm, ne, ha⟩
  · exact .inr ha
theorem nodup_up : ∀ {l : List (Int × α)}, (l.map (·.1)).Nodup → lk l n = some x → (allF f l).Nodup → (f y).Nodup → (∀ a ∈ f y, a ∈ f x ∨ a ∉ allF f l) → (allF f (upAt l n fun _ => y)).Nodup
  | [], _, h, _, _, _ => nomatch h
  | r :: l, nd, hl, h, hy, hn => by
    obtain ⟨n1, n2⟩ := List.nodup_cons.mp (show (r.1 :: l.map (·.1)).Nodup from nd)
    have ap := apart_of nd hl h
    rw [allF_cons] at h hn
    obtain ⟨d1, d2, d3⟩ := List.nodup_append.mp h
    rw [upAt_cons, allF_cons]
    by_cases e : r.1 = n
    · rw [lk_pos e] at hl
      cases hl
      have nn : lk l n = none := lk_none.mpr (e ▸ n1)
      rw [upAt_none nn, if_pos e]
      refine List.nodup_append.mpr ⟨hy, d2, fun a ha b hb z => ?_⟩
      subst z
      rcases hn a ha with q | q
      · exact d3 a q a hb rfl
      · exact q (List.mem_append_right _ hb)
    · rw [lk_neg e] at hl
      rw [if_neg e]
      refine List.nodup_append.mpr ⟨d1, nodup_up n2 hl d2 hy (fun a ha => (hn a ha).imp id fun q z => q (List.mem_append_right _ z)), fun a ha b hb z => ?_⟩
      subst z
      rcases allF_up hb with ⟨t, ht, ne, hat⟩ | hay
      · exact d3 a ha a (allF_mem.mpr ⟨t, ht, hat⟩) rfl
      · rcases hn a hay with q | q
        · exact ap r List.mem_cons_self e a ha q
        · exact q (List.mem_append_left _ ha)
end
theorem allF_one : ∀ l : List (Int × Th), allF (fun t : Th => [t.ad]) l = l.map (·.2.ad)
  | [] => rfl
  | r :: l => by
    rw [allF_cons, allF_one l]
    rfl
def Sy.re (s : Sy) (n : Int) (a : Addr) (tg : Tg) : Sy := { s with ths := upAt s.ths n fun _ => ⟨a, tg⟩ }
def Sv.re (v : Sv) (n : Int) (tv : Tv) : Sv := { v with ths := upAt v.ths n fun _ => tv }
theorem Sy.re_v (s : Sy) (n : Int) (a : Addr) (tg : Tg) : (s.re n a tg).v = s.v.re n tg.v := by
  show (⟨s.P, s.N, s.made, _, (upAt s.ths n fun _ => (⟨a, tg⟩ : Th)).map fun t => (t.1, t.2.tg.v)⟩ : Sv) = _
  rw [upAt_map (fun t : Th => t.tg.v) (fun _ => (⟨a, tg⟩ : Th)) (fun _ => tg.v) (fun _ => rfl)]
  rfl
section
variable {K : PySem.W.Frag} {H H' : Hp} {s : Sy} {n : Int} {t : Th} {tg : Tg}
theorem Sy.re_ths' (hl : lk s.ths n = some t) (nd : (s.ths.map (·.1)).Nodup) : (s.re n t.ad tg).ths' = s.ths' := by
  unfold Sy.ths' Sy.re upAt
  rw [List.map_map]
  refine List.map_congr_left fun u hu => ?_
  show (if u.1 = n then (u.1, (⟨t.ad, tg⟩ : Th)) else u).2.ad = u.2.ad
  split
  · rename_i e
    have z := lk_of_mem nd (show (u.1, u.2) ∈ s.ths from hu)
    rw [e, hl] at z
    cases z
    rfl
  · rfl
theorem SyAt.re (S : SyAt K H s) (hl : lk s.ths n = some t) (nd : (s.ths.map (·.1)).Nodup) (keep : ∀ b ∈ s.foot, b ≠ t.ad → b ∉ t.tg.lsts → b ∉ t.tg.ents → H' b = H b) (ht : TgAt K H' t.ad tg)
    (hL : ∀ x ∈ tg.lsts, x ∈ t.tg.lsts ∨ x ∉ s.foot) (hE : ∀ x ∈ tg.ents, x ∈ t.tg.ents ∨ x ∉ s.foot) (nl : tg.lsts.Nodup) (ne : tg.ents.Nodup) : SyAt K H' (s.re n t.ad tg) := by
  have tm := lk_mem hl
  have hta : t.ad ∈ s.ths' := Sy.th_in tm
  have tl : ∀ {x : Addr}, x ∈ t.tg.lsts → x ∈ s.lsts := fun h => Sy.ls_in tm h
  have te : ∀ {x : Addr}, x ∈ t.tg.ents → x ∈ s.ents := fun h => Sy.en_in tm h
  have th_ls : ∀ {a b : Addr}, a ∈ s.ths' → b ∈ s.lsts → a ≠ b := fun {a b} ha hb => by
    obtain ⟨_, _, _, _, _, q⟩ := S.th' ha
    obtain ⟨_, q'⟩ := S.ls hb
    exact ne_of q q' fun z => nomatch z
  have th_en : ∀ {a b : Addr}, a ∈ s.ths' → b ∈ s.ents → a ≠ b := fun {a b} ha hb => by
    obtain ⟨_, _, _, _, e1, q⟩ := S.th' ha
    obtain ⟨_, _, _, e2, q'⟩ := S.en hb
    exact ne_of q q' (ins_ne "label" (by rw [e1]; intro z; rw [← z] at e2; cases e2))
  have ls_en : ∀ {a b : Addr}, a ∈ s.lsts → b ∈ s.ents → a ≠ b := fun {a b} ha hb => by
    obtain ⟨_, q⟩ := S.ls ha
    obtain ⟨_, _, _, _, q'⟩ := S.en hb
    exact ne_of q q' fun z => nomatch z
  have kdc : ∀ {b : Addr}, b ∈ s.dcs → H' b = H b := fun {b} hb => keep b (Sy.in_dcs hb) (Ne.symm (S.dc_th hb (.inl hta))) (fun z => S.dc_th hb (.inr (.inl (tl z))) rfl) (fun z => S.dc_th hb (.inr (.inr (te z))) rfl)
  have kp : H' s.p = H s.p := keep _ List.mem_cons_self (Ne.symm (S.np (.inr (.inl hta)))) (fun z => S.np (.inr (.inr (.inl (tl z)))) rfl) (fun z => S.np (.inr (.inr (.inr (te z)))) rfl)
  have apA : ∀ u ∈ s.ths, u.1 ≠ n → u.2.ad ≠ t.ad := fun u hu ne z => by
    have q := apart_of (f := fun t : Th => [t.ad]) nd hl (by
      rw [allF_one]
      exact S.nt) u hu ne u.2.ad (List.mem_singleton.mpr rfl)
    exact q (List.mem_singleton.mpr z)
  have apL := apart_of (f := fun t : Th => t.tg.lsts) nd hl S.nl
  have apE := apart_of (f := fun t : Th => t.tg.ents) nd hl S.ne
  refine ⟨kp.trans S.ob, (kdc List.mem_cons_self).trans S.tb, fun u hu => (kdc (List.mem_cons_of_mem _ (List.mem_cons_of_mem _ (List.mem_map.mpr ⟨u, hu, rfl⟩)))).trans (S.tt u hu), ?_, fun u hu => ?_, S.nd, ?_, ?_, ?_⟩
  · rw [show (s.re n t.ad tg).G = s.G from rfl, kdc (List.mem_cons_of_mem _ List.mem_cons_self), S.gb]
    congr 2
    unfold Sy.re
    show kv thV s.ths = kv thV (upAt s.ths n fun _ => (⟨t.ad, tg⟩ : Th))
    unfold kv upAt
    rw [List.map_map]
    refine List.map_congr_left fun u hu => ?_
    show ((Sum.inl u.1 : Key), thV u.2) = (Sum.inl (if u.1 = n then (u.1, (⟨t.ad, tg⟩ : Th)) else u).1, thV (if u.1 = n then (u.1, (⟨t.ad, tg⟩ : Th)) else u).2)
    split
    · rename_i e
      have z := lk_of_mem nd (show (u.1, u.2) ∈ s.ths from hu)
      rw [e, hl] at z
      cases z
      rfl
    · rfl
  · rcases upAt_mem (show u ∈ upAt s.ths n (fun _ => (⟨t.ad, tg⟩ : Th)) from hu) with ⟨ni, hm⟩ | ⟨z, _, rfl⟩
    · have q := S.gt u hm
      have ka : H' u.2.ad = H u.2.ad := keep _ (Sy.in_ths (Sy.th_in hm)) (apA u hm ni) (fun z => th_ls (Sy.th_in hm) (tl z) rfl) (fun z => th_en (Sy.th_in hm) (te z) rfl)
      have kl : ∀ x ∈ u.2.tg.lsts, H' x = H x := fun x hx => keep x (Sy.in_lsts (Sy.ls_in hm hx)) (Ne.symm (th_ls hta (Sy.ls_in hm hx))) (apL u hm ni x hx) (fun z => ls_en (Sy.ls_in hm hx) (te z) rfl)
      have ke : ∀ x ∈ u.2.tg.ents, H' x = H x := fun x hx => keep x (Sy.in_ents (Sy.en_in hm hx)) (Ne.symm (th_en hta (Sy.en_in hm hx))) (fun z => ls_en (tl z) (Sy.en_in hm hx) rfl) (apE u hm ni x hx)
      cases e : u.2.tg with
      | src dx v fi =>
        rw [e] at q
        exact ka.trans q
      | set dx L R es row =>
        rw [e] at q kl ke
        exact ⟨ka.trans q.1, (kl L (by simp [Tg.lsts])).trans q.2.1, (kl R (by simp [Tg.lsts])).trans q.2.2.1, fun x hx => (ke x.ad (List.mem_map.mpr ⟨x, hx, rfl⟩)).trans (q.2.2.2 x hx)⟩
    · exact ht
  · rw [Sy.re_ths' hl nd]
    exact S.nt
  · exact nodup_up (f := fun t : Th => t.tg.lsts) (y := ⟨t.ad, tg⟩) nd hl S.nl nl fun a ha => (hL a ha).imp id fun z q => z (Sy.in_lsts q)
  · exact nodup_up (f := fun t : Th => t.tg.ents) (y := ⟨t.ad, tg⟩) nd hl S.ne ne fun a ha => (hE a ha).imp id fun z q => z (Sy.in_ents q)
theorem Sy.re_foot (hl : lk s.ths n = some t) (nd : (s.ths.map (·.1)).Nodup) {b : Addr} (h : b ∈ (s.re n t.ad tg).foot) : b ∈ s.foot ∨ b ∈ tg.lsts ∨ b ∈ tg.ents := by
  rcases Sy.foot_cases h with z | z | z | z | z
  · exact .inl (z ▸ List.mem_cons_self)
  · exact .inl (Sy.in_dcs z)
  · rw [Sy.re_ths' hl nd] at z
    exact .inl (Sy.in_ths z)
  · rcases allF_up (f := fun t : Th => t.tg.lsts) z with ⟨u, hu, _, q⟩ | q
    · exact .inl (Sy.in_lsts (Sy.ls_in hu q))
    · exact .inr (.inl q)
  · rcases allF_up (f := fun t : Th => t.tg.ents) z with ⟨u, hu, _, q⟩ | q
    · exact .inl (Sy.in_ents (Sy.en_in hu q))
    · exact .inr (.inr q)
end
end Wn
namespace Wn
open PySem PySem.Spec PyProof.Rows L2 LamX He
def Tv.isSet : Tv → Bool
  | .src _ _ => false
  | .set _ _ => true
/-! ### the things of a system changed, their kinds kept -/
def Sv.mapT (v : Sv) (g : Int → Tv → Tv) : Sv := { v with ths := v.ths.map fun t => (t.1, g t.1 t.2) }
theorem mapT_keys (v : Sv) (g : Int → Tv → Tv) : (v.mapT g).ths.map (·.1) = v.ths.map (·.1) := by
  show (v.ths.map fun t => (t.1, g t.1 t.2)).map (·.1) = _
  rw [List.map_map]
  rfl
theorem lk_mapK {α β : Type} (f : Int → α → β) (n : Int) : ∀ l : List (Int × α), lk (l.map fun r => (r.1, f r.1 r.2)) n = (lk l n).map (f n)
  | [] => rfl
  | r :: l => by
    show lk ((r.1, f r.1 r.2) :: l.map fun r => (r.1, f r.1 r.2)) n = _
    by_cases e : r.1 = n
    · rw [lk_pos (r := (r.1, f r.1 r.2)) e, lk_pos e, e]
      rfl
    · rw [lk_neg (r := (r.1, f r.1 r.2)) e, lk_neg e, lk_mapK f n l]
theorem Sv.re_map (v : Sv) (n : Int) (tv : Tv) : v.re n tv = v.mapT fun k x => if k = n then tv else x := by
  unfold Sv.re Sv.mapT upAt
  congr 1
  refine List.map_congr_left fun t _ => ?_
  show (if t.1 = n then (t.1, tv) else t) = (t.1, if t.1 = n then tv else t.2)
  split <;> rfl
theorem WF.mapT {v : Sv} (h : WF v) {g : Int → Tv → Tv} (hk : ∀ t ∈ v.ths, (g t.1 t.2).isSet = t.2.isSet) (hs : ∀ t ∈ v.ths, ∀ es row, g t.1 t.2 = .set es row → SetOk v es row) : WF (v.mapT g) where
  p := h.p
  n := h.n
  ndp := h.ndp
  rp := h.rp
  ndn := h.ndn
  rn := h.rn
  th := fun t ht r hr => by rw [mapT_keys]; exact h.th t ht r hr
  nds := by rw [mapT_keys]; exact h.nds
  rs := fun t ht => by
    obtain ⟨u, hu, rfl⟩ := List.mem_map.mp ht
    exact h.rs u hu
  held := fun t ht => by
    obtain ⟨u, hu, rfl⟩ := List.mem_map.mp ht
    exact h.held u hu
  ok := fun t ht es row e => by
    obtain ⟨u, hu, rfl⟩ := List.mem_map.mp ht
    obtain ⟨k1, k2, k3, k4, k5, k6⟩ := hs u hu es row e
    refine ⟨k1, k2, k3, k4, fun x hx => ?_, k6⟩
    obtain ⟨un, fi, q⟩ := k5 x hx
    have z : lk (v.mapT g).ths x.ser = some (g x.ser (.src un fi)) := by
      show lk (v.ths.map fun t => (t.1, g t.1 t.2)) x.ser = _
      rw [lk_mapK g, q]
      rfl
    have y := hk _ (lk_mem q)
    cases c : g x.ser (.src un fi) with
    | src a b => exact ⟨a, b, by rw [z, c]⟩
    | set a b =>
      rw [show g (x.ser, Tv.src un fi).1 (x.ser, Tv.src un fi).2 = g x.ser (.src un fi) from rfl, c] at y
      cases y
/-! ### pending -/
def pendR (row : List Int) (lab : Int) (arm : Bool) : List Int := if arm = true ∧ lab ∉ row then row ++ [lab] else row
def RowOk (es : List Ev) (row : List Int) : Prop := row.Nodup ∧ ∀ x ∈ row, ∃ e ∈ es, e.lab = x ∧ e.arm = true
theorem pendR_ok {es : List Ev} {row : List Int} {e : Ev} (h : RowOk es row) (he : e ∈ es) : RowOk es (pendR row e.lab e.arm) := by
  unfold pendR
  split
  · rename_i c
    refine ⟨nd_snoc h.1 c.2, fun x hx => ?_⟩
    rcases List.mem_append.mp hx with z | z
    · exact h.2 x z
    · cases List.mem_singleton.mp z
      exact ⟨e, he, rfl, c.1⟩
  · exact h
theorem nodup_le : ∀ {l m : List Int}, l.Nodup → (∀ x ∈ l, x ∈ m) → l.length ≤ m.length
  | [], _, _, _ => Nat.zero_le _
  | a :: l, m, nd, h => by
    obtain ⟨n1, n2⟩ := List.nodup_cons.mp nd
    have hm := h a List.mem_cons_self
    have k := nodup_le (m := m.erase a) n2 fun x hx => (List.mem_erase_of_ne (show x ≠ a from fun z => n1 (z ▸ hx))).mpr (h x (List.mem_cons_of_mem _ hx))
    rw [List.length_erase_of_mem hm] at k
    have := List.length_pos_of_mem hm
    rw [List.length_cons]
    omega
theorem RowOk.len {es : List Ev} {row : List Int} (h : RowOk es row) : row.length ≤ es.length := by
  have := nodup_le (m := es.map (·.lab)) h.1 fun x hx => by
    obtain ⟨e, he, q, _⟩ := h.2 x hx
    exact List.mem_map.mpr ⟨e, he, q⟩
  rw [List.length_map] at this
  exact this
theorem SetOk.row {v : Sv} {es : List Ev} {row : List Int} (h : SetOk v es row) : RowOk es row := ⟨h.2.2.1, h.2.2.2.1⟩
end Wn
/-! the law's level: values, objects by places, what they stand for in the heap -/
namespace Wn
open PySem PySem.Spec PyProof.Rows L2 LamX He

inductive Val where
  | non | bl (b : Bool) | int (i : Int) | str (x : Str) | tup (vs : List Val) | loc (n : Nat)
inductive Ob where
  | lst (vs : List Val)
  | dct (kvs : List (Key × Val))
  | ro (vs : List Val)
  | rod (kvs : List (Key × Val))
  | sys (v : Sv)
structure Mu where
  nx : Nat
  ob : Nat → Option Ob
def Mu.put (μ : Mu) (n : Nat) (o : Ob) : Mu := ⟨μ.nx, fun m => if m = n then some o else μ.ob m⟩
def Mu.new (μ : Mu) (o : Ob) : Mu := ⟨μ.nx + 1, fun m => if m = μ.nx then some o else μ.ob m⟩
theorem Mu.put_nx (μ : Mu) (n : Nat) (o : Ob) : (μ.put n o).nx = μ.nx := rfl
theorem Mu.new_nx (μ : Mu) (o : Ob) : (μ.new o).nx = μ.nx + 1 := rfl
theorem Mu.put_same (μ : Mu) (n : Nat) (o : Ob) : (μ.put n o).ob n = some o := if_pos rfl
theorem Mu.put_ne (μ : Mu) {n m : Nat} (o : Ob) (h : m ≠ n) : (μ.put n o).ob m = μ.ob m := if_neg h
theorem Mu.new_same (μ : Mu) (o : Ob) : (μ.new o).ob μ.nx = some o := if_pos rfl
theorem Mu.new_ne (μ : Mu) {m : Nat} (o : Ob) (h : m ≠ μ.nx) : (μ.new o).ob m = μ.ob m := if_neg h
/-- the places' addresses, the systems' parts -/
structure Wt where
  ad : Nat → Addr
  sy : Nat → Sy
  /-- whose dict is locked at an address -/
  own : Addr → Nat

mutual
inductive VR (K : PySem.W.Frag) (ad : Nat → Addr) (b : Nat) (H : Hp) : Val → V → Prop
  | non : VR K ad b H .non .non
  | bl (x : Bool) : VR K ad b H (.bl x) (.bl x)
  | int (i : Int) : VR K ad b H (.int i) (.int i)
  | str (x : Str) : VR K ad b H (.str x) (.str x)
  | tup {a : Addr} {vs : List Val} {us : List V} : SqT K H a us → VRs K ad b H vs us → VR K ad b H (.tup vs) (.ref a)
  | loc {n : Nat} : n < b → VR K ad b H (.loc n) (.ref (ad n))
inductive VRs (K : PySem.W.Frag) (ad : Nat → Addr) (b : Nat) (H : Hp) : List Val → List V → Prop
  | nil : VRs K ad b H [] []
  | cons {v : Val} {vs : List Val} {u : V} {us : List V} : VR K ad b H v u → VRs K ad b H vs us → VRs K ad b H (v :: vs) (u :: us)
end
structure Grow0 (K : PySem.W.Frag) (w : Wt) (b : Nat) (H : Hp) (w' : Wt) (b' : Nat) (H' : Hp) : Prop where
  le : b ≤ b'
  ad : ∀ n, n < b → w'.ad n = w.ad n
  tp : ∀ a xs, SqT K H a xs → SqT K H' a xs
structure Grow (K : PySem.W.Frag) (w : Wt) (b : Nat) (H : Hp) (w' : Wt) (b' : Nat) (H' : Hp) : Prop extends Grow0 K w b H w' b' H' where
  fz : ∀ a o u, H a = some (.frz o u) → H' a = some (.frz o u)
theorem Grow.refl {K : PySem.W.Frag} {w : Wt} {b : Nat} {H : Hp} : Grow K w b H w b H := ⟨⟨Nat.le_refl _, fun _ _ => rfl, fun _ _ h => h⟩, fun _ _ _ h => h⟩
theorem Grow.trans {K : PySem.W.Frag} {w w1 w2 : Wt} {b b1 b2 : Nat} {H H1 H2 : Hp} (x : Grow K w b H w1 b1 H1) (y : Grow K w1 b1 H1 w2 b2 H2) : Grow K w b H w2 b2 H2 :=
  ⟨⟨Nat.le_trans x.le y.le, fun n h => (y.ad n (Nat.lt_of_lt_of_le h x.le)).trans (x.ad n h), fun a xs h => y.tp a xs (x.tp a xs h)⟩, fun a o u h => y.fz a o u (x.fz a o u h)⟩
mutual
theorem VR.grow0 {K : PySem.W.Frag} {w w' : Wt} {b b' : Nat} {H H' : Hp} (g : Grow0 K w b H w' b' H') : ∀ {v : Val} {u : V}, VR K w.ad b H v u → VR K w'.ad b' H' v u
  | _, _, .non => .non
  | _, _, .bl x => .bl x
  | _, _, .int x => .int x
  | _, _, .str x => .str x
  | _, _, .tup h r => .tup (g.tp _ _ h) (VRs.grow0 g r)
  | _, _, .loc (n := n) h => by
    have z := VR.loc (K := K) (ad := w'.ad) (H := H') (Nat.lt_of_lt_of_le h g.le)
    rw [g.ad n h] at z
    exact z
theorem VRs.grow0 {K : PySem.W.Frag} {w w' : Wt} {b b' : Nat} {H H' : Hp} (g : Grow0 K w b H w' b' H') : ∀ {v : List Val} {u : List V}, VRs K w.ad b H v u → VRs K w'.ad b' H' v u
  | _, _, .nil => .nil
  | _, _, .cons h r => .cons (VR.grow0 g h) (VRs.grow0 g r)
end
theorem VR.grow {K : PySem.W.Frag} {w w' : Wt} {b b' : Nat} {H H' : Hp} (g : Grow K w b H w' b' H') {v : Val} {u : V} (h : VR K w.ad b H v u) : VR K w'.ad b' H' v u := h.grow0 g.toGrow0
theorem VRs.grow {K : PySem.W.Frag} {w w' : Wt} {b b' : Nat} {H H' : Hp} (g : Grow K w b H w' b' H') {v : List Val} {u : List V} (h : VRs K w.ad b H v u) : VRs K w'.ad b' H' v u := h.grow0 g.toGrow0
section
variable {K : PySem.W.Frag} {ad : Nat → Addr} {b : Nat} {H : Hp}
theorem VRs.length : ∀ {vs : List Val} {us : List V}, VRs K ad b H vs us → us.length = vs.length
  | _, _, .nil => rfl
  | _, _, .cons _ r => by simp [r.length]
theorem VRs.get : ∀ {vs : List Val} {us : List V}, VRs K ad b H vs us → ∀ (i : Nat) (v : Val), vs[i]? = some v → ∃ u, us[i]? = some u ∧ VR K ad b H v u
  | _, _, .nil, _, _, h => by simp at h
  | _, _, .cons (u := u) h r, 0, v, e => by
    simp at e
    subst e
    exact ⟨u, by simp, h⟩
  | _, _, .cons _ r, i + 1, v, e => by
    obtain ⟨u, h1, h2⟩ := r.get i v (by simpa using e)
    exact ⟨u, by simpa using h1, h2⟩
theorem VRs.app : ∀ {vs vs' : List Val} {us us' : List V}, VRs K ad b H vs us → VRs K ad b H vs' us' → VRs K ad b H (vs ++ vs') (us ++ us')
  | _, _, _, _, .nil, s => s
  | _, _, _, _, .cons h r, s => .cons h (r.app s)
theorem VRs.one {v : Val} {u : V} (h : VR K ad b H v u) : VRs K ad b H [v] [u] := .cons h .nil
theorem VRs.take : ∀ {vs : List Val} {us : List V} (n : Nat), VRs K ad b H vs us → VRs K ad b H (vs.take n) (us.take n)
  | _, _, 0, _ => by simp; exact .nil
  | _, _, n + 1, .nil => by simp; exact .nil
  | _, _, n + 1, .cons h r => .cons h (r.take n)
theorem VRs.drop : ∀ {vs : List Val} {us : List V} (n : Nat), VRs K ad b H vs us → VRs K ad b H (vs.drop n) (us.drop n)
  | _, _, 0, r => r
  | _, _, n + 1, .nil => by simp; exact .nil
  | _, _, n + 1, .cons h r => r.drop n
theorem VRs.set : ∀ {vs : List Val} {us : List V} (n : Nat) {v : Val} {u : V}, VRs K ad b H vs us → VR K ad b H v u → VRs K ad b H (vs.set n v) (us.set n u)
  | _, _, _, _, _, .nil, _ => by simp; exact .nil
  | _, _, 0, _, _, .cons h r, q => .cons q r
  | _, _, n + 1, _, _, .cons h r, q => .cons h (r.set n q)
theorem VRs.erase : ∀ {vs : List Val} {us : List V} (n : Nat), VRs K ad b H vs us → VRs K ad b H (vs.eraseIdx n) (us.eraseIdx n)
  | _, _, _, .nil => by simp; exact .nil
  | _, _, 0, .cons h r => r
  | _, _, n + 1, .cons h r => .cons h (r.erase n)
theorem VRs.ints : ∀ (l : List Int), VRs K ad b H (l.map Val.int) (l.map V.int)
  | [] => .nil
  | _ :: l => .cons (.int _) (VRs.ints l)
theorem VRs.flat : ∀ (k : Nat) {vs : List Val} {us : List V}, VRs K ad b H vs us → VRs K ad b H (List.replicate k vs).flatten (List.replicate k us).flatten
  | 0, _, _, _ => .nil
  | k + 1, vs, us, h => by
    rw [List.replicate_succ, List.replicate_succ, List.flatten_cons, List.flatten_cons]
    exact h.app (VRs.flat k h)
end
/-- a list that is never written -/
def RoL (K : PySem.W.Frag) (H : Hp) (a : Addr) (us : List V) : Prop := (∃ o, H a = some (.frz o (.lst us))) ∨ ∃ (o : Obj) (its : Array Value) (n : Nat), K.lookup a = some o ∧ o.cls = .type "list" ∧ o.dict = none ∧ o.data = .seq its n ∧ its.size ≤ sizeLine ∧ Vals us its.toList
theorem RoL.sq {K : PySem.W.Frag} {H : Hp} {a : Addr} {us : List V} (h : RoL K H a us) : SqL K H a us := by
  rcases h with h | h
  · exact .inl (.inr h)
  · exact .inr h
def ObR (K : PySem.W.Frag) (w : Wt) (b : Nat) (H : Hp) (n : Nat) : Ob → Prop
  | .lst vs => ∃ us, H (w.ad n) = some (.lst us) ∧ VRs K w.ad b H vs us
  | .dct kvs => ∃ us, H (w.ad n) = some (.dK us) ∧ us.map (·.1) = kvs.map (·.1) ∧ VRs K w.ad b H (kvs.map (·.2)) (us.map (·.2))
  | .ro vs => ∃ us, RoL K H (w.ad n) us ∧ VRs K w.ad b H vs us
  | .rod kvs => w.own (w.ad n) = n ∧ ∃ o us, H (w.ad n) = some (.frz o (.dK us)) ∧ us.map (·.1) = kvs.map (·.1) ∧ VRs K w.ad b H (kvs.map (·.2)) (us.map (·.2))
  | .sys v => (w.sy n).p = w.ad n ∧ SyAt K H (w.sy n) ∧ (w.sy n).v = v ∧ WF v
def ft (w : Wt) (n : Nat) : Option Ob → List Addr
  | some (.lst _) => [w.ad n]
  | some (.dct _) => [w.ad n]
  | some (.sys _) => (w.sy n).foot
  | _ => []
/-- what may be written: a list, a dict, an instance -/
def isM : HO → Bool
  | .lst _ => true
  | .dK _ => true
  | .ins _ _ _ => true
  | _ => false
/-- the tables of code objects of the defs that make lambdas -/
def TbK (K : PySem.W.Frag) : List (Addr × Str) := lamL.map fun x => ((cT K (x, none)).2, x ++ ".<locals>." ++ "<lambda>")
theorem tabs_keep {K : PySem.W.Frag} {H H' : Hp} {T : List (Addr × Str)} (t : Tabs T H) (k : ∀ a o, H a = some o → isM o = false → H' a = some o) : Tabs T H' := fun p hp => by
  obtain ⟨ps, h1, h2, h3⟩ := t p hp
  refine ⟨ps, k _ _ h1 rfl, h2, fun pos cv hc => ?_⟩
  obtain ⟨c, e1, e2⟩ := h3 pos cv hc
  exact ⟨c, e1, k _ _ e2 rfl⟩
structure Sim (K : PySem.W.Frag) (w : Wt) (μ : Mu) (H : Hp) : Prop where
  bd : ∀ n, μ.nx ≤ n → μ.ob n = none
  ok : ∀ n o, μ.ob n = some o → ObR K w μ.nx H n o
  dj : ∀ n m, n ≠ m → ∀ a ∈ ft w n (μ.ob n), a ∉ ft w m (μ.ob m)
  tb : Tabs (TbK K) H
section
variable {K : PySem.W.Frag} {w w' : Wt} {μ : Mu} {H H' : Hp}
theorem Sim.lt (S : Sim K w μ H) {n : Nat} {o : Ob} (h : μ.ob n = some o) : n < μ.nx := by
  rcases Nat.lt_or_ge n μ.nx with z | z
  · exact z
  · rw [S.bd n z] at h
    cases h
theorem foot_m {s : Sy} (S : SyAt K H s) {a : Addr} (h : a ∈ s.foot) : ∃ o, H a = some o ∧ isM o = true := by
  rcases List.mem_cons.mp h with z | z
  · subst z
    exact ⟨_, S.ob, rfl⟩
  · rcases List.mem_append.mp z with z | z
    · obtain ⟨k, q⟩ := S.dc z
      exact ⟨_, q, rfl⟩
    · rcases List.mem_append.mp z with z | z
      · obtain ⟨C, dx, fs, _, _, q⟩ := S.th' z
        exact ⟨_, q, rfl⟩
      · rcases List.mem_append.mp z with z | z
        · obtain ⟨xs, q⟩ := S.ls z
          exact ⟨_, q, rfl⟩
        · obtain ⟨dx, fs, _, _, q⟩ := S.en z
          exact ⟨_, q, rfl⟩
theorem Sim.ftm (S : Sim K w μ H) {n : Nat} {a : Addr} (h : a ∈ ft w n (μ.ob n)) : ∃ o, H a = some o ∧ isM o = true := by
  cases e : μ.ob n with
  | none => rw [e] at h; cases h
  | some o =>
    have q := S.ok n o e
    rw [e] at h
    cases o with
    | lst vs =>
      obtain ⟨us, q, _⟩ := q
      cases List.mem_singleton.mp h
      exact ⟨_, q, rfl⟩
    | dct kvs =>
      obtain ⟨us, q, _⟩ := q
      cases List.mem_singleton.mp h
      exact ⟨_, q, rfl⟩
    | ro vs => cases h
    | rod kvs => cases h
    | sys v => exact foot_m q.2.1 h
theorem sqt_keep (k : ∀ a o, H a = some o → isM o = false → H' a = some o) {a : Addr} {xs : List V} (h : SqT K H a xs) : SqT K H' a xs := by
  rcases h with (h | ⟨o, h⟩) | h
  · exact .inl (.inl (k _ _ h rfl))
  · exact .inl (.inr ⟨o, k _ _ h rfl⟩)
  · exact .inr h
theorem rol_keep (k : ∀ a o, H a = some o → isM o = false → H' a = some o) {a : Addr} {xs : List V} (h : RoL K H a xs) : RoL K H' a xs := by
  rcases h with ⟨o, h⟩ | h
  · exact .inl ⟨o, k _ _ h rfl⟩
  · exact .inr h
/-- an object whose part of the heap stands as before -/
theorem ObR.keep {b b' : Nat} {n : Nat} {o : Ob} (h : ObR K w b H n o) (g : Grow K w b H w' b' H') (hn : n < b) (hs : w'.sy n = w.sy n) (ho : ∀ a, (∃ o u, H a = some (.frz o u)) → w'.own a = w.own a) (k : ∀ a o, H a = some o → isM o = false → H' a = some o) (kf : ∀ a u, a ∈ ft w n (some o) → H a = some u → H' a = some u) : ObR K w' b' H' n o := by
  have ea := g.ad n hn
  cases o with
  | lst vs =>
    obtain ⟨us, h1, h2⟩ := h
    refine ⟨us, ?_, h2.grow g⟩
    rw [ea]
    exact kf _ _ (by simp [ft]) h1
  | dct kvs =>
    obtain ⟨us, h1, h2, h3⟩ := h
    refine ⟨us, ?_, h2, h3.grow g⟩
    rw [ea]
    exact kf _ _ (by simp [ft]) h1
  | ro vs =>
    obtain ⟨us, h1, h2⟩ := h
    refine ⟨us, ?_, h2.grow g⟩
    rw [ea]
    exact rol_keep k h1
  | rod kvs =>
    obtain ⟨h0, o, us, h1, h2, h3⟩ := h
    refine ⟨?_, o, us, ?_, h2, h3.grow g⟩
    · rw [ea, ho _ ⟨_, _, h1⟩]
      exact h0
    · rw [ea]
      exact k _ _ h1 rfl
  | sys v =>
    obtain ⟨h1, h2, h3, h4⟩ := h
    refine ⟨by rw [ea, hs]; exact h1, by rw [hs]; exact h2.same fun b o e m => kf b o m e, by rw [hs]; exact h3, h4⟩
/-- the heap grows -/
theorem Sim.same (S : Sim K w μ H) (e : Same H H') : Sim K w μ H' ∧ Grow K w μ.nx H w μ.nx H' := by
  have g : Grow K w μ.nx H w μ.nx H' := ⟨⟨Nat.le_refl _, fun _ _ => rfl, fun a xs h => sqt_keep (fun a o h _ => e a o h) h⟩, fun a o u h => e _ _ h⟩
  exact ⟨⟨S.bd, fun n o h => (S.ok n o h).keep g (S.lt h) rfl (fun _ _ => rfl) (fun a o h _ => e a o h) (fun a u _ h => e a u h), S.dj, S.tb.ext e⟩, g⟩
/-- the tables grow -/
theorem Sim.extN (S : Sim K w μ H) (e : ExtN H H') (t : Tabs (TbK K) H') : Sim K w μ H' ∧ Grow K w μ.nx H w μ.nx H' := by
  have k1 : ∀ a o, H a = some o → isM o = true → H' a = some o := fun a o h z => e a o h (fun ps q => by subst q; cases z)
  have k0 : ∀ a o xs, H a = some o → (o = .tup xs ∨ ∃ q y, o = .frz q y) → H' a = some o := fun a o xs h z => e a o h (fun ps q => by
    subst q
    rcases z with z | ⟨_, _, z⟩ <;> cases z)
  have g : Grow K w μ.nx H w μ.nx H' := ⟨⟨Nat.le_refl _, fun _ _ => rfl, fun a xs h => by
    rcases h with (h | ⟨o, h⟩) | h
    · exact .inl (.inl (k0 _ _ xs h (.inl rfl)))
    · exact .inl (.inr ⟨o, k0 _ _ xs h (.inr ⟨_, _, rfl⟩)⟩)
    · exact .inr h⟩, fun a o u h => k0 _ _ [] h (.inr ⟨_, _, rfl⟩)⟩
  refine ⟨⟨S.bd, fun n o h => ?_, S.dj, t⟩, g⟩
  have q := S.ok n o h
  have fm : ∀ a u, a ∈ ft w n (some o) → H a = some u → H' a = some u := fun a u m z => by
    obtain ⟨u', h', q'⟩ := S.ftm (n := n) (by rw [h]; exact m)
    rw [z] at h'
    cases h'
    exact k1 a u z q'
  cases o with
  | lst vs =>
    obtain ⟨us, h1, h2⟩ := q
    exact ⟨us, fm _ _ (by simp [ft]) h1, h2.grow g⟩
  | dct kvs =>
    obtain ⟨us, h1, h2, h3⟩ := q
    exact ⟨us, fm _ _ (by simp [ft]) h1, h2, h3.grow g⟩
  | ro vs =>
    obtain ⟨us, h1, h2⟩ := q
    refine ⟨us, ?_, h2.grow g⟩
    rcases h1 with ⟨o, h1⟩ | h1
    · exact .inl ⟨o, k0 _ _ us h1 (.inr ⟨_, _, rfl⟩)⟩
    · exact .inr h1
  | rod kvs =>
    obtain ⟨h0, o, us, h1, h2, h3⟩ := q
    exact ⟨h0, o, us, k0 _ _ [] h1 (.inr ⟨_, _, rfl⟩), h2, h3.grow g⟩
  | sys v =>
    obtain ⟨h1, h2, h3, h4⟩ := q
    exact ⟨h1, h2.same fun b o e m => fm b o m e, h3, h4⟩
/-- one object changes -/
theorem Sim.step (S : Sim K w μ H) {n : Nat} {o o' : Ob} (hn : μ.ob n = some o) (ha : w'.ad = w.ad) (hs : ∀ m, m ≠ n → w'.sy m = w.sy m) (k : ∀ a u, H a = some u → a ∉ ft w n (some o) → H' a = some u) (hf : ∀ a ∈ ft w' n (some o'), a ∈ ft w n (some o) ∨ H a = none)
    (hr : Grow K w μ.nx H w' μ.nx H' → ObR K w' μ.nx H' n o') (ho : ∀ a, (∃ o u, H a = some (.frz o u)) → w'.own a = w.own a := by exact fun _ _ => rfl) : Sim K w' (μ.put n o') H' ∧ Grow K w μ.nx H w' μ.nx H' := by
  have fm : ∀ a ∈ ft w n (some o), ∃ u, H a = some u ∧ isM u = true := fun a h => S.ftm (n := n) (by rw [hn]; exact h)
  have km : ∀ a u, H a = some u → isM u = false → H' a = some u := fun a u h z => k a u h fun m => by
    obtain ⟨u', h', q⟩ := fm a m
    rw [h] at h'
    cases h'
    rw [z] at q
    cases q
  have g : Grow K w μ.nx H w' μ.nx H' := ⟨⟨Nat.le_refl _, fun m _ => by rw [ha], fun a xs h => sqt_keep km h⟩, fun a o u h => km _ _ h rfl⟩
  have fo : ∀ m, m ≠ n → ∀ p, ft w' m p = ft w m p := fun m hm p => by
    unfold ft
    rw [ha, hs m hm]
  have disj : ∀ m, m ≠ n → ∀ a ∈ ft w' n (some o'), a ∉ ft w m (μ.ob m) := fun m hm a h z => by
    rcases hf a h with q | q
    · exact S.dj n m (Ne.symm hm) a (by rw [hn]; exact q) z
    · obtain ⟨u, h', _⟩ := S.ftm z
      rw [q] at h'
      cases h'
  refine ⟨⟨fun m h => ?_, fun m p h => ?_, fun m1 m2 hm a h1 h2 => ?_, tabs_keep (K := K) S.tb km⟩, g⟩
  · have : m ≠ n := fun z => by
      have := S.lt hn
      rw [z] at h
      exact absurd this (Nat.not_lt.mpr h)
    rw [Mu.put_ne _ _ this]
    exact S.bd m h
  · by_cases e : m = n
    · subst e
      rw [Mu.put_same] at h
      cases h
      exact hr g
    · rw [Mu.put_ne _ _ e] at h
      exact (S.ok m p h).keep g (S.lt h) (hs m e) ho km fun a u m' h' => k a u h' fun z => S.dj m n e a (by rw [h]; exact m') (by rw [hn]; exact z)
  · by_cases e1 : m1 = n
    · subst e1
      rw [Mu.put_same] at h1
      rw [Mu.put_ne _ _ (Ne.symm hm), fo m2 (Ne.symm hm)] at h2
      exact disj m2 (Ne.symm hm) a h1 h2
    · by_cases e2 : m2 = n
      · subst e2
        rw [Mu.put_same] at h2
        rw [Mu.put_ne _ _ e1, fo m1 e1] at h1
        exact disj m1 e1 a h2 h1
      · rw [Mu.put_ne _ _ e1, fo m1 e1] at h1
        rw [Mu.put_ne _ _ e2, fo m2 e2] at h2
        exact S.dj m1 m2 hm a h1 h2
def Wt.add (w : Wt) (n : Nat) (p : Addr) (s : Sy) : Wt := ⟨fun m => if m = n then p else w.ad m, fun m => if m = n then s else w.sy m, w.own⟩
theorem Wt.add_ad (w : Wt) (n : Nat) (p : Addr) (s : Sy) : (w.add n p s).ad n = p := if_pos rfl
theorem Wt.add_sy (w : Wt) (n : Nat) (p : Addr) (s : Sy) : (w.add n p s).sy n = s := if_pos rfl
theorem Wt.add_ne (w : Wt) {n m : Nat} (p : Addr) (s : Sy) (h : m ≠ n) : (w.add n p s).ad m = w.ad m ∧ (w.add n p s).sy m = w.sy m := ⟨if_neg h, if_neg h⟩
/-- an object that stands in the heap is taken in -/
theorem Sim.add (S : Sim K w μ H) {p : Addr} {s : Sy} {o : Ob} (hf : ∀ a ∈ ft (w.add μ.nx p s) μ.nx (some o), ∀ m, a ∉ ft w m (μ.ob m)) (hr : Grow K w μ.nx H (w.add μ.nx p s) (μ.nx + 1) H → ObR K (w.add μ.nx p s) (μ.nx + 1) H μ.nx o) :
    Sim K (w.add μ.nx p s) (μ.new o) H ∧ Grow K w μ.nx H (w.add μ.nx p s) (μ.nx + 1) H := by
  have g : Grow K w μ.nx H (w.add μ.nx p s) (μ.nx + 1) H := ⟨⟨Nat.le_succ _, fun n h => (w.add_ne p s (Nat.ne_of_lt h)).1, fun _ _ h => h⟩, fun _ _ _ h => h⟩
  have fo : ∀ m, m ≠ μ.nx → ∀ q, ft (w.add μ.nx p s) m q = ft w m q := fun m hm q => by
    unfold ft
    rw [(w.add_ne p s hm).1, (w.add_ne p s hm).2]
  refine ⟨⟨fun m h => ?_, fun m q h => ?_, fun m1 m2 hm a h1 h2 => ?_, S.tb⟩, g⟩
  · have h : μ.nx + 1 ≤ m := h
    rw [Mu.new_ne _ _ (by omega)]
    exact S.bd m (by omega)
  · by_cases e : m = μ.nx
    · subst e
      rw [Mu.new_same] at h
      cases h
      exact hr g
    · rw [Mu.new_ne _ _ e] at h
      exact (S.ok m q h).keep g (S.lt h) (w.add_ne p s e).2 (fun _ _ => rfl) (fun _ _ h _ => h) (fun _ _ _ h => h)
  · by_cases e1 : m1 = μ.nx
    · subst e1
      rw [Mu.new_same] at h1
      rw [Mu.new_ne _ _ (Ne.symm hm), fo m2 (Ne.symm hm)] at h2
      exact hf a h1 m2 h2
    · by_cases e2 : m2 = μ.nx
      · subst e2
        rw [Mu.new_same] at h2
        rw [Mu.new_ne _ _ e1, fo m1 e1] at h1
        exact hf a h2 m1 h1
      · rw [Mu.new_ne _ _ e1, fo m1 e1] at h1
        rw [Mu.new_ne _ _ e2, fo m2 e2] at h2
        exact S.dj m1 m2 hm a h1 h2
/-- a new list is laid -/
theorem Sim.newL (S : Sim K w μ H) {p : Addr} (hp : H p = none) {vs : List Val} {us : List V} (r : VRs K w.ad μ.nx H vs us) : ∃ w', Sim K w' (μ.new (.lst vs)) (upd H p (.lst us)) ∧ Grow K w μ.nx H w' (μ.nx + 1) (upd H p (.lst us)) ∧ w'.ad μ.nx = p := by
  obtain ⟨S1, g1⟩ := S.same (H' := upd H p (.lst us)) (fun b o h => by rw [upd_ne (ne_of_none h hp)]; exact h)
  obtain ⟨S2, g2⟩ := S1.add (p := p) (s := w.sy 0) (o := .lst vs) (fun a ha m z => by
    have e : a = p := by simpa [ft, Wt.add] using ha
    subst e
    obtain ⟨u, h, _⟩ := S.ftm z
    rw [hp] at h
    cases h) (fun g => ⟨us, by rw [Wt.add_ad]; exact upd_same, (r.grow g1).grow g⟩)
  exact ⟨_, S2, g1.trans g2, Wt.add_ad ..⟩
/-- a new tuple is laid -/
theorem Sim.newT (S : Sim K w μ H) {p : Addr} (hp : H p = none) {vs : List Val} {us : List V} (r : VRs K w.ad μ.nx H vs us) : Sim K w μ (upd H p (.tup us)) ∧ Grow K w μ.nx H w μ.nx (upd H p (.tup us)) ∧ VR K w.ad μ.nx (upd H p (.tup us)) (.tup vs) (.ref p) := by
  obtain ⟨S1, g1⟩ := S.same (H' := upd H p (.tup us)) (fun b o h => by rw [upd_ne (ne_of_none h hp)]; exact h)
  exact ⟨S1, g1, .tup (SqT.of upd_same) (r.grow g1)⟩
theorem Sim.newD (S : Sim K w μ H) {p : Addr} (hp : H p = none) {kvs : List (Key × Val)} {us : List (Key × V)} (hk : us.map (·.1) = kvs.map (·.1)) (r : VRs K w.ad μ.nx H (kvs.map (·.2)) (us.map (·.2))) : ∃ w', Sim K w' (μ.new (.dct kvs)) (upd H p (.dK us)) ∧ Grow K w μ.nx H w' (μ.nx + 1) (upd H p (.dK us)) ∧ w'.ad μ.nx = p := by
  obtain ⟨S1, g1⟩ := S.same (H' := upd H p (.dK us)) (fun b o h => by rw [upd_ne (ne_of_none h hp)]; exact h)
  obtain ⟨S2, g2⟩ := S1.add (p := p) (s := w.sy 0) (o := .dct kvs) (fun a ha m z => by
    have e : a = p := by simpa [ft, Wt.add] using ha
    subst e
    obtain ⟨u, h, _⟩ := S.ftm z
    rw [hp] at h
    cases h) (fun g => ⟨us, by rw [Wt.add_ad]; exact upd_same, hk, (r.grow g1).grow g⟩)
  exact ⟨_, S2, g1.trans g2, Wt.add_ad ..⟩
/-- a list, a dict is written -/
theorem Sim.setL (S : Sim K w μ H) {n : Nat} {vs0 vs : List Val} {us : List V} (hn : μ.ob n = some (.lst vs0)) (r : VRs K w.ad μ.nx H vs us) : Sim K w (μ.put n (.lst vs)) (upd H (w.ad n) (.lst us)) ∧ Grow K w μ.nx H w μ.nx (upd H (w.ad n) (.lst us)) := by
  refine S.step hn rfl (fun _ _ => rfl) (fun a u h m => ?_) (fun a h => .inl h) (fun g => ⟨us, upd_same, r.grow g⟩)
  rw [upd_ne (fun z => m (by simp [ft, z]))]
  exact h
theorem Sim.setD (S : Sim K w μ H) {n : Nat} {k0 kvs : List (Key × Val)} {us : List (Key × V)} (hn : μ.ob n = some (.dct k0)) (hk : us.map (·.1) = kvs.map (·.1)) (r : VRs K w.ad μ.nx H (kvs.map (·.2)) (us.map (·.2))) : Sim K w (μ.put n (.dct kvs)) (upd H (w.ad n) (.dK us)) ∧ Grow K w μ.nx H w μ.nx (upd H (w.ad n) (.dK us)) := by
  refine S.step hn rfl (fun _ _ => rfl) (fun a u h m => ?_) (fun a h => .inl h) (fun g => ⟨us, upd_same, hk, r.grow g⟩)
  rw [upd_ne (fun z => m (by simp [ft, z]))]
  exact h
/-- a system is changed by a call -/
theorem Sim.setS (S : Sim K w μ H) {n : Nat} {v0 v : Sv} {s' : Sy} (hn : μ.ob n = some (.sys v0)) (h1 : SyAt K H' s') (h2 : s'.v = v) (h3 : WF v) (f : Fr' (w.sy n) s' H H') : ∃ w', Sim K w' (μ.put n (.sys v)) H' ∧ Grow K w μ.nx H w' μ.nx H' ∧ (∀ m, w'.ad m = w.ad m) ∧ (∀ m, m ≠ n → w'.sy m = w.sy m) ∧ w'.sy n = s' := by
  obtain ⟨q1, q2⟩ := S.step (w' := ⟨w.ad, fun m => if m = n then s' else w.sy m, w.own⟩) (H' := H') (o' := .sys v) hn rfl (fun m hm => if_neg hm) (fun a u h m => f.keep a u h m) (fun a h => by
    have h : a ∈ (if n = n then s' else w.sy n).foot := h
    rw [if_pos rfl] at h
    exact f.foot a h) (fun g => by
    show (if n = n then s' else w.sy n).p = w.ad n ∧ SyAt K H' (if n = n then s' else w.sy n) ∧ (if n = n then s' else w.sy n).v = v ∧ WF v
    rw [if_pos rfl]
    exact ⟨f.same.trans (S.ok n _ hn).1, h1, h2, h3⟩)
  exact ⟨_, q1, q2, fun _ => rfl, fun m hm => if_neg hm, if_pos rfl⟩
/-- a new system is taken in -/
theorem Sim.newS (S : Sim K w μ H) {v : Sv} {s : Sy} (e : Same H H') (h1 : SyAt K H' s) (h2 : s.v = v) (h3 : WF v) (f : ∀ c ∈ s.foot, H c = none) : ∃ w', Sim K w' (μ.new (.sys v)) H' ∧ Grow K w μ.nx H w' (μ.nx + 1) H' ∧ w'.ad μ.nx = s.p := by
  obtain ⟨S1, g1⟩ := S.same e
  obtain ⟨S2, g2⟩ := S1.add (p := s.p) (s := s) (o := .sys v) (fun a ha m z => by
    have ha : a ∈ ((w.add μ.nx s.p s).sy μ.nx).foot := ha
    rw [Wt.add_sy] at ha
    obtain ⟨u, h, _⟩ := S.ftm z
    rw [f a ha] at h
    cases h) (fun g => by
    show ((w.add μ.nx s.p s).sy μ.nx).p = (w.add μ.nx s.p s).ad μ.nx ∧ SyAt K H' ((w.add μ.nx s.p s).sy μ.nx) ∧ ((w.add μ.nx s.p s).sy μ.nx).v = v ∧ WF v
    rw [Wt.add_sy, Wt.add_ad]
    exact ⟨rfl, h1, h2, h3⟩)
  exact ⟨_, S2, g1.trans g2, Wt.add_ad ..⟩
end
section
variable {K : PySem.W.Frag} {w w' : Wt} {μ : Mu} {H H' : Hp} {n : Nat} {kvs : List (Key × Val)} {us : List (Key × V)} {o : Obj}
end
end Wn
/-! the law's level: expressions -/
namespace Wn
open PySem PySem.Spec PyProof.Rows L2 LamX He

inductive R (α : Type) where
  | ok (a : α) (μ : Mu)
  | er (c : Str) (fs : List (Str × Val)) (μ : Mu)
  | no
def R.bind {α β : Type} (r : R α) (k : α → Mu → R β) : R β := match r with
  | .ok a μ => k a μ
  | .er c fs μ => .er c fs μ
  | .no => .no
@[simp] theorem R.bind_ok {α β : Type} (a : α) (μ : Mu) (k : α → Mu → R β) : (R.ok a μ).bind k = k a μ := rfl
@[simp] theorem R.bind_no {α β : Type} (k : α → Mu → R β) : (R.no : R α).bind k = .no := rfl
@[simp] theorem R.bind_er {α β : Type} (c : Str) (fs : List (Str × Val)) (μ : Mu) (k : α → Mu → R β) : (R.er c fs μ : R α).bind k = .er c fs μ := rfl
abbrev Rho := List (Option Val)
abbrev ME := Rho → Mu → R Val
abbrev MA := Rho → Mu → R (List Val)
abbrev MT := Rho → Mu → R Bool
def EnvR (K : PySem.W.Frag) (w : Wt) (b : Nat) (H : Hp) (ρ : Rho) (σ : L2.St) : Prop := ρ.length = σ.length ∧ ∀ (i : Nat) (v : Val), ρ[i]? = some (some v) → ∃ u : V, σ[i]? = some (some u) ∧ VR K w.ad b H v u
theorem EnvR.grow {K : PySem.W.Frag} {w w' : Wt} {b b' : Nat} {H H' : Hp} {ρ : Rho} {σ : L2.St} (h : EnvR K w b H ρ σ) (g : Grow K w b H w' b' H') : EnvR K w' b' H' ρ σ :=
  ⟨h.1, fun i v e => let ⟨u, q, r⟩ := h.2 i v e; ⟨u, q, r.grow g⟩⟩
theorem EnvR.set {K : PySem.W.Frag} {w : Wt} {b : Nat} {H : Hp} {ρ : Rho} {σ : L2.St} (h : EnvR K w b H ρ σ) (i : Nat) {v : Val} {u : V} (r : VR K w.ad b H v u) : EnvR K w b H (ρ.set i (some v)) (σ.set i (some u)) := by
  refine ⟨by rw [List.length_set, List.length_set]; exact h.1, fun j x e => ?_⟩
  rw [List.getElem?_set] at e ⊢
  by_cases c : i = j
  · subst c
    by_cases d : i < ρ.length
    · rw [if_pos rfl, if_pos d] at e
      cases e
      exact ⟨u, by rw [if_pos rfl, if_pos (by rw [← h.1]; exact d)], r⟩
    · rw [if_pos rfl, if_neg d] at e
      cases e
  · rw [if_neg c] at e ⊢
    exact h.2 j x e
section
variable {K : PySem.W.Frag} {α β γ δ : Type}
abbrev Rel (α β : Type) := Wt → Nat → Hp → α → β → Prop
def relE (K : PySem.W.Frag) : Rel Val V := fun w b H v u => VR K w.ad b H v u
def relA (K : PySem.W.Frag) : Rel (List Val) (List V) := fun w b H v u => VRs K w.ad b H v u
def relT : Rel Bool Bool := fun _ _ _ v u => v = u
def Post (K : PySem.W.Frag) (rel : Rel α β) (E : XK) (w : Wt) (b : Nat) (H : Hp) (Q : β → Hp → Prop) : R α → Prop
  | .ok a μ' => ∀ w' H' u, Sim K w' μ' H' → rel w' μ'.nx H' a u → Grow K w b H w' μ'.nx H' → Q u H'
  | .er c fs μ' => ∀ w' H' d us, Sim K w' μ' H' → Grow K w b H w' μ'.nx H' → H' d = some (.xd us) → us.map (·.1) = fs.map (·.1) → VRs K w'.ad μ'.nx H' (fs.map (·.2)) (us.map (·.2)) → E (.ref (ga K c)) (some d) H'
  | .no => False
theorem Post.grow {rel : Rel α β} {E : XK} {w w1 : Wt} {b b1 : Nat} {H H1 : Hp} {Q : β → Hp → Prop} {r : R α} (h : Post K rel E w b H Q r) (g : Grow K w b H w1 b1 H1) : Post K rel E w1 b1 H1 Q r := by
  cases r with
  | ok a μ => exact fun w' H' u S r g' => h w' H' u S r (g.trans g')
  | er c fs μ => exact fun w' H' d us S g' => h w' H' d us S (g.trans g')
  | no => exact h
theorem Post.bind {rel : Rel α β} {rel' : Rel γ δ} {E : XK} {w : Wt} {b : Nat} {H : Hp} {Q : δ → Hp → Prop} {Q1 : β → Hp → Prop} {r : R α} {k : α → Mu → R γ} (h : Post K rel' E w b H Q (r.bind k))
    (f : ∀ a μ1 w1 H1 u1, Sim K w1 μ1 H1 → rel w1 μ1.nx H1 a u1 → Grow K w b H w1 μ1.nx H1 → Post K rel' E w1 μ1.nx H1 Q (k a μ1) → Q1 u1 H1) : Post K rel E w b H Q1 r := by
  cases r with
  | ok a μ1 => exact fun w1 H1 u1 S r g => f a μ1 w1 H1 u1 S r g (Post.grow h g)
  | er c fs μ => exact h
  | no => exact h.elim
def tM (K : PySem.W.Frag) (rel : Rel α β) (E : XK) (m : Rho → Mu → R α) : L2.St → Hp → (β → Hp → Prop) → Prop := fun σ H Q => ∃ w ρ μ, Sim K w μ H ∧ EnvR K w μ.nx H ρ σ ∧ Post K rel E w μ.nx H Q (m ρ μ)
end
def PM (X : Cx) (E : XK) (e : Expr) (m : ME) : Prop := PE X e (tM X.K (relE X.K) E m)
def PMA (X : Cx) (E : XK) (es : List Expr) (m : MA) : Prop := PA X es (tM X.K (relA X.K) E m)
def PMT (X : Cx) (E : XK) (e : Expr) (m : MT) : Prop := PT X e (tM X.K relT E m)
theorem PE.imp {X : Cx} {e : Expr} {t t0 : TE} (h : PE X e t) (i : ∀ σ H Q, t0 σ H Q → t σ H Q) : PE X e t0 := ⟨fun pins s σ H Q I hw => h.run pins s σ H Q I (i σ H Q hw)⟩
theorem PA.imp {X : Cx} {e : List Expr} {t t0 : TA} (h : PA X e t) (i : ∀ σ H Q, t0 σ H Q → t σ H Q) : PA X e t0 := ⟨fun pos pins s σ H Q I hw => h.run pos pins s σ H Q I (i σ H Q hw)⟩
theorem PT.imp {X : Cx} {e : Expr} {t t0 : TT} (h : PT X e t) (i : ∀ σ H Q, t0 σ H Q → t σ H Q) : PT X e t0 := ⟨fun pins s σ H Q I hw => h.run pins s σ H Q I (i σ H Q hw)⟩
theorem PW.imp {X : Cx} {e : Expr} {t t0 : TT} (h : PW X e t) (i : ∀ σ H Q, t0 σ H Q → t σ H Q) : PW X e t0 := ⟨fun e' pins s σ H Q I hw => h.run e' pins s σ H Q I (i σ H Q hw)⟩

/-! ### the words of the level -/
def mC (v : Val) : ME := fun _ μ => .ok v μ
def mV (i : Nat) : ME := fun ρ μ => match ρ[i]? with
  | some (some v) => .ok v μ
  | _ => .no
def mNil : MA := fun _ μ => .ok [] μ
def mCons (a : ME) (r : MA) : MA := fun ρ μ => (a ρ μ).bind fun x μ => (r ρ μ).bind fun xs μ => .ok (x :: xs) μ
def mTup (a : MA) : ME := fun ρ μ => (a ρ μ).bind fun xs μ => if xs.length ≤ 1000 then .ok (.tup xs) μ else .no
def mLst (a : MA) : ME := fun ρ μ => (a ρ μ).bind fun xs μ => if xs.length ≤ 1000 then .ok (.loc μ.nx) (μ.new (.lst xs)) else .no
def mOp (f : Val → Val → Mu → R Val) (a b : ME) : ME := fun ρ μ => (a ρ μ).bind fun x μ => (b ρ μ).bind fun y μ => f x y μ
def mUn (f : Val → Mu → R Val) (a : ME) : ME := fun ρ μ => (a ρ μ).bind fun x μ => f x μ
def mFn (f : List Val → Mu → R Val) (a : MA) : ME := fun ρ μ => (a ρ μ).bind fun xs μ => f xs μ
def mMt (f : Val → List Val → Mu → R Val) (o : ME) (a : MA) : ME := fun ρ μ => (o ρ μ).bind fun x μ => (a ρ μ).bind fun xs μ => f x xs μ
def boolM : Val → Mu → R Bool
  | .bl b, μ => .ok b μ
  | _, _ => .no
def mTest (m : ME) : MT := fun ρ μ => (m ρ μ).bind boolM
def mAnd (a b : MT) : MT := fun ρ μ => (a ρ μ).bind fun c μ => if c = true then b ρ μ else .ok false μ
def mOr (a b : MT) : MT := fun ρ μ => (a ρ μ).bind fun c μ => if c = true then .ok true μ else b ρ μ
def mNot (a : MT) : MT := fun ρ μ => (a ρ μ).bind fun c μ => .ok (!c) μ
def mIf (c : MT) (a b : ME) : ME := fun ρ μ => (c ρ μ).bind fun k μ => if k = true then a ρ μ else b ρ μ
/-- a test as a value -/
def mBl (m : MT) : ME := fun ρ μ => (m ρ μ).bind fun k μ => .ok (.bl k) μ

section
variable {X : Cx} {E : XK} {e a b : Expr} {es : List Expr} {ma mb : ME} {mr : MA} {pos : Pos}
theorem pm_var {i : Nat} (h : PE X e (tVar i)) : PM X E e (mV i) := PE.imp h fun σ H Q ⟨w, ρ, μ, S, EN, hp⟩ => by
  unfold mV at hp
  split at hp
  · rename_i v hv
    obtain ⟨u, h1, h2⟩ := EN.2 _ _ hv
    exact ⟨u, h1, hp w H u S h2 .refl⟩
  · exact hp.elim
theorem pm_c {v : Val} {u : V} (h : PE X e (tC u)) (r : ∀ w b H, VR X.K w b H v u) : PM X E e (mC v) := PE.imp h fun σ H Q ⟨w, ρ, μ, S, EN, hp⟩ => hp w H u S (r _ _ _) .refl
theorem pm_int {i j} : PM X E (.Constant (.int i) j pos) (mC (.int i)) := pm_c pe_int fun _ _ _ => .int _
theorem pm_bl {i j} : PM X E (.Constant (.bool i) j pos) (mC (.bl i)) := pm_c pe_bl fun _ _ _ => .bl _
theorem pm_non {j} : PM X E (.Constant .none j pos) (mC .non) := pm_c pe_non fun _ _ _ => .non
theorem pm_str {x j} : PM X E (.Constant (.str x) j pos) (mC (.str x)) := pm_c pe_str fun _ _ _ => .str _
theorem pma_nil : PMA X E [] mNil := PA.imp pa_nil fun σ H Q ⟨w, ρ, μ, S, EN, hp⟩ => hp w H [] S .nil .refl
theorem pma_cons (ha : PM X E e ma) (hr : PMA X E es mr) (hs : starEach (e :: es) X.env = (false, eval e X.env) :: starEach es X.env := by rfl) : PMA X E (e :: es) (mCons ma mr) :=
  PA.imp (pa_cons ha hr hs) fun σ H Q ⟨w, ρ, μ, S, EN, hp⟩ => ⟨w, ρ, μ, S, EN, Post.bind hp fun x μ1 w1 H1 u1 S1 r1 g1 h1 => ⟨w1, ρ, μ1, S1, EN.grow g1, Post.bind h1 fun xs μ2 w2 H2 u2 S2 r2 g2 h2 => h2 w2 H2 _ S2 (.cons (VR.grow g2 r1) r2) .refl⟩⟩
theorem lim1000 {n : Nat} (h : n ≤ 1000) : n ≤ sizeLine := Nat.le_trans h (by decide)
theorem lim6 {n : Nat} (h : n ≤ 1000000) : n < sizeLine := Nat.lt_of_le_of_lt h (by decide)
theorem pm_tup {x1} (h : PMA X E es mr) : PM X E (.Tuple es x1 pos) (mTup mr) :=
  PE.imp (pe_tup h) fun σ H Q ⟨w, ρ, μ, S, EN, hp⟩ => ⟨w, ρ, μ, S, EN, Post.bind hp fun xs μ1 w1 H1 u1 S1 r1 g1 h1 => by
    split at h1
    · rename_i hz
      refine ⟨by rw [VRs.length r1]; exact lim1000 hz, fun p np => ?_⟩
      obtain ⟨S2, g2, v2⟩ := S1.newT np r1
      exact h1 w1 _ _ S2 v2 g2
    · exact h1.elim⟩
theorem pm_lst (h : PMA X E es mr) : PM X E (.List es pos) (mLst mr) :=
  PE.imp (pe_lst h) fun σ H Q ⟨w, ρ, μ, S, EN, hp⟩ => ⟨w, ρ, μ, S, EN, Post.bind hp fun xs μ1 w1 H1 u1 S1 r1 g1 h1 => by
    split at h1
    · rename_i hz
      refine ⟨by rw [VRs.length r1]; exact lim1000 hz, fun p np => ?_⟩
      obtain ⟨w2, S2, g2, e2⟩ := S1.newL np r1
      exact h1 w2 _ _ S2 (by rw [← e2]; exact VR.loc (Nat.lt_succ_self _)) g2
    · exact h1.elim⟩
/-- an operator by values -/
def Prim2 (K : PySem.W.Frag) (r : R2) (f : Val → Val → Mu → R Val) : Prop := ∀ (E : XK) (w : Wt) (μ : Mu) (H : Hp) (x y : Val) (u v : V) (Q : VK), Sim K w μ H → VR K w.ad μ.nx H x u → VR K w.ad μ.nx H y v → Post K (relE K) E w μ.nx H Q (f x y μ) → r u v H Q
def PrimA (K : PySem.W.Frag) (r : List V → Hp → VK → Prop) (f : List Val → Mu → R Val) : Prop := ∀ (E : XK) (w : Wt) (μ : Mu) (H : Hp) (xs : List Val) (us : List V) (Q : VK), Sim K w μ H → VRs K w.ad μ.nx H xs us → Post K (relE K) E w μ.nx H Q (f xs μ) → r us H Q
structure BinP (X : Cx) (op : Operator) (f : Val → Val → Mu → R Val) : Prop where
  ex : ∃ r, OpR X (binaryOp op) r ∧ Prim2 X.K r f
structure CmpP (X : Cx) (op : CmpOp) (f : Val → Val → Mu → R Val) : Prop where
  ex : ∃ r, OpR X (compareOp op) r ∧ Prim2 X.K r f
theorem pm_bin {op : Operator} {f : Val → Val → Mu → R Val} (h : BinP X op f) (ha : PM X E a ma) (hb : PM X E b mb) : PM X E (.BinOp a op b pos) (mOp f ma mb) := by
  obtain ⟨r, ho, hf⟩ := h.ex
  exact PE.imp (pe_op ho ha hb) fun σ H Q ⟨w, ρ, μ, S, EN, hp⟩ => ⟨w, ρ, μ, S, EN, Post.bind hp fun x μ1 w1 H1 u1 S1 r1 g1 h1 => ⟨w1, ρ, μ1, S1, EN.grow g1, Post.bind h1 fun y μ2 w2 H2 u2 S2 r2 g2 h2 => hf E w2 μ2 H2 x y u1 u2 Q S2 (VR.grow g2 r1) r2 h2⟩⟩
theorem post_test {K : PySem.W.Frag} {w : Wt} {n : Nat} {H : Hp} {Q : Bool → Hp → Prop} {r : R Val} (h : Post K relT E w n H Q (r.bind boolM)) : Post K (relE K) E w n H (fun x H' => ∃ k, x = .bl k ∧ Q k H') r :=
  Post.bind h fun x μ1 w1 H1 u1 S1 r1 g1 h1 => by
    cases x with
    | bl k =>
      cases r1
      exact ⟨k, rfl, h1 w1 H1 k S1 rfl .refl⟩
    | _ => exact h1.elim
theorem pmt_cmp {op : CmpOp} {f : Val → Val → Mu → R Val} (h : CmpP X op f) (ha : PM X E a ma) (hb : PM X E b mb) (hm : behindInMarks op b = false := by first | exact nomark _ | rfl) : PMT X E (.Compare a [op] [b] pos) (mTest (mOp f ma mb)) := by
  obtain ⟨r, ho, hf⟩ := h.ex
  refine PT.imp (pt_cmpR ho ha hb hm) fun σ H Q ⟨w, ρ, μ, S, EN, hp⟩ => ?_
  have hp2 := post_test hp
  exact ⟨w, ρ, μ, S, EN, Post.bind hp2 fun x μ1 w1 H1 u1 S1 r1 g1 h1 => ⟨w1, ρ, μ1, S1, EN.grow g1, Post.bind h1 fun y μ2 w2 H2 u2 S2 r2 g2 h2 => hf E w2 μ2 H2 x y u1 u2 _ S2 (VR.grow g2 r1) r2 h2⟩⟩
variable {ta tb : MT} {rest : List Expr}
def PMW (X : Cx) (E : XK) (e : Expr) (m : MT) : Prop := PW X e (tM X.K relT E m)
theorem PMW.t (h : PMW X E e ta) : PMT X E e ta := PW.pt h
theorem pmw_and1 (ha : PMT X E a ta) : PMW X E (.BoolOp .And [a] pos) ta := pw_and1 ha
theorem pmw_and (ha : PMT X E a ta) (hb : PMW X E (.BoolOp .And (b :: rest) pos) tb) : PMW X E (.BoolOp .And (a :: b :: rest) pos) (mAnd ta tb) :=
  PW.imp (pw_and ha hb) fun σ H Q ⟨w, ρ, μ, S, EN, hp⟩ => ⟨w, ρ, μ, S, EN, Post.bind hp fun x μ1 w1 H1 u1 S1 r1 g1 h1 => by
    cases r1
    cases x with
    | true => exact iteT ⟨w1, ρ, μ1, S1, EN.grow g1, h1⟩
    | false => exact iteF (h1 w1 H1 false S1 rfl .refl)⟩
theorem pm_ifExp {c : Expr} (hc : PMT X E c ta) (ha : PM X E a ma) (hb : PM X E b mb) : PM X E (.IfExp c a b pos) (mIf ta ma mb) :=
  PE.imp (pe_ifExp hc ha hb) fun σ H Q ⟨w, ρ, μ, S, EN, hp⟩ => ⟨w, ρ, μ, S, EN, Post.bind hp fun x μ1 w1 H1 u1 S1 r1 g1 h1 => by
    cases r1
    cases x with
    | true => exact iteT ⟨w1, ρ, μ1, S1, EN.grow g1, h1⟩
    | false => exact iteF ⟨w1, ρ, μ1, S1, EN.grow g1, h1⟩⟩
/-- x and y, x or y, not x of truths, as values -/
def mAndV (a b : ME) : ME := fun ρ μ => (a ρ μ).bind fun x μ => (boolM x μ).bind fun c μ => if c = true then b ρ μ else .ok (.bl false) μ
def mOrV (a b : ME) : ME := fun ρ μ => (a ρ μ).bind fun x μ => (boolM x μ).bind fun c μ => if c = true then .ok (.bl true) μ else b ρ μ
def mNotV (a : ME) : ME := fun ρ μ => (a ρ μ).bind fun x μ => (boolM x μ).bind fun c μ => .ok (.bl (!c)) μ
/-- calls by values -/
theorem pm_callB {id : String} {x : Str} {r : List V → Hp → VK → Prop} {f : List Val → Mu → R Val} {p : Pos} (hc : CallR X (.builtin id) r) (hf : PrimA X.K r f) (hg : Gl X x) (hm : X.mg x = none) (hv : bootBuiltins x = some (.builtin id)) (ha : PMA X E (e :: es) mr) (hn : x ≠ "__name__" := by decide) (hdb : (x == ("__debug__" : Str)) = false := by decide)
    (he : starEach (e :: es) X.env = (false, eval e X.env) :: starEach es X.env := by rfl) (hpl : (backTo pos (starEach es X.env)).any (·.1) = false := by rfl) : PM X E (.Call (.Name x p) (e :: es) [] pos) (mFn f mr) :=
  PE.imp (pe_callB hc hg hm hv ha hn hdb he hpl) fun σ H Q ⟨w, ρ, μ, S, EN, hp⟩ => ⟨w, ρ, μ, S, EN, Post.bind hp fun xs μ1 w1 H1 u1 S1 r1 g1 h1 => hf E w1 μ1 H1 xs u1 Q S1 r1 h1⟩
theorem pm_callTy {T : String} {x : Str} {r : List V → Hp → VK → Prop} {f : List Val → Mu → R Val} {p : Pos} (hc : CallR X (.type T) r) (hf : PrimA X.K r f) (hg : Gl X x) (hm : X.mg x = none) (hv : bootBuiltins x = some (.type T)) (ha : PMA X E (e :: es) mr) (hn : x ≠ "__name__" := by decide) (hdb : (x == ("__debug__" : Str)) = false := by decide)
    (he : starEach (e :: es) X.env = (false, eval e X.env) :: starEach es X.env := by rfl) (hpl : (backTo pos (starEach es X.env)).any (·.1) = false := by rfl) : PM X E (.Call (.Name x p) (e :: es) [] pos) (mFn f mr) :=
  PE.imp (pe_callTy hc hg hm hv ha hn hdb he hpl) fun σ H Q ⟨w, ρ, μ, S, EN, hp⟩ => ⟨w, ρ, μ, S, EN, Post.bind hp fun xs μ1 w1 H1 u1 S1 r1 g1 h1 => hf E w1 μ1 H1 xs u1 Q S1 r1 h1⟩
end
end Wn
/-! the law's level: operators by values -/
namespace Wn
open PySem PySem.Spec PyProof.Rows L2 LamX He

/-! ### arithmetic -/
instance (i j : Int) : Decidable (CMul i j) := by unfold CMul; infer_instance
instance (i j : Int) : Decidable (CDiv i j) := by unfold CDiv; infer_instance
instance (i j : Int) : Decidable (CPow i j) := by unfold CPow; infer_instance
def addM : Val → Val → Mu → R Val
  | .int i, .int j, μ => .ok (.int (i + j)) μ
  | .str a, .str b, μ => if a.length + b.length ≤ 1000000 then .ok (.str (a ++ b)) μ else .no
  | .tup a, .tup b, μ => if a ≠ [] ∧ a.length + b.length ≤ 1000000 then .ok (.tup (a ++ b)) μ else .no
  | .loc n, .loc m, μ => match μ.ob n, μ.ob m with
    | some (.lst a), some (.lst b) => if a.length + b.length ≤ 1000000 then .ok (.loc μ.nx) (μ.new (.lst (a ++ b))) else .no
    | _, _ => .no
  | _, _, _ => .no
def subM : Val → Val → Mu → R Val
  | .int i, .int j, μ => .ok (.int (i - j)) μ
  | _, _, _ => .no
def mulM : Val → Val → Mu → R Val
  | .int i, .int j, μ => if CMul i j then .ok (.int (i * j)) μ else .no
  | .loc n, .int k, μ => match μ.ob n with
    | some (.lst a) => if 0 ≤ k ∧ k ≤ 1000 ∧ a.length ≤ 1000 then .ok (.loc μ.nx) (μ.new (.lst (List.replicate k.toNat a).flatten)) else .no
    | _ => .no
  | _, _, _ => .no
def modM : Val → Val → Mu → R Val
  | .int i, .int j, μ => if 0 < j then .ok (.int (i % j)) μ else .no
  | _, _, _ => .no
def fdivM : Val → Val → Mu → R Val
  | .int i, .int j, μ => if CDiv i j then .ok (.int (i / j)) μ else .no
  | _, _, _ => .no
def powM : Val → Val → Mu → R Val
  | .int i, .int j, μ => if CPow i j then .ok (.int (i ^ j.toNat)) μ else .no
  | _, _, _ => .no
section
variable {X : Cx}
theorem vr_tup {K : PySem.W.Frag} {ad : Nat → Addr} {b : Nat} {H : Hp} {vs : List Val} {u : V} (h : VR K ad b H (.tup vs) u) : ∃ a us, u = .ref a ∧ SqT K H a us ∧ VRs K ad b H vs us := by
  cases h with
  | tup h r => exact ⟨_, _, rfl, h, r⟩
theorem b_add : BinP X .Add addM := by
  refine ⟨_, (op_add.or (op_add_str.or (op_cat.or op_catT))), ?_⟩
  intro E w μ H x y u v Q S hx hy hp
  unfold addM at hp
  split at hp
  · cases hx; cases hy
    exact .inl ⟨_, _, rfl, rfl, hp w H _ S (.int _) .refl⟩
  · cases hx; cases hy
    split at hp
    · rename_i hz
      exact .inr (.inl ⟨_, _, rfl, rfl, Nat.le_of_lt (lim6 hz), hp w H _ S (.str _) .refl⟩)
    · exact hp.elim
  · obtain ⟨a, us, rfl, ha, ra⟩ := vr_tup hx
    obtain ⟨b, vs, rfl, hb, rb⟩ := vr_tup hy
    split at hp
    · rename_i hz
      refine .inr (.inr (.inr ⟨a, b, us, vs, rfl, rfl, ha, hb, fun z => ?_, ?_, fun z => ?_, fun _ p np => ?_⟩))
      · have := ra.length
        rw [z] at this
        exact hz.1 (List.length_eq_zero_iff.mp this.symm)
      · rw [ra.length, rb.length]
        exact Nat.le_of_lt (lim6 hz.2)
      · subst z
        cases rb
        refine hp w H _ S ?_ .refl
        rw [List.append_nil]
        exact .tup ha ra
      · obtain ⟨S2, g2, v2⟩ := S.newT np (ra.app rb)
        exact hp w _ _ S2 v2 g2
    · exact hp.elim
  · cases hx with
    | loc hn =>
      cases hy with
      | loc hm =>
        split at hp
        · rename_i a b ha hb
          split at hp
          · rename_i hz
            obtain ⟨us, h1, r1⟩ := S.ok _ _ ha
            obtain ⟨vs, h2, r2⟩ := S.ok _ _ hb
            refine .inr (.inr (.inl ⟨_, _, us, vs, rfl, rfl, h1, h2, by rw [r1.length, r2.length]; exact Nat.le_of_lt (lim6 hz), fun p np => ?_⟩))
            obtain ⟨w2, S2, g2, e2⟩ := S.newL np (r1.app r2)
            exact hp w2 _ _ S2 (by rw [← e2]; exact VR.loc (Nat.lt_succ_self _)) g2
          · exact hp.elim
        · exact hp.elim
  · exact hp.elim
theorem b_mul : BinP X .Mult mulM := by
  refine ⟨_, op_mul.or op_rep, ?_⟩
  intro E w μ H x y u v Q S hx hy hp
  unfold mulM at hp
  split at hp
  · cases hx; cases hy
    split at hp
    · rename_i hz
      exact .inl ⟨_, _, rfl, rfl, hz, hp w H _ S (.int _) .refl⟩
    · exact hp.elim
  · cases hx with
    | loc hn =>
      cases hy
      split at hp
      · rename_i a ha
        split at hp
        · rename_i hz
          obtain ⟨us, h1, r1⟩ := S.ok _ _ ha
          refine .inr ⟨_, _, us, rfl, rfl, h1, by omega, by omega, ?_, fun p np => ?_⟩
          · rw [r1.length]
            refine Nat.le_trans (Nat.mul_le_mul hz.2.2 (show _ ≤ 1000 by omega)) (by decide)
          · obtain ⟨w2, S2, g2, e2⟩ := S.newL np (VRs.flat _ r1)
            exact hp w2 _ _ S2 (by rw [← e2]; exact VR.loc (Nat.lt_succ_self _)) g2
        · exact hp.elim
      · exact hp.elim
  · exact hp.elim
theorem b_mod : BinP X .Mod modM := by
  refine ⟨_, op_mod, ?_⟩
  intro E w μ H x y u v Q S hx hy hp
  unfold modM at hp
  split at hp
  · cases hx; cases hy
    split at hp
    · rename_i hz
      exact ⟨_, _, rfl, rfl, hz, hp w H _ S (.int _) .refl⟩
    · exact hp.elim
  · exact hp.elim
theorem b_fdiv : BinP X .FloorDiv fdivM := by
  refine ⟨_, op_fdiv, ?_⟩
  intro E w μ H x y u v Q S hx hy hp
  unfold fdivM at hp
  split at hp
  · cases hx; cases hy
    split at hp
    · rename_i hz
      exact ⟨_, _, rfl, rfl, hz, hp w H _ S (.int _) .refl⟩
    · exact hp.elim
  · exact hp.elim
theorem b_pow : BinP X .Pow powM := by
  refine ⟨_, op_pow, ?_⟩
  intro E w μ H x y u v Q S hx hy hp
  unfold powM at hp
  split at hp
  · cases hx; cases hy
    split at hp
    · rename_i hz
      exact ⟨_, _, rfl, rfl, hz, hp w H _ S (.int _) .refl⟩
    · exact hp.elim
  · exact hp.elim
/-! ### comparisons -/
def cmpI (f : Int → Int → Bool) : Val → Val → Mu → R Val
  | .int i, .int j, μ => .ok (.bl (f i j)) μ
  | _, _, _ => .no
def ltM (x y : Val) (μ : Mu) : R Val := cmpI (fun i j => decide (i < j)) x y μ
def leM (x y : Val) (μ : Mu) : R Val := cmpI (fun i j => decide (i ≤ j)) x y μ
def gtM (x y : Val) (μ : Mu) : R Val := cmpI (fun i j => decide (j < i)) x y μ
def geM (x y : Val) (μ : Mu) : R Val := cmpI (fun i j => decide (j ≤ i)) x y μ
theorem prim_cmpI {K : PySem.W.Frag} (f : Int → Int → Bool) : Prim2 K (rI0 fun i j => .bl (f i j)) (cmpI f) := by
  intro E w μ H x y u v Q S hx hy hp
  unfold cmpI at hp
  split at hp
  · cases hx; cases hy
    exact ⟨_, _, rfl, rfl, hp w H _ S (.bl _) .refl⟩
  · exact hp.elim
theorem c_lt : CmpP X .Lt ltM := ⟨_, op_lt, prim_cmpI _⟩
theorem c_gt : CmpP X .Gt gtM := ⟨_, op_gt, prim_cmpI _⟩
theorem c_ge : CmpP X .GtE geM := ⟨_, op_ge, prim_cmpI _⟩
def isNon : Val → Bool
  | .non => true
  | _ => false
def isM' : Val → Val → Mu → R Val
  | x, .non, μ => .ok (.bl (isNon x)) μ
  | _, _, _ => .no
def isntM : Val → Val → Mu → R Val
  | x, .non, μ => .ok (.bl (!isNon x)) μ
  | _, _, _ => .no
theorem isNon_eq {K : PySem.W.Frag} {ad : Nat → Addr} {b : Nat} {H : Hp} {x : Val} {u : V} (h : VR K ad b H x u) : decide (u = .non) = isNon x := by
  cases h <;> rfl
theorem c_is : CmpP X .Is isM' := by
  refine ⟨_, op_isN, ?_⟩
  intro E w μ H x y u v Q S hx hy hp
  unfold isM' at hp
  split at hp
  · cases hy
    refine ⟨rfl, ?_⟩
    rw [isNon_eq hx]
    exact hp w H _ S (.bl _) .refl
  · exact hp.elim
/-! ### data -/
def allO {α : Type} : List (Option α) → Option (List α)
  | [] => some []
  | none :: _ => none
  | some a :: r => match allO r with
    | none => none
    | some l => some (a :: l)
def scaD : Val → Option PyData
  | .non => some .none
  | .bl b => some (.bool b)
  | .int i => some (.int i)
  | .str x => if PyData.strOk x = true then some (.str x) else none
  | _ => none
def seqOf (μ : Mu) (n : Nat) : Option (List Val) := match μ.ob n with
  | some (.lst vs) => some vs
  | some (.ro vs) => some vs
  | _ => none
def toD : Nat → Mu → Val → Option PyData
  | 0, _, v => scaD v
  | k + 1, μ, .tup vs => (allO (vs.map (toD k μ))).map .tuple
  | k + 1, μ, .loc n => match seqOf μ n with
    | none => none
    | some vs => (allO (vs.map (toD k μ))).map .list
  | _ + 1, _, v => scaD v
theorem allO_some {α β : Type} {f : α → Option β} {g : α → β} : ∀ {l : List α}, (∀ x ∈ l, f x = some (g x)) → allO (l.map f) = some (l.map g)
  | [], _ => rfl
  | a :: l, h => by
    rw [List.map_cons, h a List.mem_cons_self, allO, allO_some fun x hx => h x (List.mem_cons_of_mem _ hx)]
    rfl
end
theorem seqOf_sq {K : PySem.W.Frag} {w : Wt} {μ : Mu} {H : Hp} (S : Sim K w μ H) {n : Nat} {vs : List Val} (h : seqOf μ n = some vs) : ∃ us, SqL K H (w.ad n) us ∧ VRs K w.ad μ.nx H vs us := by
  unfold seqOf at h
  split at h
  · rename_i vs' e
    cases h
    obtain ⟨us, h1, h2⟩ := S.ok _ _ e
    exact ⟨us, SqL.of h1, h2⟩
  · rename_i vs' e
    cases h
    obtain ⟨us, h1, h2⟩ := S.ok _ _ e
    exact ⟨us, h1.sq, h2⟩
  · cases h
theorem scaD_dp {K : PySem.W.Frag} {ad : Nat → Addr} {b : Nat} {H : Hp} {v : Val} {u : V} {d : PyData} (h : scaD v = some d) (r : VR K ad b H v u) : Dp K H u d ∧ d.canLay0 = true ∧ d.depth ≤ 1 := by
  unfold scaD at h
  split at h
  · cases h; cases r; exact ⟨.non, rfl, by simp [PyData.depth]⟩
  · cases h; cases r; exact ⟨.bl _, rfl, by simp [PyData.depth]⟩
  · cases h; cases r; exact ⟨.int _, rfl, by simp [PyData.depth]⟩
  · split at h
    · cases h; cases r
      refine ⟨.str _, ?_, by simp [PyData.depth]⟩
      rw [PyData.canLay0]
      assumption
    · cases h
  · cases h
theorem allD {K : PySem.W.Frag} {ad : Nat → Addr} {b : Nat} {H : Hp} {f : Val → Option PyData} {k : Nat} (hf : ∀ v u d, f v = some d → VR K ad b H v u → Dp K H u d ∧ d.canLay0 = true ∧ d.depth ≤ k) : ∀ {vs : List Val} {us : List V} {ds : List PyData}, allO (vs.map f) = some ds → VRs K ad b H vs us → DpAll K H us ds ∧ PyData.canLayAll0 ds = true ∧ PyData.depthAll ds ≤ k
  | [], _, ds, h, r => by
    cases r
    cases h
    exact ⟨.nil, rfl, by simp [PyData.depthAll]⟩
  | v :: vs, _, ds, h, r => by
    cases r with
    | cons r1 r2 =>
      rw [List.map_cons] at h
      cases e : f v with
      | none => rw [e, allO] at h; cases h
      | some d =>
        rw [e, allO] at h
        split at h
        · cases h
        · rename_i l hl
          cases h
          obtain ⟨a1, a2, a3⟩ := hf _ _ _ e r1
          obtain ⟨b1, b2, b3⟩ := allD hf hl r2
          refine ⟨.cons a1 b1, ?_, ?_⟩
          · rw [PyData.canLayAll0, a2, b2]
            rfl
          · rw [PyData.depthAll]
            omega
theorem toD_dp {K : PySem.W.Frag} {w : Wt} {μ : Mu} {H : Hp} (S : Sim K w μ H) : ∀ (k : Nat) (v : Val) (u : V) (d : PyData), toD k μ v = some d → VR K w.ad μ.nx H v u → Dp K H u d ∧ d.canLay0 = true ∧ d.depth ≤ k + 1
  | 0, v, u, d, h, r => scaD_dp h r
  | k + 1, .tup vs, u, d, h, r => by
    rw [toD] at h
    obtain ⟨ds, h1, h2⟩ := Option.map_eq_some_iff.mp h
    subst h2
    obtain ⟨a, us, rfl, ha, ra⟩ := vr_tup r
    obtain ⟨b1, b2, b3⟩ := allD (fun v u d => toD_dp S k v u d) h1 ra
    refine ⟨.tup ha b1, by rw [PyData.canLay0]; exact b2, ?_⟩
    rw [PyData.depth]
    omega
  | k + 1, .loc n, u, d, h, r => by
    rw [toD] at h
    split at h
    · cases h
    · rename_i vs e
      obtain ⟨ds, h1, h2⟩ := Option.map_eq_some_iff.mp h
      subst h2
      obtain ⟨us, ha, ra⟩ := seqOf_sq S e
      obtain ⟨b1, b2, b3⟩ := allD (fun v u d => toD_dp S k v u d) h1 ra
      cases r
      refine ⟨.lst ha b1, by rw [PyData.canLay0]; exact b2, ?_⟩
      rw [PyData.depth]
      omega
  | k + 1, .non, u, d, h, r => by have := scaD_dp h r; exact ⟨this.1, this.2.1, by omega⟩
  | k + 1, .bl _, u, d, h, r => by have := scaD_dp h r; exact ⟨this.1, this.2.1, by omega⟩
  | k + 1, .int _, u, d, h, r => by have := scaD_dp h r; exact ⟨this.1, this.2.1, by omega⟩
  | k + 1, .str _, u, d, h, r => by have := scaD_dp h r; exact ⟨this.1, this.2.1, by omega⟩
def datM (μ : Mu) (v : Val) : Option PyData := toD 8 μ v
theorem datM_dp {K : PySem.W.Frag} {w : Wt} {μ : Mu} {H : Hp} (S : Sim K w μ H) {v : Val} {u : V} {d : PyData} (h : datM μ v = some d) (r : VR K w.ad μ.nx H v u) : Dp K H u d ∧ SeqAt.shaped d = true := by
  obtain ⟨h1, h2, h3⟩ := toD_dp S 8 v u d h r
  exact ⟨h1, Bool.and_eq_true_iff.mpr ⟨h2, decide_eq_true (by omega)⟩⟩
def eqM (x y : Val) (μ : Mu) : R Val := match datM μ x, datM μ y with
  | some d, some e => .ok (.bl (PyData.eqv d e)) μ
  | _, _ => .no
def neM (x y : Val) (μ : Mu) : R Val := match datM μ x, datM μ y with
  | some d, some e => .ok (.bl (!PyData.eqv d e)) μ
  | _, _ => .no
def keyOf : Val → Option Key
  | .int i => some (.inl i)
  | .str x => some (.inr x)
  | _ => none
def kGet (kvs : List (Key × Val)) (k : Key) : Option Val := (kvs.find? fun p => decide (p.1 = k)).map (·.2)
def kPut (kvs : List (Key × Val)) (k : Key) (v : Val) : List (Key × Val) := if (kvs.any fun p => decide (p.1 = k)) then kvs.map fun p => if p.1 = k then (p.1, v) else p else kvs ++ [(k, v)]
def kDrop (kvs : List (Key × Val)) (k : Key) : List (Key × Val) := kvs.filter fun p => decide (p.1 ≠ k)
def dctOf (μ : Mu) (n : Nat) : Option (List (Key × Val)) := match μ.ob n with
  | some (.dct kvs) => some kvs
  | some (.rod kvs) => some kvs
  | _ => none
theorem dctOf_rd {K : PySem.W.Frag} {w : Wt} {μ : Mu} {H : Hp} {n : Nat} {kvs : List (Key × Val)} (S : Sim K w μ H) (h : dctOf μ n = some kvs) : ∃ us : List (Key × V), Rd H (w.ad n) (.dK us) ∧ us.map (·.1) = kvs.map (·.1) ∧ VRs K w.ad μ.nx H (kvs.map (·.2)) (us.map (·.2)) := by
  unfold dctOf at h
  split at h
  · rename_i kvs' e
    cases h
    obtain ⟨us, q1, q2, q3⟩ := S.ok _ _ e
    exact ⟨us, .inl q1, q2, q3⟩
  · rename_i kvs' e
    cases h
    obtain ⟨_, o, us, q1, q2, q3⟩ := S.ok _ _ e
    exact ⟨us, .inr ⟨o, q1⟩, q2, q3⟩
  · cases h
/-- x in y -/
def hasM (x y : Val) (μ : Mu) : Option Bool := match y with
  | .loc n => match μ.ob n with
    | some (.lst vs) => match datM μ x, allO (vs.map (datM μ)) with
      | some d, some ds => some (ds.any fun z => PyData.eqv z d)
      | _, _ => none
    | some (.dct kvs) => match keyOf x with
      | some k => some (kGet kvs k).isSome
      | none => none
    | some (.rod kvs) => match keyOf x with
      | some k => some (kGet kvs k).isSome
      | none => none
    | _ => none
  | _ => none
def inM (x y : Val) (μ : Mu) : R Val := match hasM x y μ with
  | some b => .ok (.bl b) μ
  | none => .no
section
variable {X : Cx}
theorem c_eq (hu : X.A.units + 64 < cLine) : CmpP X .Eq eqM := by
  refine ⟨_, op_eqD hu, ?_⟩
  intro E w μ H x y u v Q S hx hy hp
  unfold eqM at hp
  split at hp
  · rename_i d e h1 h2
    obtain ⟨a1, a2⟩ := datM_dp S h1 hx
    obtain ⟨b1, b2⟩ := datM_dp S h2 hy
    exact ⟨d, e, a1, b1, a2, b2, hp w H _ S (.bl _) .refl⟩
  · exact hp.elim
theorem c_ne (hu : X.A.units + 64 < cLine) : CmpP X .NotEq neM := by
  refine ⟨_, op_neD hu, ?_⟩
  intro E w μ H x y u v Q S hx hy hp
  unfold neM at hp
  split at hp
  · rename_i d e h1 h2
    obtain ⟨a1, a2⟩ := datM_dp S h1 hx
    obtain ⟨b1, b2⟩ := datM_dp S h2 hy
    exact ⟨d, e, a1, b1, a2, b2, hp w H _ S (.bl _) .refl⟩
  · exact hp.elim
end
section
variable {K : PySem.W.Frag} {ad : Nat → Addr} {b : Nat} {H : Hp}
theorem kGet_pos {p : Key × Val} {l : List (Key × Val)} {k : Key} (h : p.1 = k) : kGet (p :: l) k = some p.2 := by simp [kGet, List.find?_cons, h]
theorem kGet_neg {p : Key × Val} {l : List (Key × Val)} {k : Key} (h : ¬ p.1 = k) : kGet (p :: l) k = kGet l k := by simp [kGet, List.find?_cons, h]
theorem kGet_rel {k : Key} : ∀ {kvs : List (Key × Val)} {us : List (Key × V)}, us.map (·.1) = kvs.map (·.1) → VRs K ad b H (kvs.map (·.2)) (us.map (·.2)) → (∃ v u, kGet kvs k = some v ∧ valV us k = some u ∧ VR K ad b H v u) ∨ (kGet kvs k = none ∧ valV us k = none)
  | [], [], _, _ => .inr ⟨rfl, rfl⟩
  | p :: kvs, q :: us, h, r => by
    simp only [List.map_cons, List.cons.injEq] at h
    cases r with
    | cons r1 r2 =>
      by_cases c : p.1 = k
      · exact .inl ⟨p.2, q.2, kGet_pos c, valV_pos (h.1.trans c), r1⟩
      · rw [kGet_neg c, valV_neg (fun z => c (h.1.symm.trans z))]
        exact kGet_rel h.2 r2
  | [], _ :: _, h, _ => by simp at h
  | _ :: _, [], h, _ => by simp at h
theorem keyOf_kV {v : Val} {u : V} {k : Key} (h : keyOf v = some k) (r : VR K ad b H v u) : u = kV k := by
  unfold keyOf at h
  split at h
  · cases h; cases r; rfl
  · cases h; cases r; rfl
  · cases h
end
section
variable {X : Cx}
theorem op_in_d (hu : X.A.units + 1 < cLine) : OpR X (compareOp .In) (fun x y H Q => ∃ a o, y = .ref a ∧ DGet H a x o ∧ Q (.bl o.isSome) H) := by
  intro pins s σ H x y v u Q I rx ry h
  obtain ⟨a, o, rfl, g, q⟩ := h
  cases ry
  exact d_in hu I g rx fun s' I' => ⟨.bl _, H, I', rfl, q⟩
theorem has_ok {K : PySem.W.Frag} {w : Wt} {μ : Mu} {H : Hp} {x y : Val} {u v : V} {b : Bool} (S : Sim K w μ H) (hx : VR K w.ad μ.nx H x u) (hy : VR K w.ad μ.nx H y v) (h : hasM x y μ = some b) : (∃ d ds, Dp K H u d ∧ Dp K H v (.list ds) ∧ SeqAt.shaped d = true ∧ SeqAt.shaped (.list ds) = true ∧ b = ds.any fun z => PyData.eqv z d) ∨ ∃ a o, v = .ref a ∧ DGet H a u o ∧ b = o.isSome := by
  unfold hasM at h
  split at h
  · rename_i n
    cases hy with
    | loc hn =>
      split at h
      · rename_i vs e
        split at h
        · rename_i d ds h1 h2
          cases h
          obtain ⟨a1, a2⟩ := datM_dp S h1 hx
          obtain ⟨us, q1, q2⟩ := S.ok _ _ e
          obtain ⟨b1, b2, b3⟩ := allD (fun v u d => toD_dp S 8 v u d) h2 q2
          refine .inl ⟨d, ds, a1, .lst (SqL.of q1) b1, a2, Bool.and_eq_true_iff.mpr ⟨by rw [PyData.canLay0]; exact b2, decide_eq_true ?_⟩, rfl⟩
          rw [PyData.depth]
          omega
        · cases h
      · rename_i kvs e
        split at h
        · rename_i k hk
          cases h
          obtain ⟨us, q1, q2, q3⟩ := S.ok _ _ e
          rw [keyOf_kV hk hx]
          refine .inr ⟨_, _, rfl, DGet.k q1, ?_⟩
          rcases kGet_rel (k := k) q2 q3 with ⟨v, u, e1, e2, _⟩ | ⟨e1, e2⟩
          · rw [e1, e2]; rfl
          · rw [e1, e2]; rfl
        · cases h
      · rename_i kvs e
        split at h
        · rename_i k hk
          cases h
          obtain ⟨us, q1, q2, q3⟩ := dctOf_rd S (show dctOf μ n = some kvs by unfold dctOf; rw [e])
          rw [keyOf_kV hk hx]
          refine .inr ⟨_, _, rfl, .inl ⟨us, k, q1, rfl, rfl⟩, ?_⟩
          rcases kGet_rel (k := k) q2 q3 with ⟨v, u, e1, e2, _⟩ | ⟨e1, e2⟩
          · rw [e1, e2]; rfl
          · rw [e1, e2]; rfl
        · cases h
      · cases h
  · cases h
theorem c_in (hu : X.A.units + 65 < cLine) : CmpP X .In inM := by
  refine ⟨_, (op_inD hu).or (op_in_d (by omega)), ?_⟩
  intro E w μ H x y u v Q S hx hy hp
  unfold inM at hp
  split at hp
  · rename_i b hb
    rcases has_ok S hx hy hb with ⟨d, ds, a1, a2, a3, a4, rfl⟩ | ⟨a, o, rfl, g, rfl⟩
    · exact .inl ⟨d, ds, a1, a2, a3, a4, hp w H _ S (.bl _) .refl⟩
    · exact .inr ⟨a, o, rfl, g, hp w H _ S (.bl _) .refl⟩
  · exact hp.elim
end
end Wn
/-! the law's level: subscripts, calls of builtins, statements, loops, defs -/
namespace Wn
open PySem PySem.Spec PyProof.Rows L2 LamX He

/-! ### subscripts -/
section
variable {K : PySem.W.Frag} {ad : Nat → Addr} {b : Nat} {H : Hp}
theorem atI_rel {vs : List Val} {us : List V} {i : Int} {v : Val} (r : VRs K ad b H vs us) (h : atI vs i = some v) : ∃ u, atI us i = some u ∧ VR K ad b H v u := by
  unfold atI at h ⊢
  rw [r.length]
  cases e : ixN vs.length i with
  | none => rw [e] at h; cases h
  | some j =>
    rw [e] at h
    exact r.get j v h
end
def getM : Val → Val → Mu → R Val
  | .tup vs, .int i, μ => match atI vs i with
    | some v => .ok v μ
    | none => .no
  | .loc n, .int i, μ => match seqOf μ n with
    | some vs => match atI vs i with
      | some v => .ok v μ
      | none => .no
    | none => .no
  | _, _, _ => .no
def dgetM : Val → Val → Mu → R Val
  | .loc n, y, μ => match dctOf μ n, keyOf y with
    | some kvs, some k => match kGet kvs k with
      | some v => .ok v μ
      | none => .no
    | _, _ => .no
  | _, _, _ => .no
def cutG {α : Type} (xs : List α) (lo hi : Option Int) : List α := (xs.drop (HT.sIx xs.length 0 lo)).take (HT.sIx xs.length xs.length hi - HT.sIx xs.length 0 lo)
abbrev MO := Rho → Mu → R (Option Int)
def mP0 : MO := fun _ μ => .ok none μ
def mP (m : ME) : MO := fun ρ μ => (m ρ μ).bind fun x μ => match x with
  | .int i => .ok (some i) μ
  | _ => .no
def slM (x : Val) (lo hi : Option Int) (μ : Mu) : R Val := match x with
  | .tup vs => if HT.sIx vs.length 0 lo = 0 ∧ HT.sIx vs.length vs.length hi = vs.length then .no else .ok (.tup (cutG vs lo hi)) μ
  | .loc n => match seqOf μ n with
    | some vs => .ok (.loc μ.nx) (μ.new (.lst (cutG vs lo hi)))
    | none => .no
  | _ => .no
def mSl (e : ME) (lo hi : MO) : ME := fun ρ μ => (e ρ μ).bind fun x μ => (lo ρ μ).bind fun l μ => (hi ρ μ).bind fun h μ => slM x l h μ
def relO : Rel (Option Int) (Option Int) := fun _ _ _ v u => v = u
def PMO (X : Cx) (E : XK) (o : Option Expr) (m : MO) : Prop := PO X o (tM X.K relO E m)
theorem cut_rel {K : PySem.W.Frag} {ad : Nat → Addr} {b : Nat} {H : Hp} {vs : List Val} {us : List V} (lo hi : Option Int) (r : VRs K ad b H vs us) : VRs K ad b H (cutG vs lo hi) (cutV us lo hi) := by
  unfold cutG cutV
  rw [r.length]
  exact (r.drop _).take _
section
variable {X : Cx} {E : XK} {e a b o : Expr} {es : List Expr} {ma mb me mo : ME} {mr : MA} {pos apos cpos : Pos}
theorem pm_ix (ha : PM X E a ma) (hb : PM X E b mb) (hs : PlainIx b := by exact fun _ _ => rfl) : PM X E (.Subscript a b pos) (mOp getM ma mb) :=
  PE.imp (pe_ix (ix_list.or ix_tup) ha hb hs) fun σ H Q ⟨w, ρ, μ, S, EN, hp⟩ => ⟨w, ρ, μ, S, EN, Post.bind hp fun x μ1 w1 H1 u1 S1 r1 g1 h1 => ⟨w1, ρ, μ1, S1, EN.grow g1, Post.bind h1 fun y μ2 w2 H2 u2 S2 r2 g2 h2 => by
    have r1 := VR.grow g2 r1
    unfold getM at h2
    split at h2
    · cases r2
      obtain ⟨p, us, rfl, hq, rq⟩ := vr_tup r1
      split at h2
      · rename_i v hv
        obtain ⟨u, e1, e2⟩ := atI_rel rq hv
        exact .inr ⟨p, us, _, u, rfl, rfl, hq, e1, h2 w2 H2 u S2 e2 .refl⟩
      · exact h2.elim
    · cases r2
      cases r1
      split at h2
      · rename_i vs hs
        obtain ⟨us, hq, rq⟩ := seqOf_sq S2 hs
        split at h2
        · rename_i v hv
          obtain ⟨u, e1, e2⟩ := atI_rel rq hv
          exact .inl ⟨_, us, _, u, rfl, rfl, hq, e1, h2 w2 H2 u S2 e2 .refl⟩
        · exact h2.elim
      · exact h2.elim
    · exact h2.elim⟩⟩
theorem pm_dget (hu : X.A.units + 1 < cLine) (ha : PM X E a ma) (hb : PM X E b mb) (hs : NoSl b := by exact fun _ _ => rfl) : PM X E (.Subscript a b pos) (mOp dgetM ma mb) :=
  PE.imp (pe_dget hu ha hb hs) fun σ H Q ⟨w, ρ, μ, S, EN, hp⟩ => ⟨w, ρ, μ, S, EN, Post.bind hp fun x μ1 w1 H1 u1 S1 r1 g1 h1 => ⟨w1, ρ, μ1, S1, EN.grow g1, Post.bind h1 fun y μ2 w2 H2 u2 S2 r2 g2 h2 => by
    have r1 := VR.grow g2 r1
    unfold dgetM at h2
    split at h2
    · cases r1
      split at h2
      · rename_i kvs k hn hk
        split at h2
        · rename_i v hv
          obtain ⟨us, q1, q2, q3⟩ := dctOf_rd S2 hn
          have ek := keyOf_kV hk r2
          subst ek
          rcases kGet_rel (k := k) q2 q3 with ⟨v', u', e1, e2, e3⟩ | ⟨e1, e2⟩
          · rw [hv] at e1
            cases e1
            have dg : DGet H2 _ (kV k) (valV us k) := .inl ⟨us, k, q1, rfl, rfl⟩
            rw [e2] at dg
            exact ⟨_, u', rfl, dg, h2 w2 H2 u' S2 e3 .refl⟩
          · rw [hv] at e1
            cases e1
        · exact h2.elim
      · exact h2.elim
    · exact h2.elim⟩⟩
theorem pmo_none : PMO X E none mP0 := ⟨fun pins s σ H Q I ⟨w, ρ, μ, S, EN, hp⟩ => po_none.run pins s σ H Q I (hp w H none S rfl .refl)⟩
theorem pmo_some (h : PM X E e me) : PMO X E (some e) (mP me) := ⟨fun pins s σ H Q I ⟨w, ρ, μ, S, EN, hp⟩ => (po_some h).run pins s σ H Q I ⟨w, ρ, μ, S, EN, Post.bind hp fun x μ1 w1 H1 u1 S1 r1 g1 h1 => by
  cases x with
  | int i =>
    cases r1
    exact ⟨i, rfl, h1 w1 H1 _ S1 rfl .refl⟩
  | _ => exact h1.elim⟩⟩
theorem pm_slice {lo hi : Option Expr} {ml mh : MO} {p2 : Pos} (he : PM X E e me) (hl : PMO X E lo ml) (hh : PMO X E hi mh) : PM X E (.Subscript e (.Slice lo hi none p2) pos) (mSl me ml mh) :=
  PE.imp (pe_slice (sl_list.or sl_tup) he hl hh) fun σ H Q ⟨w, ρ, μ, S, EN, hp⟩ => ⟨w, ρ, μ, S, EN, Post.bind hp fun x μ1 w1 H1 u1 S1 r1 g1 h1 => ⟨w1, ρ, μ1, S1, EN.grow g1, Post.bind h1 fun l μ2 w2 H2 u2 S2 r2 g2 h2 => ⟨w2, ρ, μ2, S2, (EN.grow g1).grow g2, Post.bind h2 fun h μ3 w3 H3 u3 S3 r3 g3 h3 => by
    cases r2; cases r3
    have r1 := VR.grow g3 (VR.grow g2 r1)
    unfold slM at h3
    split at h3
    · obtain ⟨p, us, rfl, hq, rq⟩ := vr_tup r1
      split at h3
      · exact h3.elim
      · rename_i hc
        refine .inr ⟨p, us, rfl, hq, by rw [rq.length]; exact hc, fun q nq => ?_⟩
        obtain ⟨S4, g4, v4⟩ := S3.newT nq (cut_rel l h rq)
        exact h3 w3 _ _ S4 v4 g4
    · cases r1
      split at h3
      · rename_i vs hs
        obtain ⟨us, hq, rq⟩ := seqOf_sq S3 hs
        refine .inl ⟨_, us, rfl, hq, fun q nq => ?_⟩
        obtain ⟨w4, S4, g4, e4⟩ := S3.newL nq (cut_rel l h rq)
        exact h3 w4 _ _ S4 (by rw [← e4]; exact VR.loc (Nat.lt_succ_self _)) g4
      · exact h3.elim
    · exact h3.elim⟩⟩⟩
end
/-! ### builtins -/
def lenM : List Val → Mu → R Val
  | [.tup vs], μ => .ok (.int vs.length) μ
  | [.str x], μ => if x.length ≤ 1000000 then .ok (.int x.length) μ else .no
  | [.loc n], μ => match seqOf μ n with
    | some vs => .ok (.int vs.length) μ
    | none => .no
  | _, _ => .no
def listM : List Val → Mu → R Val
  | [.tup vs], μ => .ok (.loc μ.nx) (μ.new (.lst vs))
  | [.loc n], μ => match seqOf μ n with
    | some vs => .ok (.loc μ.nx) (μ.new (.lst vs))
    | none => .no
  | _, _ => .no
def tupleM : List Val → Mu → R Val
  | [.tup vs], μ => .ok (.tup vs) μ
  | [.loc n], μ => match seqOf μ n with
    | some vs => .ok (.tup vs) μ
    | none => .no
  | _, _ => .no
def minM : List Val → Mu → R Val
  | [.int i, .int j], μ => .ok (.int (if j < i then j else i)) μ
  | _, _ => .no
def maxM : List Val → Mu → R Val
  | [.int i, .int j], μ => .ok (.int (if j > i then j else i)) μ
  | _, _ => .no
def absM : List Val → Mu → R Val
  | [.int i], μ => .ok (.int (if i < 0 then -i else i)) μ
  | _, _ => .no
def intM : List Val → Mu → R Val
  | [.int i], μ => .ok (.int i) μ
  | _, _ => .no
def intsOf : List Val → Option (List Int)
  | [] => some []
  | .int i :: r => match intsOf r with
    | some l => some (i :: l)
    | none => none
  | _ :: _ => none
def sortedM : List Val → Mu → R Val
  | [.loc n], μ => match seqOf μ n with
    | some vs => match intsOf vs with
      | some l => .ok (.loc μ.nx) (μ.new (.lst ((srtI l).map Val.int)))
      | none => .no
    | none => .no
  | _, _ => .no
section
variable {X : Cx} {K : PySem.W.Frag}
theorem p_len : PrimA K (fun xs H Q => ∃ x n, xs = [x] ∧ LenV K x H n ∧ Q (.int n) H) lenM := by
  intro E w μ H xs us Q S r hp
  unfold lenM at hp
  split at hp
  · cases r with
    | cons r1 r2 =>
      cases r2
      obtain ⟨a, vs, rfl, hq, rq⟩ := vr_tup r1
      exact ⟨_, _, rfl, .inr ⟨vs, hq, rfl⟩, by rw [rq.length]; exact hp w H _ S (.int _) .refl⟩
  · cases r with
    | cons r1 r2 =>
      cases r2
      cases r1
      split at hp
      · rename_i hz
        exact ⟨_, _, rfl, ⟨Nat.le_of_lt (lim6 hz), rfl⟩, hp w H _ S (.int _) .refl⟩
      · exact hp.elim
  · cases r with
    | cons r1 r2 =>
      cases r2
      cases r1
      split at hp
      · rename_i vs hs
        obtain ⟨us, hq, rq⟩ := seqOf_sq S hs
        exact ⟨_, _, rfl, .inl ⟨us, hq, rfl⟩, by rw [rq.length]; exact hp w H _ S (.int _) .refl⟩
      · exact hp.elim
  · exact hp.elim
theorem p_min : PrimA K (fun xs H Q => ∃ i j, xs = [.int i, .int j] ∧ Q (.int (if j < i then j else i)) H) minM := by
  intro E w μ H xs us Q S r hp
  unfold minM at hp
  split at hp
  · cases r with
    | cons r1 r2 =>
      cases r2 with
      | cons r3 r4 =>
        cases r4; cases r1; cases r3
        exact ⟨_, _, rfl, hp w H _ S (.int _) .refl⟩
  · exact hp.elim
theorem p_max : PrimA K (fun xs H Q => ∃ i j, xs = [.int i, .int j] ∧ Q (.int (if j > i then j else i)) H) maxM := by
  intro E w μ H xs us Q S r hp
  unfold maxM at hp
  split at hp
  · cases r with
    | cons r1 r2 =>
      cases r2 with
      | cons r3 r4 =>
        cases r4; cases r1; cases r3
        exact ⟨_, _, rfl, hp w H _ S (.int _) .refl⟩
  · exact hp.elim
theorem p_abs : PrimA K (fun xs H Q => ∃ i, xs = [.int i] ∧ Q (.int (if i < 0 then -i else i)) H) absM := by
  intro E w μ H xs us Q S r hp
  unfold absM at hp
  split at hp
  · cases r with
    | cons r1 r2 =>
      cases r2; cases r1
      exact ⟨_, rfl, hp w H _ S (.int _) .refl⟩
  · exact hp.elim
theorem p_int : PrimA K (fun xs H Q => (∃ i, xs = [.int i] ∧ Q (.int i) H) ∨ ∃ k, xs = [.bl k] ∧ Q (.int (if k then 1 else 0)) H) intM := by
  intro E w μ H xs us Q S r hp
  unfold intM at hp
  split at hp
  · cases r with
    | cons r1 r2 =>
      cases r2; cases r1
      exact .inl ⟨_, rfl, hp w H _ S (.int _) .refl⟩
  · exact hp.elim
end
/-! ### methods of lists -/
def lstOf (x : Val) (μ : Mu) : Option (Nat × List Val) := match x with
  | .loc n => match μ.ob n with
    | some (.lst vs) => some (n, vs)
    | _ => none
  | _ => none
def mBm (f : Val → List Val → Mu → R Val) (o : ME) (a : MA) : ME := fun ρ μ => (o ρ μ).bind fun x μ => match lstOf x μ with
  | none => .no
  | some _ => (a ρ μ).bind fun xs μ => f x xs μ
def appM (x : Val) (xs : List Val) (μ : Mu) : R Val := match lstOf x μ, xs with
  | some (n, vs), [v] => if vs.length ≤ 1000000 then .ok .non (μ.put n (.lst (vs ++ [v]))) else .no
  | _, _ => .no
def popM (x : Val) (xs : List Val) (μ : Mu) : R Val := match lstOf x μ, xs with
  | some (n, vs), [.int i] => if vs.length ≤ 1000000 then match ixN vs.length i with
    | some k => match vs[k]? with
      | some v => .ok v (μ.put n (.lst (vs.eraseIdx k)))
      | none => .no
    | none => .no
    else .no
  | _, _ => .no
def extM (x : Val) (xs : List Val) (μ : Mu) : R Val := match lstOf x μ, xs with
  | some (n, vs), [y] => match lstOf y μ with
    | some (_, zs) => if vs.length + zs.length ≤ 1000000 then .ok .non (μ.put n (.lst (vs ++ zs))) else .no
    | none => .no
  | _, _ => .no
theorem lstOf_eq {x : Val} {μ : Mu} {n : Nat} {vs : List Val} (h : lstOf x μ = some (n, vs)) : x = .loc n ∧ μ.ob n = some (.lst vs) := by
  unfold lstOf at h
  split at h
  · split at h
    · rename_i e
      cases h
      exact ⟨rfl, e⟩
    · cases h
  · cases h
section
variable {X : Cx} {E : XK} {e o : Expr} {es : List Expr} {mo : ME} {mr : MA} {apos cpos : Pos} {name : Str} {id : String} {r : V → List V → Hp → VK → Prop} {f : Val → List Val → Mu → R Val}
def PrimM (K : PySem.W.Frag) (r : V → List V → Hp → VK → Prop) (f : Val → List Val → Mu → R Val) : Prop := ∀ (E : XK) (w : Wt) (μ : Mu) (H : Hp) (x : Val) (u : V) (xs : List Val) (us : List V) (Q : VK), Sim K w μ H → VR K w.ad μ.nx H x u → VRs K w.ad μ.nx H xs us → Post K (relE K) E w μ.nx H Q (f x xs μ) → r u us H Q
theorem pm_bmL (slot : Slot "list" name id) (hty : typeOf (.builtin id) = pure (.type "method_descriptor")) (hm : MtR X id r) (hf : PrimM X.K r f) (ho : PM X E o mo) (ha : PMA X E (e :: es) mr)
    (hbase : attributeBase o name X.env (eval o X.env) = eval o X.env := by rfl)
    (hfew : ((backTo cpos (starEach (e :: es) X.env)).all (fun x => !x.1) && (backToKw cpos (keywordEach [] X.env)).all (fun x => x.1.isSome)
      && decide ((e :: es).length + ([] : List Keyword).length + (if ([] : List Keyword).isEmpty then 0 else 1) < 30)) = true := by rfl)
    (hline : (apos.endLine == cpos.line) = true := by rfl) (hs : starEach (e :: es) X.env = (false, eval e X.env) :: starEach es X.env := by rfl) (hplain : (backTo cpos (starEach es X.env)).any (·.1) = false := by rfl) :
    PM X E (.Call (.Attribute o name apos) (e :: es) [] cpos) (mBm f mo mr) :=
  PE.imp (pe_bm PySem.F.plainAttrs_list slot hty hm ho ha hbase hfew hline hs hplain) fun σ H Q ⟨w, ρ, μ, S, EN, hp⟩ => ⟨w, ρ, μ, S, EN, Post.bind hp fun x μ1 w1 H1 u1 S1 r1 g1 h1 => by
    split at h1
    · exact h1.elim
    · rename_i p hl
      obtain ⟨rfl, hob⟩ := lstOf_eq (n := p.1) (vs := p.2) hl
      obtain ⟨us, q1, q2⟩ := S1.ok _ _ hob
      have tyv : tyV X.K "list" u1 H1 := by
        cases r1
        exact .inl ⟨rfl, us, SqL.of q1⟩
      exact ⟨tyv, w1, ρ, μ1, S1, EN.grow g1, Post.bind h1 fun xs μ2 w2 H2 u2 S2 r2 g2 h2 => hf E w2 μ2 H2 _ u1 xs u2 Q S2 (VR.grow g2 r1) r2 h2⟩⟩
theorem p_append {K : PySem.W.Frag} : PrimM K rAppend appM := by
  intro E w μ H x u xs us Q S hx hr hp
  unfold appM at hp
  split at hp
  · rename_i n vs v hl
    obtain ⟨rfl, hob⟩ := lstOf_eq hl
    split at hp
    · rename_i hz
      cases hx
      cases hr with
      | cons r1 r2 =>
        cases r2
        obtain ⟨us, q1, q2⟩ := S.ok _ _ hob
        refine ⟨_, us, _, rfl, rfl, q1, by rw [q2.length]; exact lim6 hz, ?_⟩
        obtain ⟨S2, g2⟩ := S.setL hob (q2.app (VRs.one r1))
        exact hp w _ _ S2 .non g2
    · exact hp.elim
  · exact hp.elim
theorem p_popAt {K : PySem.W.Frag} : PrimM K rPopAt popM := by
  intro E w μ H x u xs us Q S hx hr hp
  unfold popM at hp
  split at hp
  · rename_i n vs i hl
    obtain ⟨rfl, hob⟩ := lstOf_eq hl
    split at hp
    · rename_i hz
      cases hx
      cases hr with
      | cons r1 r2 =>
        cases r2; cases r1
        obtain ⟨us, q1, q2⟩ := S.ok _ _ hob
        split at hp
        · rename_i k hk
          split at hp
          · rename_i v hv
            obtain ⟨k1, k2, k3, k4⟩ := ixN_seq hk
            obtain ⟨u, e1, e2⟩ := q2.get k v hv
            refine ⟨_, us, i, k, u, rfl, rfl, q1, by omega, by omega, by rw [q2.length]; exact k1, e1, ?_⟩
            obtain ⟨S2, g2⟩ := S.setL hob (q2.erase k)
            exact hp w _ _ S2 (e2.grow g2) g2
          · exact hp.elim
        · exact hp.elim
    · exact hp.elim
  · exact hp.elim
end
end Wn
/-! the law's level: statements, loops, defs -/
namespace Wn
open PySem PySem.Spec PyProof.Rows L2 LamX He

inductive Fl where
  | nx (ρ : Rho) | rt (v : Val) | bk (ρ : Rho) | ct (ρ : Rho)
abbrev MS := Rho → Mu → R Fl
def PostS (K : PySem.W.Frag) (E : XK) (w : Wt) (b : Nat) (H : Hp) (D : Ends) : R Fl → Prop
  | .ok (.nx ρ') μ' => ∀ w' H' σ', Sim K w' μ' H' → EnvR K w' μ'.nx H' ρ' σ' → Grow K w b H w' μ'.nx H' → D.nx σ' H'
  | .ok (.rt v) μ' => ∀ w' H' u, Sim K w' μ' H' → VR K w'.ad μ'.nx H' v u → Grow K w b H w' μ'.nx H' → D.rt u H'
  | .ok (.bk ρ') μ' => ∀ w' H' σ', Sim K w' μ' H' → EnvR K w' μ'.nx H' ρ' σ' → Grow K w b H w' μ'.nx H' → D.bk σ' H'
  | .ok (.ct ρ') μ' => ∀ w' H' σ', Sim K w' μ' H' → EnvR K w' μ'.nx H' ρ' σ' → Grow K w b H w' μ'.nx H' → D.ct σ' H'
  | .er c fs μ' => ∀ w' H' d us, Sim K w' μ' H' → Grow K w b H w' μ'.nx H' → H' d = some (.xd us) → us.map (·.1) = fs.map (·.1) → VRs K w'.ad μ'.nx H' (fs.map (·.2)) (us.map (·.2)) → E (.ref (ga K c)) (some d) H'
  | .no => False
section
variable {K : PySem.W.Frag} {E : XK}
theorem PostS.grow {w w1 : Wt} {b b1 : Nat} {H H1 : Hp} {D : Ends} {r : R Fl} (h : PostS K E w b H D r) (g : Grow K w b H w1 b1 H1) : PostS K E w1 b1 H1 D r := by
  cases r with
  | ok a μ =>
    cases a with
    | nx ρ => exact fun w' H' σ' S r g' => h w' H' σ' S r (g.trans g')
    | rt v => exact fun w' H' σ' S r g' => h w' H' σ' S r (g.trans g')
    | bk ρ => exact fun w' H' σ' S r g' => h w' H' σ' S r (g.trans g')
    | ct ρ => exact fun w' H' σ' S r g' => h w' H' σ' S r (g.trans g')
  | er c fs μ => exact fun w' H' d us S g' => h w' H' d us S (g.trans g')
  | no => exact h
/-- an expression first -/
theorem PostS.bind {α β : Type} {rel : Rel α β} {w : Wt} {b : Nat} {H : Hp} {D : Ends} {Q1 : β → Hp → Prop} {r : R α} {k : α → Mu → R Fl} (h : PostS K E w b H D (r.bind k))
    (f : ∀ a μ1 w1 H1 u1, Sim K w1 μ1 H1 → rel w1 μ1.nx H1 a u1 → Grow K w b H w1 μ1.nx H1 → PostS K E w1 μ1.nx H1 D (k a μ1) → Q1 u1 H1) : Post K rel E w b H Q1 r := by
  cases r with
  | ok a μ1 => exact fun w1 H1 u1 S r g => f a μ1 w1 H1 u1 S r g (PostS.grow h g)
  | er c fs μ => exact h
  | no => exact h.elim
end
def tS (K : PySem.W.Frag) (E : XK) (m : MS) : TS := fun D σ H => ∃ w ρ μ, Sim K w μ H ∧ EnvR K w μ.nx H ρ σ ∧ PostS K E w μ.nx H D (m ρ μ)
def PMS (X : Cx) (E : XK) (st : Stmt) (m : MS) : Prop := PS X st (tS X.K E m)
def PMSs (X : Cx) (E : XK) (st : List Stmt) (m : MS) : Prop := PSs X st (tS X.K E m)
theorem PS.imp {X : Cx} {st : Stmt} {t t0 : TS} (h : PS X st t) (i : ∀ D σ H, t0 D σ H → t D σ H) : PS X st t0 := ⟨fun pins s σ H D I hw => h.run pins s σ H D I (i D σ H hw)⟩
theorem PSs.imp {X : Cx} {st : List Stmt} {t t0 : TS} (h : PSs X st t) (i : ∀ D σ H, t0 D σ H → t D σ H) : PSs X st t0 := ⟨fun pins s σ H D I hw => h.run pins s σ H D I (i D σ H hw)⟩

/-! ### the words -/
def sNil : MS := fun ρ μ => .ok (.nx ρ) μ
def sThen (r : R Fl) (k : Rho → Mu → R Fl) : R Fl := match r with
  | .ok (.nx ρ) μ => k ρ μ
  | r => r
@[simp] theorem sThen_nx (ρ : Rho) (μ : Mu) (k : Rho → Mu → R Fl) : sThen (.ok (.nx ρ) μ) k = k ρ μ := rfl
@[simp] theorem sThen_rt (v : Val) (μ : Mu) (k : Rho → Mu → R Fl) : sThen (.ok (.rt v) μ) k = .ok (.rt v) μ := rfl
@[simp] theorem sThen_bk (v : Rho) (μ : Mu) (k : Rho → Mu → R Fl) : sThen (.ok (.bk v) μ) k = .ok (.bk v) μ := rfl
@[simp] theorem sThen_ct (v : Rho) (μ : Mu) (k : Rho → Mu → R Fl) : sThen (.ok (.ct v) μ) k = .ok (.ct v) μ := rfl
def sSeq (a b : MS) : MS := fun ρ μ => sThen (a ρ μ) b
def sSet (i : Nat) (m : ME) : MS := fun ρ μ => (m ρ μ).bind fun v μ => .ok (.nx (ρ.set i (some v))) μ
def sExpr (m : ME) : MS := fun ρ μ => (m ρ μ).bind fun _ μ => .ok (.nx ρ) μ
def sRet (m : ME) : MS := fun ρ μ => (m ρ μ).bind fun v μ => .ok (.rt v) μ
def sRetN : MS := fun _ μ => .ok (.rt .non) μ
def sIf (c : MT) (a b : MS) : MS := fun ρ μ => (c ρ μ).bind fun k μ => if k = true then a ρ μ else b ρ μ
def sBrk : MS := fun ρ μ => .ok (.bk ρ) μ
def sCnt : MS := fun ρ μ => .ok (.ct ρ) μ
def sPar (i j : Nat) (m : MA) : MS := fun ρ μ => (m ρ μ).bind fun vs μ => match vs with
  | [v, w] => .ok (.nx ((ρ.set i (some v)).set j (some w))) μ
  | _ => .no
def sPar3 (i j k : Nat) (m : MA) : MS := fun ρ μ => (m ρ μ).bind fun vs μ => match vs with
  | [u, v, w] => .ok (.nx (((ρ.set i (some u)).set j (some v)).set k (some w))) μ
  | _ => .no
/-- targets: a name, names in a tuple -/
def unp : List Nat → List Val → Rho → Option Rho
  | [], [], ρ => some ρ
  | i :: is, v :: vs, ρ => unp is vs (ρ.set i (some v))
  | _, _, _ => none
def tgN (i : Nat) (v : Val) (ρ : Rho) : Option Rho := some (ρ.set i (some v))
def tgT (is : List Nat) (v : Val) (ρ : Rho) : Option Rho := match v with
  | .tup vs => unp is vs ρ
  | _ => none
def sAsg (g : Val → Rho → Option Rho) (m : ME) : MS := fun ρ μ => (m ρ μ).bind fun v μ => match g v ρ with
  | some ρ' => .ok (.nx ρ') μ
  | none => .no
def stoM : Val → Val → Val → Mu → R Unit
  | .loc n, .int i, v, μ => match μ.ob n with
    | some (.lst vs) => match ixN vs.length i with
      | some j => .ok () (μ.put n (.lst (vs.set j v)))
      | none => .no
    | _ => .no
  | _, _, _, _ => .no
def dstoM : Val → Val → Val → Mu → R Unit
  | .loc n, y, v, μ => match μ.ob n, keyOf y with
    | some (.dct kvs), some k => if kvs.length ≤ 1000000 then .ok () (μ.put n (.dct (kPut kvs k v))) else .no
    | _, _ => .no
  | _, _, _, _ => .no
def sSto (f : Val → Val → Val → Mu → R Unit) (o i v : ME) : MS := fun ρ μ => (v ρ μ).bind fun v μ => (o ρ μ).bind fun o μ => (i ρ μ).bind fun i μ => (f o i v μ).bind fun _ μ => .ok (.nx ρ) μ
section
variable {X : Cx} {E : XK} {e c o : Expr} {es : List Expr} {st : Stmt} {sts a b : List Stmt} {m mo mi mv : ME} {ms mt : MS} {mc : MT} {mr : MA} {pos : Pos}
theorem pmss_nil : PMSs X E [] sNil := PSs.imp pss_nil fun D σ H ⟨w, ρ, μ, S, EN, hp⟩ => hp w H σ S EN .refl
theorem post_then {K : PySem.W.Frag} {w : Wt} {b : Nat} {H : Hp} {D : Ends} {r : R Fl} {k : MS} (h : PostS K E w b H D (sThen r k)) : PostS K E w b H { D with nx := tS K E k D } r := by
  cases r with
  | ok a μ =>
    cases a with
    | nx ρ => exact fun w' H' σ' S EN g => ⟨w', ρ, μ, S, EN, PostS.grow h g⟩
    | _ => exact h
  | er c fs μ => exact h
  | no => exact h
theorem pmss_cons (h1 : PMS X E st ms) (h2 : PMSs X E sts mt) : PMSs X E (st :: sts) (sSeq ms mt) :=
  PSs.imp (pss_cons h1 h2) fun D σ H ⟨w, ρ, μ, S, EN, hp⟩ => ⟨w, ρ, μ, S, EN, post_then hp⟩
theorem pmss_one (h1 : PMS X E st ms) : PMSs X E [st] ms := pss_one h1
theorem pms_expr (he : PM X E e m) (hs : swapsWith e none pos.line X.env = pure false := by rfl) : PMS X E (.Expr e pos) (sExpr m) :=
  PS.imp (ps_expr he hs) fun D σ H ⟨w, ρ, μ, S, EN, hp⟩ => ⟨w, ρ, μ, S, EN, PostS.bind hp fun x μ1 w1 H1 u1 S1 r1 g1 h1 => h1 w1 H1 σ S1 (EN.grow g1) .refl⟩
theorem pms_ret (he : PM X E e m) : PMS X E (.Return (some e) pos) (sRet m) :=
  PS.imp (ps_ret he) fun D σ H ⟨w, ρ, μ, S, EN, hp⟩ => ⟨w, ρ, μ, S, EN, PostS.bind hp fun x μ1 w1 H1 u1 S1 r1 g1 h1 => h1 w1 H1 u1 S1 r1 .refl⟩
theorem pms_if (hc : PMT X E c mc) (ha : PMSs X E a ms) (hb : PMSs X E b mt) : PMS X E (.If c a b pos) (sIf mc ms mt) :=
  PS.imp (ps_if hc ha hb) fun D σ H ⟨w, ρ, μ, S, EN, hp⟩ => ⟨w, ρ, μ, S, EN, PostS.bind hp fun x μ1 w1 H1 u1 S1 r1 g1 h1 => by
    cases r1
    cases x with
    | true => exact iteT ⟨w1, ρ, μ1, S1, EN.grow g1, h1⟩
    | false => exact iteF ⟨w1, ρ, μ1, S1, EN.grow g1, h1⟩⟩
theorem pms_set {i : Nat} {x : Str} {pos' : Pos} (hN : X.N.Nodup) (hi : X.N[i]? = some x) (hx : Loc X.env.scope x) (he : PM X E e m) (hs : swapsWith e (some (.Name x pos')) pos.line X.env = pure false := by rfl) (hf : X.fn x = true ∨ X.env.scope.names.lookup x = some .local := by first | exact .inl rfl | exact .inr rfl | assumption) :
    PMS X E (.Assign [.Name x pos'] e pos) (sSet i m) :=
  PS.imp (ps_set hN hi hx he hs hf) fun D σ H ⟨w, ρ, μ, S, EN, hp⟩ => ⟨w, ρ, μ, S, EN, PostS.bind hp fun x μ1 w1 H1 u1 S1 r1 g1 h1 => h1 w1 H1 _ S1 ((EN.grow g1).set i r1) .refl⟩
theorem pms_par {i j : Nat} {x y : Str} {a b : Expr} {px py pt : Pos} {kt k2 pt2} (hc : X.calm = true) (hN : X.N.Nodup) (hi : X.N[i]? = some x) (hj : X.N[j]? = some y) (hij : i ≠ j)
    (hx : X.env.scope.names.lookup x = some .local) (hy : X.env.scope.names.lookup y = some .local) (ha : PMA X E [a, b] mr)
    (hw : swappedStores [.Tuple [.Name x px, .Name y py] kt pt] (.Tuple [a, b] k2 pt2) X.env = pure (some [x, y]))
    (hs : swapsWithSole [.Tuple [.Name x px, .Name y py] kt pt] (.Tuple [a, b] k2 pt2) pos.line X.env = pure false := by rfl) :
    PMS X E (.Assign [.Tuple [.Name x px, .Name y py] kt pt] (.Tuple [a, b] k2 pt2) pos) (sPar i j mr) :=
  PS.imp (ps_par hc hN hi hj hij hx hy ha hw hs) fun D σ H ⟨w, ρ, μ, S, EN, hp⟩ => ⟨w, ρ, μ, S, EN, PostS.bind hp fun vs μ1 w1 H1 us S1 r1 g1 h1 => by
    split at h1
    · cases r1 with
      | cons ra rr =>
        cases rr with
        | cons rb rr =>
          cases rr
          exact ⟨_, _, rfl, h1 w1 H1 _ S1 (((EN.grow g1).set i ra).set j rb) .refl⟩
    · exact h1.elim⟩
theorem pms_par3 {i j l : Nat} {x y z : Str} {a b c : Expr} {px py pz pt : Pos} {kt k2 pt2} (hc : X.calm = true) (hN : X.N.Nodup) (hi : X.N[i]? = some x) (hj : X.N[j]? = some y) (hl : X.N[l]? = some z) (hij : i ≠ j) (hil : i ≠ l) (hjl : j ≠ l)
    (hx : X.env.scope.names.lookup x = some .local) (hy : X.env.scope.names.lookup y = some .local) (hz : X.env.scope.names.lookup z = some .local) (ha : PMA X E [a, b, c] mr)
    (hw : swappedStores [.Tuple [.Name x px, .Name y py, .Name z pz] kt pt] (.Tuple [a, b, c] k2 pt2) X.env = pure (some [x, y, z]))
    (hs : swapsWithSole [.Tuple [.Name x px, .Name y py, .Name z pz] kt pt] (.Tuple [a, b, c] k2 pt2) pos.line X.env = pure false := by rfl) :
    PMS X E (.Assign [.Tuple [.Name x px, .Name y py, .Name z pz] kt pt] (.Tuple [a, b, c] k2 pt2) pos) (sPar3 i j l mr) :=
  PS.imp (ps_par3 hc hN hi hj hl hij hil hjl hx hy hz ha hw hs) fun D σ H ⟨w, ρ, μ, S, EN, hp⟩ => ⟨w, ρ, μ, S, EN, PostS.bind hp fun vs μ1 w1 H1 us S1 r1 g1 h1 => by
    split at h1
    · cases r1 with
      | cons ra rr =>
        cases rr with
        | cons rb rr =>
          cases rr with
          | cons rc rr =>
            cases rr
            exact ⟨_, _, _, rfl, h1 w1 H1 _ S1 ((((EN.grow g1).set i ra).set j rb).set l rc) .refl⟩
    · exact h1.elim⟩
/-! ### targets -/
theorem wipe_in {σ : L2.St} {i : Nat} : ∀ {vs : List Nat}, i ∈ vs → (wipe σ vs)[i]? = (σ[i]?).map fun _ => none
  | [], h => by cases h
  | v :: vs, h => by
    unfold wipe
    by_cases c : v = i
    · subst c
      rw [List.getElem?_set, if_pos rfl, wipe_length]
      by_cases d : v < σ.length
      · rw [if_pos d, List.getElem?_eq_getElem d]
        rfl
      · rw [if_neg d, List.getElem?_eq_none (by omega)]
        rfl
    · rw [List.getElem?_set_ne c]
      rcases List.mem_cons.mp h with z | z
      · exact (c z.symm).elim
      · exact wipe_in z
theorem wipe_set {σ : L2.St} {i : Nat} {x : Option V} {vs : List Nat} (h : i ∈ vs) : wipe (σ.set i x) vs = wipe σ vs := by
  apply List.ext_getElem?
  intro j
  by_cases c : j ∈ vs
  · rw [wipe_in c, wipe_in c, List.getElem?_set]
    by_cases d : i = j
    · subst d
      rw [if_pos rfl]
      by_cases l : i < σ.length
      · rw [if_pos l, List.getElem?_eq_getElem l]
        rfl
      · rw [if_neg l, List.getElem?_eq_none (by omega)]
    · rw [if_neg d]
  · have ne : i ≠ j := fun z => c (by rw [← z]; exact h)
    rw [wipe_out c, wipe_out c, List.getElem?_set_ne ne]
def Wiped (is : List Nat) (σ σ' : L2.St) : Prop := ∀ vs : List Nat, (∀ i ∈ is, i ∈ vs) → wipe σ' vs = wipe σ vs
def tG (K : PySem.W.Frag) (is : List Nat) (g : Val → Rho → Option Rho) : TG := fun x σ H Q => ∃ w ρ b v ρ', EnvR K w b H ρ σ ∧ VR K w.ad b H v x ∧ g v ρ = some ρ' ∧ ∀ σ', EnvR K w b H ρ' σ' → Wiped is σ σ' → Q σ' H
def PMG (X : Cx) (tg : Expr) (is : List Nat) (g : Val → Rho → Option Rho) : Prop := PG X tg (tG X.K is g)
def tGs (K : PySem.W.Frag) (is : List Nat) : TGs := fun xs σ H Q => ∃ w ρ b vs ρ', EnvR K w b H ρ σ ∧ VRs K w.ad b H vs xs ∧ unp is vs ρ = some ρ' ∧ ∀ σ', EnvR K w b H ρ' σ' → Wiped is σ σ' → Q σ' H
theorem PG.imp {tg : Expr} {t t0 : TG} (h : PG X tg t) (i : ∀ x σ H Q, t0 x σ H Q → t x σ H Q) : PG X tg t0 := ⟨fun pins s σ H v u Q I r hw => h.run pins s σ H v u Q I r (i v σ H Q hw)⟩
theorem PGs.imp {tg : List Expr} {t t0 : TGs} (h : PGs X tg t) (i : ∀ x σ H Q, t0 x σ H Q → t x σ H Q) : PGs X tg t0 := ⟨fun pins s σ H v u Q I r hw => h.run pins s σ H v u Q I r (i v σ H Q hw)⟩
theorem pmg_name {i : Nat} {x : Str} (hN : X.N.Nodup) (hi : X.N[i]? = some x) (hx : Loc X.env.scope x) (hf : X.fn x = true ∨ X.env.scope.names.lookup x = some .local := by first | exact .inl rfl | exact .inr rfl | assumption) : PMG X (.Name x pos) [i] (tgN i) :=
  PG.imp (pg_name hN hi hx hf) fun x σ H Q ⟨w, ρ, b, v, ρ', EN, r, h1, h2⟩ => by
    cases h1
    exact h2 _ (EN.set i r) fun vs hv => wipe_set (hv i (by simp))
def PMGs (X : Cx) (ts : List Expr) (is : List Nat) : Prop := PGs X ts (tGs X.K is)
theorem pmgs_nil : PMGs X [] [] := PGs.imp pgs_nil fun x σ H Q ⟨w, ρ, b, vs, ρ', EN, r, h1, h2⟩ => by
  cases vs with
  | nil =>
    cases r
    cases h1
    exact ⟨rfl, h2 _ EN fun _ _ => rfl⟩
  | cons v vs => cases h1
theorem pmgs_cons {i : Nat} {x : Str} {is : List Nat} {ts : List Expr} {px : Pos} (hN : X.N.Nodup) (hi : X.N[i]? = some x) (hx : Loc X.env.scope x) (h2 : PMGs X ts is) (hf : X.fn x = true ∨ X.env.scope.names.lookup x = some .local := by first | exact .inl rfl | exact .inr rfl | assumption)
    (ha : (assignEach (.Name x px :: ts) X.env).map (·.2) = assign (.Name x px) X.env :: (assignEach ts X.env).map (·.2) := by rfl) : PMGs X (.Name x px :: ts) (i :: is) :=
  PGs.imp (pgs_cons (pg_name (i := i) hN hi hx hf) h2 ha) fun xs σ H Q ⟨w, ρ, b, vs, ρ', EN, r, h1, h3⟩ => by
    cases vs with
    | nil => cases h1
    | cons v vs =>
      cases r with
      | cons r1 r2 => exact ⟨_, _, rfl, w, _, b, vs, ρ', EN.set i r1, r2, h1, fun σ' EN' hw => h3 σ' EN' fun l hl => (hw l fun j hj => hl j (List.mem_cons_of_mem _ hj)).trans (wipe_set (hl i List.mem_cons_self))⟩
theorem unp_len : ∀ {is : List Nat} {vs : List Val} {ρ ρ' : Rho}, unp is vs ρ = some ρ' → vs.length = is.length
  | [], [], _, _, _ => rfl
  | i :: is, v :: vs, ρ, ρ', h => by simp [unp_len (is := is) (vs := vs) h]
  | [], _ :: _, _, _, h => by cases h
  | _ :: _, [], _, _, h => by cases h
theorem pmg_tup {ts : List Expr} {is : List Nat} {k : Nat} {n : Nat} (hc : X.calm = true) (h : PMGs X ts is) (hl : is.length = n := by rfl)
    (hn : (assignEach ts X.env).length = n := by rfl) (hst : (assignEach ts X.env).findIdx? (·.1) = none := by rfl) : PMG X (.Tuple ts k pos) is (tgT is) :=
  PG.imp (pg_tup hc h hn hst) fun x σ H Q ⟨w, ρ, b, v, ρ', EN, r, h1, h2⟩ => by
    cases v with
    | tup vs =>
      obtain ⟨a, us, rfl, hq, rq⟩ := vr_tup r
      exact ⟨a, us, rfl, hq, by rw [rq.length, unp_len (is := is) h1]; exact hl, w, ρ, b, vs, ρ', EN, rq, h1, h2⟩
    | _ => cases h1
theorem pms_asg {tg : Expr} {is : List Nat} {g : Val → Rho → Option Rho} (he : PM X E e m) (hg : PMG X tg is g) (hs : swapsWithSole [tg] e pos.line X.env = pure false := by rfl) (hw : swappedStores [tg] e X.env = pure none := by rfl)
    (h1 : (assignEach [tg] X.env).map (·.2) = [assign tg X.env] := by rfl) : PMS X E (.Assign [tg] e pos) (sAsg g m) :=
  PS.imp (ps_asg he hg hs hw h1) fun D σ H ⟨w, ρ, μ, S, EN, hp⟩ => ⟨w, ρ, μ, S, EN, PostS.bind hp fun x μ1 w1 H1 u1 S1 r1 g1 h1 => by
    split at h1
    · rename_i ρ' hq
      exact ⟨w1, ρ, μ1.nx, x, ρ', EN.grow g1, r1, hq, fun σ' EN' _ => h1 w1 H1 σ' S1 EN' .refl⟩
    · exact h1.elim⟩
/-! ### stores -/
theorem pms_sto {o i : Expr} {pos' : Pos} (hv : PM X E e mv) (ho : PM X E o mo) (hi : PM X E i mi) (hs : swapsWithSole [.Subscript o i pos'] e pos.line X.env = pure false := by rfl) (hw : swappedStores [.Subscript o i pos'] e X.env = pure none := by rfl)
    (h1 : (assignEach [.Subscript o i pos'] X.env).map (·.2) = [assign (.Subscript o i pos') X.env] := by rfl)
    (ha : ∀ v, assign (.Subscript o i pos') X.env v = (do
      let ov ← holding [v] (eval o X.env)
      let iv ← holding [v, ov] (eval i X.env)
      standAt pos'
      holding [v, ov, iv] (setItem ov iv v)
      release [v, ov, iv] []) := by intro _; rfl) : PMS X E (.Assign [.Subscript o i pos'] e pos) (sSto stoM mo mi mv) :=
  PS.imp (ps_asg hv (pg_sub ho hi set_list ha) hs hw h1) fun D σ H ⟨w, ρ, μ, S, EN, hp⟩ => ⟨w, ρ, μ, S, EN, PostS.bind hp fun v μ1 w1 H1 uv S1 rv g1 h1 => ⟨w1, ρ, μ1, S1, EN.grow g1, PostS.bind h1 fun o μ2 w2 H2 uo S2 ro g2 h2 => ⟨w2, ρ, μ2, S2, (EN.grow g1).grow g2, PostS.bind h2 fun i μ3 w3 H3 ui S3 ri g3 h3 => by
    have rv := VR.grow g3 (VR.grow g2 rv)
    have ro := VR.grow g3 ro
    have EN3 := ((EN.grow g1).grow g2).grow g3
    unfold stoM at h3
    split at h3
    · cases ri
      cases ro
      split at h3
      · rename_i vs hn
        split at h3
        · rename_i j hj
          obtain ⟨us, q1, q2⟩ := S3.ok _ _ hn
          obtain ⟨S4, g4⟩ := S3.setL hn (q2.set j rv)
          exact ⟨_, us, _, j, rfl, rfl, q1, by rw [q2.length]; exact hj, h3 w3 _ σ S4 (EN3.grow g4) g4⟩
        · exact h3.elim
      · exact h3.elim
    · exact h3.elim⟩⟩⟩
end
section
variable {K : PySem.W.Frag} {ad : Nat → Addr} {b : Nat} {H : Hp}
theorem kAny {k : Key} : ∀ {kvs : List (Key × Val)} {us : List (Key × V)}, us.map (·.1) = kvs.map (·.1) → (us.any fun p => decide (p.1 = k)) = kvs.any fun p => decide (p.1 = k)
  | [], [], _ => rfl
  | p :: kvs, q :: us, h => by
    simp only [List.map_cons, List.cons.injEq] at h
    rw [List.any_cons, List.any_cons, kAny h.2, h.1]
  | [], _ :: _, h => by simp at h
  | _ :: _, [], h => by simp at h
theorem kPut_rel {k : Key} {v : Val} {u : V} (rv : VR K ad b H v u) {kvs : List (Key × Val)} {us : List (Key × V)} (h : us.map (·.1) = kvs.map (·.1)) (r : VRs K ad b H (kvs.map (·.2)) (us.map (·.2))) :
    (putK us k u).map (·.1) = (kPut kvs k v).map (·.1) ∧ VRs K ad b H ((kPut kvs k v).map (·.2)) ((putK us k u).map (·.2)) := by
  unfold putK kPut
  rw [kAny h]
  by_cases c : (kvs.any fun p => decide (p.1 = k)) = true
  · rw [if_pos c, if_pos c]
    clear c
    induction kvs generalizing us with
    | nil =>
      cases us with
      | nil => exact ⟨rfl, .nil⟩
      | cons _ _ => simp at h
    | cons p kvs ih =>
      cases us with
      | nil => simp at h
      | cons q us =>
        simp only [List.map_cons, List.cons.injEq] at h
        cases r with
        | cons r1 r2 =>
          obtain ⟨i1, i2⟩ := ih h.2 r2
          simp only [List.map_cons]
          by_cases c : p.1 = k
          · rw [if_pos c, if_pos (h.1.trans c)]
            exact ⟨by rw [i1, h.1], .cons rv i2⟩
          · rw [if_neg c, if_neg (fun z => c (h.1.symm.trans z))]
            exact ⟨by rw [i1, h.1], .cons r1 i2⟩
  · rw [if_neg c, if_neg c]
    refine ⟨by rw [List.map_append, List.map_append, h]; rfl, ?_⟩
    rw [List.map_append, List.map_append]
    exact r.app (VRs.one rv)
theorem kDrop_rel {k : Key} : ∀ {kvs : List (Key × Val)} {us : List (Key × V)}, us.map (·.1) = kvs.map (·.1) → VRs K ad b H (kvs.map (·.2)) (us.map (·.2)) →
    (dropK us k).map (·.1) = (kDrop kvs k).map (·.1) ∧ VRs K ad b H ((kDrop kvs k).map (·.2)) ((dropK us k).map (·.2))
  | [], [], _, _ => ⟨rfl, .nil⟩
  | p :: kvs, q :: us, h, r => by
    simp only [List.map_cons, List.cons.injEq] at h
    cases r with
    | cons r1 r2 =>
      obtain ⟨i1, i2⟩ := kDrop_rel (k := k) h.2 r2
      unfold dropK kDrop at i1 i2 ⊢
      by_cases c : p.1 = k
      · have c' : q.1 = k := h.1.trans c
        rw [List.filter_cons_of_neg (fun z => (of_decide_eq_true z) c'), List.filter_cons_of_neg (fun z => (of_decide_eq_true z) c)]
        exact ⟨i1, i2⟩
      · have c' : ¬ q.1 = k := fun z => c (h.1.symm.trans z)
        rw [List.filter_cons_of_pos (p := fun kv : Key × V => decide (kv.1 ≠ k)) (decide_eq_true c'), List.filter_cons_of_pos (p := fun kv : Key × Val => decide (kv.1 ≠ k)) (decide_eq_true c)]
        exact ⟨by rw [List.map_cons, List.map_cons, i1, h.1], .cons r1 i2⟩
  | [], _ :: _, h, _ => by simp at h
  | _ :: _, [], h, _ => by simp at h
end
section
variable {X : Cx} {E : XK} {e c o : Expr} {es : List Expr} {st : Stmt} {sts a b : List Stmt} {m mo mi mv : ME} {ms mt : MS} {mc : MT} {mr : MA} {pos : Pos}
theorem kv_len' {K : PySem.W.Frag} {ad : Nat → Addr} {b : Nat} {H : Hp} {kvs : List (Key × Val)} {us : List (Key × V)} (h : us.map (·.1) = kvs.map (·.1)) : us.length = kvs.length := by
  have := congrArg List.length h
  simpa using this
theorem pms_dsto {o i : Expr} {pos' : Pos} (hu : X.A.units + 1 < cLine) (hv : PM X E e mv) (ho : PM X E o mo) (hi : PM X E i mi) (hs : swapsWith e (some (.Subscript o i pos')) pos.line X.env = pure false := by rfl) : PMS X E (.Assign [.Subscript o i pos'] e pos) (sSto dstoM mo mi mv) :=
  PS.imp (ps_dput hu ho hi hv hs) fun D σ H ⟨w, ρ, μ, S, EN, hp⟩ => ⟨w, ρ, μ, S, EN, PostS.bind hp fun v μ1 w1 H1 uv S1 rv g1 h1 => ⟨w1, ρ, μ1, S1, EN.grow g1, PostS.bind h1 fun o μ2 w2 H2 uo S2 ro g2 h2 => ⟨w2, ρ, μ2, S2, (EN.grow g1).grow g2, PostS.bind h2 fun i μ3 w3 H3 ui S3 ri g3 h3 => by
    have rv := VR.grow g3 (VR.grow g2 rv)
    have ro := VR.grow g3 ro
    have EN3 := ((EN.grow g1).grow g2).grow g3
    unfold dstoM at h3
    split at h3
    · cases ro
      split at h3
      · rename_i kvs k hn hk
        split at h3
        · rename_i hz
          obtain ⟨us, q1, q2, q3⟩ := S3.ok _ _ hn
          rw [keyOf_kV hk ri]
          obtain ⟨p1, p2⟩ := kPut_rel (k := k) rv q2 q3
          obtain ⟨S4, g4⟩ := S3.setD hn p1 p2
          exact ⟨_, _, rfl, DPut.k q1 (by rw [kv_len' (K := X.K) (ad := w3.ad) (b := 0) (H := H3) q2]; exact lim6 hz), h3 w3 _ σ S4 (EN3.grow g4) g4⟩
        · exact h3.elim
      · exact h3.elim
    · exact h3.elim⟩⟩⟩
end
end Wn
/-! the law's level: loops, defs -/
namespace Wn
open PySem PySem.Spec PyProof.Rows L2 LamX He

/-! ### what is walked -/
inductive Wk where
  | seq (v : Val) | rng (lo : Int) (n : Nat) | enm (n : Nat) | zip (n m : Nat) | key (n : Nat)
def keyV : Key → Val
  | .inl i => .int i
  | .inr x => .str x
def rngM (lo : Int) (n : Nat) : List Val := (List.range n).map fun (k : Nat) => .int (lo + (k : Int))
def enmM (vs : List Val) : List Val := vs.zipIdx.map fun p => .tup [.int (p.2 : Nat), p.1]
def zipM (vs ws : List Val) : List Val := (vs.zip ws).map fun p => .tup [p.1, p.2]
def Wk.items : Wk → Mu → Option (List Val)
  | .seq (.tup vs), _ => some vs
  | .seq (.loc n), μ => seqOf μ n
  | .seq _, _ => none
  | .rng lo n, _ => some (rngM lo n)
  | .enm n, μ => (seqOf μ n).map enmM
  | .zip n m, μ => match seqOf μ n, seqOf μ m with
    | some vs, some ws => some (zipM vs ws)
    | _, _ => none
  | .key n, μ => match μ.ob n with
    | some (.rod kvs) => some (kvs.map fun p => keyV p.1)
    | _ => none
abbrev MI := Rho → Mu → R Wk
def relI (K : PySem.W.Frag) : Rel Wk It := fun w b H k J => ∀ w' μ' H', Grow K w b H w' μ'.nx H' → Sim K w' μ' H' → ∀ vs, k.items μ' = some vs → ∀ i : Nat, (vs[i]? = none → J.stop i H') ∧
  ∀ v, vs[i]? = some v → J.go i H' ∧ ∀ x H2, J.yld i H' x H2 → ∃ w2, Sim K w2 μ' H2 ∧ VR K w2.ad μ'.nx H2 v x ∧ Grow K w' μ'.nx H' w2 μ'.nx H2
def PMI (X : Cx) (E : XK) (tg iter : Expr) (m : MI) : Prop := PI X tg iter (tM X.K (relI X.K) E m)
theorem PI.imp {X : Cx} {tg iter : Expr} {t t0 : TI} (h : PI X tg iter t) (i : ∀ σ H R, t0 σ H R → t σ H R) : PI X tg iter t0 := ⟨fun pins s σ H R I hw => h.run pins s σ H R I (i σ H R hw)⟩
def iSeq (m : ME) : MI := fun ρ μ => (m ρ μ).bind fun v μ => match (Wk.seq v).items μ with
  | some _ => .ok (.seq v) μ
  | none => .no
def iRng1 (m : MA) : MI := fun ρ μ => (m ρ μ).bind fun vs μ => match vs with
  | [.int j] => if j ≤ 1000000 ∧ -1000000 ≤ j then .ok (.rng 0 j.toNat) μ else .no
  | _ => .no
def iRng2 (m : MA) : MI := fun ρ μ => (m ρ μ).bind fun vs μ => match vs with
  | [.int i, .int j] => if (j ≤ 1000000 ∧ -1000000 ≤ j) ∧ i ≤ 1000000 ∧ -1000000 ≤ i then .ok (.rng i (j - i).toNat) μ else .no
  | _ => .no
def iEnm (m : MA) : MI := fun ρ μ => (m ρ μ).bind fun vs μ => match vs with
  | [.loc n] => match seqOf μ n with
    | some _ => .ok (.enm n) μ
    | none => .no
  | _ => .no
theorem rngM_get (lo : Int) (n i : Nat) : (rngM lo n)[i]? = if i < n then some (.int (lo + i)) else none := by
  unfold rngM
  rw [List.getElem?_map]
  by_cases c : i < n
  · rw [if_pos c, List.getElem?_range c]
    rfl
  · rw [if_neg c, List.getElem?_eq_none (by rw [List.length_range]; omega)]
    rfl
theorem enmM_get (vs : List Val) (i : Nat) : (enmM vs)[i]? = (vs[i]?).map fun v => .tup [.int (i : Nat), v] := by
  unfold enmM
  rw [List.getElem?_map, List.getElem?_zipIdx]
  cases vs[i]? with
  | none => rfl
  | some v => simp
section
variable {X : Cx} {E : XK} {e tg iter a : Expr} {m n : ME} {pos p : Pos}
theorem relI_seq {K : PySem.W.Frag} {w : Wt} {b : Nat} {H : Hp} {k : Nat} (hk : k < b) : relI K w b H (.seq (.loc k)) (Itl K (w.ad k)) := by
  intro w' μ' H' g S vs hv i
  obtain ⟨us, q1, q2⟩ := seqOf_sq S (show seqOf μ' k = some vs from hv)
  rw [g.ad k hk] at q1
  refine ⟨fun h => ⟨us, q1, ?_⟩, fun v h => ?_⟩
  · rw [q2.length]
    exact List.getElem?_eq_none_iff.mp h
  · obtain ⟨u, e1, e2⟩ := q2.get i v h
    refine ⟨⟨us, u, q1, e1⟩, fun x H2 y => ?_⟩
    obtain ⟨rfl, y⟩ := y
    have := y us q1
    rw [e1] at this
    cases this
    exact ⟨w', S, e2, .refl⟩
theorem relI_tup {K : PySem.W.Frag} {w : Wt} {b : Nat} {H : Hp} {p : Addr} {vs0 : List Val} {us : List V} (hq : SqT K H p us) (r : VRs K w.ad b H vs0 us) : relI K w b H (.seq (.tup vs0)) (Itt K p) := by
  intro w' μ' H' g S vs hv i
  have hv : some vs0 = some vs := hv
  cases hv
  have q1 := g.tp _ _ hq
  have q2 := r.grow g
  refine ⟨fun h => ⟨us, q1, ?_⟩, fun v h => ?_⟩
  · rw [q2.length]
    exact List.getElem?_eq_none_iff.mp h
  · obtain ⟨u, e1, e2⟩ := q2.get i v h
    refine ⟨⟨us, u, q1, e1⟩, fun x H2 y => ?_⟩
    obtain ⟨rfl, y⟩ := y
    have := y us q1
    rw [e1] at this
    cases this
    exact ⟨w', S, e2, .refl⟩
theorem relI_rng {K : PySem.W.Frag} {w : Wt} {b : Nat} {H : Hp} {lo : Int} {n : Nat} : relI K w b H (.rng lo n) (Itr lo n) := by
  intro w' μ' H' g S vs hv i
  have hv : some (rngM lo n) = some vs := hv
  cases hv
  rw [rngM_get]
  refine ⟨fun h => ?_, fun v h => ?_⟩
  · split at h
    · cases h
    · rename_i c
      exact Nat.le_of_not_lt c
  · split at h
    · rename_i c
      cases h
      refine ⟨c, fun x H2 y => ?_⟩
      obtain ⟨rfl, rfl⟩ := y
      exact ⟨w', S, .int _, .refl⟩
    · cases h
theorem relI_enm {K : PySem.W.Frag} {w : Wt} {b : Nat} {H : Hp} {k : Nat} (hk : k < b) : relI K w b H (.enm k) (Ite K (w.ad k)) := by
  intro w' μ' H' g S vs hv i
  obtain ⟨vs0, h0, h1⟩ := Option.map_eq_some_iff.mp (show (seqOf μ' k).map enmM = some vs from hv)
  subst h1
  obtain ⟨us, q1, q2⟩ := seqOf_sq S h0
  rw [g.ad k hk] at q1
  rw [enmM_get]
  refine ⟨fun h => ⟨us, q1, ?_⟩, fun v h => ?_⟩
  · rw [q2.length]
    exact List.getElem?_eq_none_iff.mp (Option.map_eq_none_iff.mp h)
  · obtain ⟨v0, h2, h3⟩ := Option.map_eq_some_iff.mp h
    subst h3
    obtain ⟨u, e1, e2⟩ := q2.get i v0 h2
    refine ⟨⟨us, u, q1, e1⟩, fun x H2 y => ?_⟩
    obtain ⟨T, x', rfl, hT, rfl, hx⟩ := y
    have := hx us q1
    rw [e1] at this
    cases this
    obtain ⟨S4, g4, v4⟩ := S.newT hT (VRs.cons (.int (i : Nat)) (VRs.one e2))
    exact ⟨w', S4, v4, g4⟩
theorem pi_seq {l : Expr} {tl : TE} (hl : PE X l tl) : PI X tg l (fun σ H R => tl σ H fun x H1 => (∃ a, x = .ref a ∧ (∃ xs, SqL X.K H1 a xs) ∧ R (Itl X.K a) H1) ∨ ∃ a, x = .ref a ∧ (∃ xs, SqT X.K H1 a xs) ∧ R (Itt X.K a) H1) := by
  refine ⟨fun pins s σ H R I h => ?_⟩
  refine thn (hl.run pins s σ H _ I h) fun v s1 ⟨x, H1, I1, r1, q1⟩ => ?_
  rcases q1 with ⟨a, e, ⟨xs, hq⟩, q⟩ | ⟨a, e, ⟨xs, hq⟩, q⟩
  · subst e
    cases r1
    obtain ⟨its, rv, p, hz⟩ := I1.list hq
    refine wpAny_pyIter_list p.isList ?_
    refine ⟨s1.heap.objs.size, [s1.heap.objs.size], _, _, H1, rfl, I1.kept (t' := s1.toks) fun b o e => Heap.get?_push_of_some _ e, turn_list a _, ⟨_, Heap.get?_push_size _ rfl, rfl, rfl⟩, fun b hb => ?_, q⟩
    have e : b = s1.heap.objs.size := by simpa using hb
    subst e
    exact I1.fpOk (Nat.le_refl _) (I1.hok.fresh (Nat.le_refl _))
  · subst e
    cases r1
    obtain ⟨its, rv, p, hz⟩ := I1.tuple hq
    refine wpAny_pyIter_tuple (show s1.heap.IsTuple a its.toArray from p) ?_
    refine ⟨s1.heap.objs.size, [s1.heap.objs.size], _, _, H1, rfl, I1.kept (t' := s1.toks) fun b o e => Heap.get?_push_of_some _ e, turn_tuple a _, ⟨_, Heap.get?_push_size _ rfl, rfl, rfl⟩, fun b hb => ?_, q⟩
    have e : b = s1.heap.objs.size := by simpa using hb
    subst e
    exact I1.fpOk (Nat.le_refl _) (I1.hok.fresh (Nat.le_refl _))
theorem pmi_seq (h : PM X E e m) : PMI X E tg e (iSeq m) :=
  PI.imp (pi_seq h) fun σ H R ⟨w, ρ, μ, S, EN, hp⟩ => ⟨w, ρ, μ, S, EN, Post.bind hp fun x μ1 w1 H1 u1 S1 r1 g1 h1 => by
    split at h1
    · rename_i vs hv
      cases x with
      | loc k =>
        cases r1 with
        | loc hk =>
          obtain ⟨us, q1, q2⟩ := seqOf_sq S1 (show seqOf μ1 k = some vs from hv)
          exact .inl ⟨_, rfl, ⟨us, q1⟩, h1 w1 H1 _ S1 (relI_seq hk) .refl⟩
      | tup vs0 =>
        obtain ⟨a, us, rfl, hq, rq⟩ := vr_tup r1
        exact .inr ⟨_, rfl, ⟨us, hq⟩, h1 w1 H1 _ S1 (relI_tup hq rq) .refl⟩
      | non => cases hv
      | bl _ => cases hv
      | int _ => cases hv
      | str _ => cases hv
    · exact h1.elim⟩
theorem pmi_rng1 {mr : MA} (hg : Gl X "range") (hm : X.mg "range" = none) (h : PMA X E [a] mr) (hs : starEach [a] X.env = [(false, eval a X.env)] := by rfl) : PMI X E tg (.Call (.Name "range" p) [a] [] pos) (iRng1 mr) :=
  PI.imp (pi_range1 hg hm h hs) fun σ H R ⟨w, ρ, μ, S, EN, hp⟩ => ⟨w, ρ, μ, S, EN, Post.bind hp fun x μ1 w1 H1 u1 S1 r1 g1 h1 => by
    split at h1
    · cases r1 with
      | cons r1 r2 =>
        cases r2; cases r1
        split at h1
        · rename_i hz
          exact ⟨_, rfl, by omega, by omega, h1 w1 H1 _ S1 relI_rng .refl⟩
        · exact h1.elim
    · exact h1.elim⟩
theorem pmi_enm {mr : MA} {elts : List Expr} {kk : Nat} {tpos : Pos} (hg : Gl X "enumerate") (hm : X.mg "enumerate" = none) (h : PMA X E [e] mr) (hs : starEach [e] X.env = [(false, eval e X.env)] := by rfl) : PMI X E (.Tuple elts kk tpos) (.Call (.Name "enumerate" p) [e] [] pos) (iEnm mr) :=
  PI.imp (pi_enum hg hm h hs) fun σ H R ⟨w, ρ, μ, S, EN, hp⟩ => ⟨w, ρ, μ, S, EN, Post.bind hp fun x μ1 w1 H1 u1 S1 r1 g1 h1 => by
    split at h1
    · rename_i k
      cases r1 with
      | cons r1 r2 =>
        cases r2
        cases r1 with
        | loc hk =>
          split at h1
          · rename_i vs hv
            obtain ⟨us, q1, q2⟩ := seqOf_sq S1 hv
            exact ⟨_, us, rfl, q1, h1 w1 H1 _ S1 (relI_enm hk) .refl⟩
          · exact h1.elim
    · exact h1.elim⟩
end
/-! ### for -/
def forM' (get : Mu → Option (List Val)) (g : Val → Rho → Option Rho) (body : MS) : Nat → Nat → Rho → Mu → R Fl
  | 0, _, _, _ => .no
  | f + 1, i, ρ, μ => match get μ with
    | none => .no
    | some vs => match vs[i]? with
      | none => .ok (.nx ρ) μ
      | some v => match g v ρ with
        | none => .no
        | some ρ1 => match body ρ1 μ with
          | .ok (.nx ρ2) μ2 => forM' get g body f (i + 1) ρ2 μ2
          | .ok (.ct ρ2) μ2 => forM' get g body f (i + 1) ρ2 μ2
          | .ok (.bk ρ2) μ2 => .ok (.nx ρ2) μ2
          | r => r
def sFor (it : MI) (g : Val → Rho → Option Rho) (body : MS) : MS := fun ρ μ => (it ρ μ).bind fun k μ => match k.items μ with
  | none => .no
  | some vs => forM' k.items g body (vs.length + 1) 0 ρ μ
section
variable {X : Cx} {E : XK} {e tg iter c : Expr} {body : List Stmt} {mi : MI} {is : List Nat} {g : Val → Rho → Option Rho} {mb : MS} {mc : MT} {pos : Pos}
theorem pms_for (hp : PassesOwn (model X.prog X.w) X.A X.env X.xe) (hc : X.calm = true) (hi : PMI X E tg iter mi) (hg : PMG X tg is g) (hb : PMSs X E body mb)
    (hs : ∀ x, foldedSetIterable iter X.env x = pure x := by intro _; rfl) : PMS X E (.For tg iter body [] pos) (sFor mi g mb) :=
  PS.imp (ps_for hp hc hi hg hb hs) fun D σ H ⟨w, ρ, μ, S, EN, hp⟩ => ⟨w, ρ, μ, S, EN, PostS.bind hp fun k μ1 w1 H1 J S1 r1 g1 h1 => by
    split at h1
    · exact h1.elim
    · rename_i vs0 hv0
      refine ⟨fun i f σ' H' => ∃ w' ρ' μ', Sim X.K w' μ' H' ∧ EnvR X.K w' μ'.nx H' ρ' σ' ∧ Grow X.K w1 μ1.nx H1 w' μ'.nx H' ∧ PostS X.K E w' μ'.nx H' D (forM' k.items g mb f i ρ' μ'), ⟨_, w1, ρ, μ1, S1, EN.grow g1, .refl, h1⟩, ?_⟩
      rintro i f σ' H' ⟨w', ρ', μ', S', EN', g', h'⟩
      cases f with
      | zero => exact h'.elim
      | succ f =>
        rw [forM'] at h'
        split at h'
        · exact h'.elim
        · rename_i vs hv
          obtain ⟨q1, q2⟩ := r1 w' μ' H' g' S' vs hv i
          split at h'
          · rename_i hn
            exact .inl ⟨q1 hn, h' w' H' σ' S' EN' .refl⟩
          · rename_i v hn
            obtain ⟨go, yl⟩ := q2 v hn
            refine .inr ⟨go, fun σ2 H2 => ∃ w2 ρ2 μ2, Sim X.K w2 μ2 H2 ∧ EnvR X.K w2 μ2.nx H2 ρ2 σ2 ∧ Grow X.K w1 μ1.nx H1 w2 μ2.nx H2 ∧ PostS X.K E w2 μ2.nx H2 D (forM' k.items g mb f (i + 1) ρ2 μ2), fun σ2 H2 q => ⟨f, Nat.lt_succ_self _, q⟩, fun x H2 y => ?_⟩
            obtain ⟨w2, S2, v2, g2⟩ := yl x H2 y
            split at h'
            · exact h'.elim
            · rename_i ρ1 hg1
              refine ⟨w2, ρ', μ'.nx, v, ρ1, EN'.grow g2, v2, hg1, fun σ3 EN3 _ => ⟨w2, ρ1, μ', S2, EN3, ?_⟩⟩
              have h' := PostS.grow (b1 := μ'.nx) (H1 := H2) (w1 := w2) h' g2
              cases hb2 : mb ρ1 μ' with
              | no => rw [hb2] at h'; exact h'
              | er c fs μ3 => rw [hb2] at h'; exact h'
              | ok a μ3 =>
                cases a with
                | nx ρ3 =>
                  rw [hb2] at h'
                  exact fun w4 H4 σ4 S4 EN4 g4 => ⟨w4, ρ3, μ3, S4, EN4, (g'.trans g2).trans g4, PostS.grow h' g4⟩
                | ct ρ3 =>
                  rw [hb2] at h'
                  exact fun w4 H4 σ4 S4 EN4 g4 => ⟨w4, ρ3, μ3, S4, EN4, (g'.trans g2).trans g4, PostS.grow h' g4⟩
                | bk ρ3 =>
                  rw [hb2] at h'
                  exact h'
                | rt v3 =>
                  rw [hb2] at h'
                  exact h'⟩
end
/-! ### for x in d: the dict is locked meanwhile -/
end Wn
/-! the law's level: comprehensions, defs -/
namespace Wn
open PySem PySem.Spec PyProof.Rows L2 LamX He

def E0' : XK := fun _ _ _ => False
def R.cut {α : Type} : R α → R α
  | .er _ _ _ => .no
  | r => r
@[simp] theorem R.cut_ok {α : Type} (a : α) (μ : Mu) : (R.ok a μ).cut = .ok a μ := rfl
@[simp] theorem R.cut_no {α : Type} : (R.no : R α).cut = .no := rfl
def wipeV (ρ : Rho) : List Nat → Rho
  | [] => ρ
  | v :: vs => (wipeV ρ vs).set v none
theorem EnvR.wipe {K : PySem.W.Frag} {w : Wt} {b : Nat} {H : Hp} {ρ : Rho} {σ : L2.St} (h : EnvR K w b H ρ σ) : ∀ vs : List Nat, EnvR K w b H (wipeV ρ vs) (L2.wipe σ vs)
  | [] => h
  | v :: vs => by
    have ih := h.wipe vs
    unfold wipeV L2.wipe
    refine ⟨by rw [List.length_set, List.length_set]; exact ih.1, fun i x e => ?_⟩
    by_cases c : v = i
    · subst c
      rw [List.getElem?_set, if_pos rfl] at e
      split at e
      · cases e
      · cases e
    · rw [List.getElem?_set_ne c] at e ⊢
      exact ih.2 i x e
theorem wipe_wipe (σ : L2.St) (vs : List Nat) : L2.wipe (L2.wipe σ vs) vs = L2.wipe σ vs := by
  apply List.ext_getElem?
  intro j
  by_cases c : j ∈ vs
  · rw [wipe_in c, wipe_in c]
    cases σ[j]? <;> rfl
  · rw [wipe_out c]
def mYes : MT := fun _ μ => .ok true μ
def lcM (get : Mu → Option (List Val)) (g : Val → Rho → Option Rho) (c : MT) (elt : ME) (D : Nat) (ρ : Rho) : Nat → Nat → Mu → R Unit
  | 0, _, _ => .no
  | f + 1, i, μ => match get μ with
    | none => .no
    | some vs => match vs[i]? with
      | none => .ok () μ
      | some v => match g v ρ with
        | none => .no
        | some ρ1 => (c ρ1 μ).cut.bind fun k μ => if k = true then (elt ρ1 μ).cut.bind fun y μ => match μ.ob D with
              | some (.lst acc) => if acc.length ≤ 1000000 then lcM get g c elt D ρ f (i + 1) (μ.put D (.lst (acc ++ [y]))) else .no
              | _ => .no
            else lcM get g c elt D ρ f (i + 1) μ
def mLc (it : MI) (own : List Nat) (g : Val → Rho → Option Rho) (c : MT) (elt : ME) : ME := fun ρ μ => (it ρ μ).bind fun k μ => match k.items μ with
  | none => .no
  | some vs => (lcM k.items g c elt μ.nx (wipeV ρ own) (vs.length + 1) 0 (μ.new (.lst []))).bind fun _ μ' => .ok (.loc μ.nx) μ'
theorem Post.cut {K : PySem.W.Frag} {α β γ δ : Type} {rel : Rel α β} {rel' : Rel γ δ} {E : XK} {w : Wt} {b : Nat} {H : Hp} {Q : δ → Hp → Prop} {Q1 : β → Hp → Prop} {r : R α} {k : α → Mu → R γ} (h : Post K rel' E w b H Q (r.cut.bind k))
    (f : ∀ a μ1 w1 H1 u1, Sim K w1 μ1 H1 → rel w1 μ1.nx H1 a u1 → Grow K w b H w1 μ1.nx H1 → Post K rel' E w1 μ1.nx H1 Q (k a μ1) → Q1 u1 H1) : Post K rel E0' w b H Q1 r := by
  cases r with
  | ok a μ1 => exact fun w1 H1 u1 S r g => f a μ1 w1 H1 u1 S r g (Post.grow h g)
  | er c fs μ => exact h.elim
  | no => exact h.elim
def PMTs (X : Cx) (ifs : List Expr) (m : MT) : Prop := PTs X ifs (tM X.K relT E0' m)
theorem PTs.imp {X : Cx} {e : List Expr} {t t0 : TT} (h : PTs X e t) (i : ∀ σ H Q, t0 σ H Q → t σ H Q) : PTs X e t0 := ⟨fun pins s σ H Q I hw => h.run pins s σ H Q I (i σ H Q hw)⟩
section
variable {X : Cx} {E : XK}
theorem pmts_nil : PMTs X [] mYes := PTs.imp pts_nil fun σ H Q ⟨w, ρ, μ, S, EN, hp⟩ => hp w H true S rfl .refl
theorem pmts_one {c : Expr} {m : MT} (h : PMT X E0' c m) : PMTs X [c] m := pts_one h
theorem lc_sim {K : PySem.W.Frag} {σ : L2.St} {is own : List Nat} {g : Val → Rho → Option Rho} {mc : MT} {me : ME} {k : Wk} {J : It} {w1 : Wt} {μ1 : Mu} {H1 : Hp} {ρ : Rho} {Q : VK} {vs0 : List Val} (S1 : Sim K w1 μ1 H1) (EN1 : EnvR K w1 μ1.nx H1 ρ σ) (r1 : relI K w1 μ1.nx H1 k J) (hsub : ∀ i ∈ is, i ∈ own)
    (h1 : Post K (relE K) E w1 μ1.nx H1 Q ((lcM k.items g mc me μ1.nx (wipeV ρ own) (vs0.length + 1) 0 (μ1.new (.lst []))).bind fun _ μ' => .ok (.loc μ1.nx) μ')) (D : Addr) (hD : H1 D = none) :
    ∃ W : Nat → Nat → Hp → Prop, (∃ m, W 0 m (upd H1 D (.lst []))) ∧ ∀ i m H, W i m H →
      (J.stop i H ∧ Q (.ref D) H) ∨ (J.go i H ∧ ∃ Nx : Hp → Prop, (∀ H', Nx H' → ∃ m', m' < m ∧ W (i + 1) m' H') ∧ ∀ x H', J.yld i H x H' → tG K is g x (L2.wipe σ own) H' fun σ2 H2 => L2.wipe σ2 own = L2.wipe σ own ∧ tM K relT E0' mc σ2 H2 fun b H3 =>
        if b = true then tM K (relE K) E0' me σ2 H3 fun y H4 => ∃ acc, H4 D = some (.lst acc) ∧ acc.length < sizeLine ∧ Nx (upd H4 D (.lst (acc ++ [y]))) else Nx H3) := by
  obtain ⟨w2, S2, g2, e2⟩ := S1.newL hD (vs := []) (us := []) .nil
  have hnx : μ1.nx < μ1.nx + 1 := Nat.lt_succ_self _
  refine ⟨fun i f H' => ∃ w' μ', Sim K w' μ' H' ∧ Grow K w2 (μ1.nx + 1) (upd H1 D (.lst [])) w' μ'.nx H' ∧ Post K (relE K) E w' μ'.nx H' Q ((lcM k.items g mc me μ1.nx (wipeV ρ own) f i μ').bind fun _ μ' => .ok (.loc μ1.nx) μ'), ⟨_, w2, μ1.new (.lst []), S2, .refl, Post.grow h1 g2⟩, ?_⟩
  rintro i f H' ⟨w', μ', S', g', h'⟩
  have eD : w'.ad μ1.nx = D := (g'.ad _ hnx).trans e2
  have gg := g2.trans g'
  cases f with
  | zero => exact h'.elim
  | succ f =>
    rw [lcM] at h'
    split at h'
    · exact h'.elim
    · rename_i vs hv
      obtain ⟨q1, q2⟩ := r1 w' μ' H' gg S' vs hv i
      split at h'
      · rename_i hn
        refine .inl ⟨q1 hn, h' w' H' _ S' ?_ .refl⟩
        have := VR.loc (K := K) (ad := w'.ad) (H := H') (Nat.lt_of_lt_of_le hnx g'.le)
        rw [eD] at this
        exact this
      · rename_i v hn
        obtain ⟨go, yl⟩ := q2 v hn
        refine .inr ⟨go, fun H2 => ∃ w2' μ2, Sim K w2' μ2 H2 ∧ Grow K w2 (μ1.nx + 1) (upd H1 D (.lst [])) w2' μ2.nx H2 ∧ Post K (relE K) E w2' μ2.nx H2 Q ((lcM k.items g mc me μ1.nx (wipeV ρ own) f (i + 1) μ2).bind fun _ μ' => .ok (.loc μ1.nx) μ'), fun H2 q => ⟨f, Nat.lt_succ_self _, q⟩, fun x H2 y => ?_⟩
        obtain ⟨w3, S3, v3, g3⟩ := yl x H2 y
        split at h'
        · exact h'.elim
        · rename_i ρ1 hg1
          refine ⟨w3, wipeV ρ own, μ'.nx, v, ρ1, ((EN1.grow gg).grow g3).wipe own, v3, hg1, fun σ3 EN3 hw => ⟨?_, w3, ρ1, μ', S3, EN3, ?_⟩⟩
          · have z := hw own hsub
            rw [z]
            exact wipe_wipe σ own
          · have h4 := Post.grow (b1 := μ'.nx) (H1 := H2) (w1 := w3) h' g3
            have h4 : Post K (relE K) E w3 μ'.nx H2 Q ((mc ρ1 μ').cut.bind fun a μ => ((if a = true then (me ρ1 μ).cut.bind fun y μ => match μ.ob μ1.nx with
                | some (.lst acc) => if acc.length ≤ 1000000 then lcM k.items g mc me μ1.nx (wipeV ρ own) f (i + 1) (μ.put μ1.nx (.lst (acc ++ [y]))) else .no
                | _ => .no
              else lcM k.items g mc me μ1.nx (wipeV ρ own) f (i + 1) μ).bind fun _ μ' => .ok (.loc μ1.nx) μ')) := by
              cases hmc : (mc ρ1 μ').cut with
              | ok a μ => rw [hmc] at h4; exact h4
              | er c fs μ => rw [hmc] at h4; exact h4
              | no => rw [hmc] at h4; exact h4
            refine Post.cut h4 fun c μ4 w4 H4 u4 S4 r4 g4 h5 => ?_
            cases r4
            cases c with
            | false => exact iteF ⟨w4, μ4, S4, (g'.trans g3).trans g4, h5⟩
            | true =>
              refine iteT ⟨w4, ρ1, μ4, S4, EN3.grow g4, ?_⟩
              rw [if_pos rfl] at h5
              have h5 : Post K (relE K) E w4 μ4.nx H4 Q ((me ρ1 μ4).cut.bind fun y μ => ((match μ.ob μ1.nx with
                | some (.lst acc) => if acc.length ≤ 1000000 then lcM k.items g mc me μ1.nx (wipeV ρ own) f (i + 1) (μ.put μ1.nx (.lst (acc ++ [y]))) else .no
                | _ => .no).bind fun _ μ' => .ok (.loc μ1.nx) μ')) := by
                cases hmc : (me ρ1 μ4).cut with
                | ok a μ => rw [hmc] at h5; exact h5
                | er c fs μ => rw [hmc] at h5; exact h5
                | no => rw [hmc] at h5; exact h5
              refine Post.cut h5 fun y μ5 w5 H5 u5 S5 r5 g5 h6 => ?_
              split at h6
              · rename_i acc hacc
                split at h6
                · rename_i hz
                  obtain ⟨us, q3, q4⟩ := S5.ok _ _ hacc
                  have g5' := ((g'.trans g3).trans g4).trans g5
                  have eD5 : w5.ad μ1.nx = D := (g5'.ad _ hnx).trans e2
                  obtain ⟨S6, g6⟩ := S5.setL hacc (q4.app (VRs.one r5))
                  rw [eD5] at q3 S6 g6
                  exact ⟨us, q3, by rw [q4.length]; exact lim6 hz, w5, _, S6, g5'.trans g6, Post.grow h6 g6⟩
                · exact h6.elim
              · exact h6.elim
theorem pm_lc {elt tg iter : Expr} {ifs : List Expr} {scope : Scope} {own : List (Str × Nat)} {pos : Pos} {mi : MI} {is : List Nat} {g : Val → Rho → Option Rho} {mc : MT} {me : ME} (hc : X.calm = true) (hN : X.N.Nodup) (hi : PMI X E tg iter mi) (ok : BlkOk X.N X.env.scope scope own)
    (hg : ∀ (s : Shared) (H : Hp) (C : Addr) (cl : List (Str × Addr)) (fp : List Addr), PMG (X.blk s H scope (compEnvC scope cl C X.env) fp) tg is g) (ht : ∀ (s : Shared) (H : Hp) (C : Addr) (cl : List (Str × Addr)) (fp : List Addr), PMTs (X.blk s H scope (compEnvC scope cl C X.env) fp) ifs mc)
    (he : ∀ (s : Shared) (H : Hp) (C : Addr) (cl : List (Str × Addr)) (fp : List Addr), PM (X.blk s H scope (compEnvC scope cl C X.env) fp) E0' elt me) (hsub : ∀ i ∈ is, i ∈ own.map (·.2) := by decide) (hs : ∀ x, foldedSetIterable iter X.env x = pure x := by intro _; rfl) :
    PM X E (.ListComp elt [⟨tg, iter, ifs, 0⟩] scope pos) (mLc mi (own.map (·.2)) g mc me) :=
  PE.imp (pe_lc (g := tG X.K is g) (tt := tM X.K relT E0' mc) (te := tM X.K (relE X.K) E0' me) hc hN hi ok hg ht he hs) fun σ H Q ⟨w, ρ, μ, S, EN, hp⟩ => ⟨w, ρ, μ, S, EN, Post.bind hp fun k μ1 w1 H1 J S1 r1 g1 h1 => by
    split at h1
    · exact h1.elim
    · exact fun D hD => lc_sim S1 (EN.grow g1) r1 hsub h1 D hD⟩
theorem pms_setLc {i : Nat} {y : Str} {py : Pos} {elt tg iter : Expr} {ifs : List Expr} {scope : Scope} {own : List (Str × Nat)} {pos spos : Pos} {mi : MI} {is : List Nat} {g : Val → Rho → Option Rho} {mc : MT} {me : ME} (hc : X.calm = true) (hN : X.N.Nodup) (hy : X.N[i]? = some y) (hyl : X.env.scope.names.lookup y = some .local)
    (hsw : swapsWith (.ListComp elt [⟨tg, iter, ifs, 0⟩] scope pos) (some (.Name y py)) spos.line X.env = pure true) (hi : PMI X E tg iter mi) (ok : BlkOk X.N X.env.scope scope own)
    (hg : ∀ (s : Shared) (H : Hp) (C : Addr) (cl : List (Str × Addr)) (fp : List Addr), PMG (X.blk s H scope (compEnvC scope cl C X.env) fp) tg is g) (ht : ∀ (s : Shared) (H : Hp) (C : Addr) (cl : List (Str × Addr)) (fp : List Addr), PMTs (X.blk s H scope (compEnvC scope cl C X.env) fp) ifs mc)
    (he : ∀ (s : Shared) (H : Hp) (C : Addr) (cl : List (Str × Addr)) (fp : List Addr), PM (X.blk s H scope (compEnvC scope cl C X.env) fp) E0' elt me) (hsub : ∀ i ∈ is, i ∈ own.map (·.2) := by decide) (hs : ∀ x, foldedSetIterable iter X.env x = pure x := by intro _; rfl) :
    PMS X E (.Assign [.Name y py] (.ListComp elt [⟨tg, iter, ifs, 0⟩] scope pos) spos) (sSet i (mLc mi (own.map (·.2)) g mc me)) :=
  PS.imp (ps_setLc (g := tG X.K is g) (tt := tM X.K relT E0' mc) (te := tM X.K (relE X.K) E0' me) hc hN hy hyl hsw hi ok hg ht he hs) fun D σ H ⟨w, ρ, μ, S, EN, hp⟩ => by
    have hp2 : Post X.K (relE X.K) E w μ.nx H (fun u H1 => D.nx (σ.set i (some u)) H1) (mLc mi (own.map (·.2)) g mc me ρ μ) := PostS.bind hp fun x μ1 w1 H1 u1 S1 r1 g1 h1 => h1 w1 H1 _ S1 ((EN.grow g1).set i r1) .refl
    exact ⟨w, ρ, μ, S, EN, Post.bind hp2 fun k μ1 w1 H1 J S1 r1 g1 h1 => by
      split at h1
      · exact h1.elim
      · exact fun D hD => lc_sim S1 (EN.grow g1) r1 hsub h1 D hD⟩
/-- list(range(..)) -/
def mListR1 (m : MA) : ME := fun ρ μ => (m ρ μ).bind fun vs μ => match vs with
  | [.int j] => if j ≤ 1000000 ∧ -1000000 ≤ j then .ok (.loc μ.nx) (μ.new (.lst (rngM 0 j.toNat))) else .no
  | _ => .no
theorem VRs.rng {K : PySem.W.Frag} {ad : Nat → Addr} {b : Nat} {H : Hp} (lo : Int) (n : Nat) : VRs K ad b H (rngM lo n) (rngV lo n) := by
  unfold rngM rngV
  induction (List.range n) with
  | nil => exact .nil
  | cons a l ih => exact .cons (.int _) ih
end
/-! ### defs -/
def startV (N : Nat) (vs : List Val) : Rho := vs.map some ++ List.replicate (N - vs.length) none
def runM (n N : Nat) (m : MS) (args : List Val) (μ : Mu) : R Val := if args.length = n then match m (startV N args) μ with
    | .ok (.nx _) μ' => .ok .non μ'
    | .ok (.rt v) μ' => .ok v μ'
    | .ok _ _ => .no
    | .er c fs μ' => .er c fs μ'
    | .no => .no
  else .no
def spM (K : PySem.W.Frag) (n : Nat) (d : List Val → Mu → R Val) : Sp := fun vs H Q E => vs.length = n ∧ ∃ w μ args, Sim K w μ H ∧ VRs K w.ad μ.nx H args vs ∧ Post K (relE K) E0' w μ.nx H Q (d args μ)
theorem EnvR.start {K : PySem.W.Frag} {w : Wt} {b : Nat} {H : Hp} {N : List Str} {vs : List V} {args : List Val} (r : VRs K w.ad b H args vs) : EnvR K w b H (startV N.length args) (L2.start N vs) := by
  have hl := r.length
  unfold startV L2.start
  refine ⟨by simp [hl], fun i v e => ?_⟩
  by_cases c : i < args.length
  · rw [List.getElem?_append_left (by simpa using c), List.getElem?_map] at e
    obtain ⟨v', h1, h2⟩ := Option.map_eq_some_iff.mp e
    cases h2
    obtain ⟨u, h3, h4⟩ := r.get i v h1
    refine ⟨u, ?_, h4⟩
    rw [List.getElem?_append_left (by rw [List.length_map]; omega), List.getElem?_map, h3]
    rfl
  · rw [List.getElem?_append_right (by simpa using c), List.getElem?_replicate] at e
    split at e
    · cases e
    · cases e
section
variable {P : Program} {w : World} {K : PySem.W.Frag} {mg : Str → Option Value} {base : Heap} {x qual : Str} {params : Arguments} {body : List Stmt} {scope : Scope} {dvs : List V} {kws : List (Str × V)} {f : Addr} {fd : FuncData}
/-- a def of the law -/
theorem okM {N ps : List Str} {k n N' : Nat} {m : MS} (F : FunD K x qual params body scope dvs kws f fd) (Sc : FnScope N ps scope) (hn : n = ps.length) (hN : N' = N.length)
    (hbody : ∀ (cdv : Value) (A : Around) (outer : List Env) (s : Shared) (H : Hp), A.guards = some [] → Room k (A.deeper (envOfC qual scope s.heap.objs.size f cdv)) → PMSs (cxOf CX0 P w K mg base N qual scope f cdv A outer s H E0').nox E0' body m) :
    FnG P w K mg base CX0 (k + 1) f fd ps (spM K n (runM n N' m)) := by
  subst hn hN
  refine okG F Sc (fun vs H Q E h => h.1) (fun cdv A outer s H vs Q E hg hr h => ?_)
  obtain ⟨hl, w', μ, args, S, r, hp⟩ := h
  refine ⟨_, PSs.nox (hbody cdv A outer s H hg hr), w', startV N.length args, μ, S, EnvR.start r, ?_⟩
  unfold runM at hp
  rw [if_pos (by rw [← r.length]; exact hl)] at hp
  show PostS K E0' w' μ.nx H _ (m (startV N.length args) μ)
  cases hm : m (startV N.length args) μ with
  | no => rw [hm] at hp; exact hp
  | er c fs μ1 => rw [hm] at hp; exact hp
  | ok a μ1 =>
    rw [hm] at hp
    cases a with
    | nx ρ => exact fun w1 H1 σ1 S1 EN1 g1 => hp w1 H1 _ S1 .non g1
    | rt v => exact fun w1 H1 u S1 r1 g1 => hp w1 H1 u S1 r1 g1
    | bk ρ => exact hp.elim
    | ct ρ => exact hp.elim
end
section
variable {X : Cx} {E : XK} {k n : Nat} {f : Addr} {fd : FuncData} {ps : List Str} {d : List Val → Mu → R Val} {x : Str} {p pos : Pos} {e : Expr} {es : List Expr} {mr : MA}
/-- a def of the law that is called, with as many arguments as it has -/
def mCall (n : Nat) (d : List Val → Mu → R Val) (m : MA) : ME := fun ρ μ => (m ρ μ).bind fun xs μ => if xs.length = n then (d xs μ).cut else .no
theorem pm_call (F : FnG X.prog X.w X.K X.mg X.base CX0 k f fd ps (spM X.K n d)) (hgd : X.A.guards = some []) (hr : Room k X.A) (hg : Gl X x) (hm : X.mg x = some (.ref f)) (hk : PySem.W.keepIn X.K (.ref f) = true) (hb : Binds X.K fd ps [])
    (ha : PMA X E (e :: es) mr) (hdb : (x == ("__debug__" : Str)) = false := by decide) (he : starEach (e :: es) X.env = (false, eval e X.env) :: starEach es X.env := by rfl) (hpl : (backTo pos (starEach es X.env)).any (·.1) = false := by rfl) :
    PM X E (.Call (.Name x p) (e :: es) [] pos) (mCall n d mr) :=
  PE.imp (pe_callG F hgd hr hg hm hk hb .nil (E := E0') (pass0) ha hdb he hpl) fun σ H Q ⟨w, ρ, μ, S, EN, hp⟩ => ⟨w, ρ, μ, S, EN, Post.bind hp fun xs μ1 w1 H1 us S1 r1 g1 h1 => by
    split at h1
    · rename_i hl
      rw [List.append_nil]
      refine ⟨r1.length.trans hl, w1, μ1, xs, S1, r1, ?_⟩
      cases hd : d xs μ1 with
      | no => rw [hd] at h1; exact h1
      | er c fs μ2 => rw [hd] at h1; exact h1.elim
      | ok a μ2 => rw [hd] at h1; exact h1
    · exact h1.elim⟩
end
end Wn
/-! the law's level: methods of systems -/
namespace Wn
open PySem PySem.Spec PyProof.Rows L2 LamX He

/-! ### o.m(e, .., k = v, ..) -/
def tMethN (C : Addr) (m : Str) (n l : Nat) (sp : Sp) (gV : List V → List V → List V) (E : XK) (ta : TE) (t tk : TA) : TE := fun σ H Q => ta σ H fun x H1 => ∃ a dx fs, x = .ref a ∧ H1 a = some (.ins C dx fs) ∧ fs.lookup m = none ∧ t σ H1 fun vs H2 => tk σ H2 fun zs H3 => (V.ref a :: vs).length = n ∧ zs.length = l ∧ sp (gV (.ref a :: vs) zs) H3 Q E
section
variable {X : Cx} {CX : CXT} {k n : Nat} {f C : Addr} {fd : FuncData} {ps ks : List Str} {sp : Sp} {E : XK} {x m : Str} {p pos apos : Pos} {o e : Expr} {es : List Expr} {kws : List Keyword} {ta : TE} {t tk : TA} {g : List Value → List Value → List Value} {gV : List V → List V → List V}
theorem pe_methN {pl : Sem Bool} (he : PE X o ta) (c : Cls X.K C) (hm : Meth X.K C m f) (F : FnOk X.prog X.w X.K X.mg X.base CX k f fd ps sp) (hr : Room k X.A) (hb : KBn X.K fd ps n ks g gV) (hx : Passes CX X E) (ha : PA X (e :: es) t) (hkw : PK X kws tk)
    (hall : (backToKw pos (keywordEach kws X.env)).all (·.1.isSome) = true := by rfl) (hks : (backToKw pos (keywordEach kws X.env)).filterMap (·.1) = ks := by rfl)
    (hst : starEach (e :: es) X.env = (false, eval e X.env) :: starEach es X.env := by rfl)
    (hpl : ((backTo pos (starEach (e :: es) X.env)).any (·.1) || (backToKw pos (keywordEach kws X.env)).any (·.1.isNone)) = false := by rfl)
    (ht : eval (.Call (.Attribute o m apos) (e :: es) kws pos) X.env = (do
      let ov ← eval o X.env
      standAt apos.atName
      let (f, first) ← holding [ov] (getMethod ov m pl)
      callWith pos f first (backTo pos (starEach (e :: es) X.env)) (backToKw pos (keywordEach kws X.env))) := by rfl) :
    PE X (.Call (.Attribute o m apos) (e :: es) kws pos) (tMethN C m n ks.length sp gV E ta t tk) := by
  refine ⟨fun pins s σ H Q I h => ?_⟩
  refine PySem.W.methodCall_KW (pl := pl) (thn (he.run pins s σ H _ I h) fun u s1 ⟨x, H1, I1, rx, a, dx, fs, ex, ea, l, q⟩ => ?_) ht
  subst ex
  obtain rfl : u = Value.ref a := rx
  refine getmeth_ok I1 ea c hm l ?_
  refine PySem.W.callWith_KW (first := [.ref a]) (h₀ := X.base) I.ok.mod.kin hm.kp hall (thn (ha.run pos pins s1 σ H1 _ I1 q) fun us s2 ⟨vs, H2, I2, r, q2⟩ => ?_) hpl hst
  refine thn (hkw.run pos pins s2 σ H2 _ I2 q2) fun ws s3 ⟨zs, H3, I3, rz, l1, l2, q3⟩ => ⟨I3.kIn, ?_⟩
  rw [hks]
  exact run_fnN (us := .ref a :: us) (vs := .ref a :: vs) F hr hb hx I3 (.cons rfl r) rz l1 l2 q3
end
/-! ### methods of systems -/
def sysOf (x : Val) (μ : Mu) : Option (Nat × Sv) := match x with
  | .loc n => match μ.ob n with
    | some (.sys v) => some (n, v)
    | _ => none
  | _ => none
theorem sysOf_eq {x : Val} {μ : Mu} {n : Nat} {v : Sv} (h : sysOf x μ = some (n, v)) : x = .loc n ∧ μ.ob n = some (.sys v) := by
  unfold sysOf at h
  split at h
  · split at h
    · rename_i e
      cases h
      exact ⟨rfl, e⟩
    · cases h
  · cases h
abbrev MSy := Nat → Sv → List Val → Mu → R Val
def onSys (f : MSy) (x : Val) (xs : List Val) (μ : Mu) : R Val := match sysOf x μ with
  | some p => f p.1 p.2 xs μ
  | none => .no
def mMeth (f : MSy) (ds : List Val) (o : ME) (a : MA) : ME := fun ρ μ => (o ρ μ).bind fun x μ => match sysOf x μ with
  | none => .no
  | some _ => (a ρ μ).bind fun xs μ => onSys f x (xs ++ ds) μ
def mMethK (f : MSy) (n l : Nat) (g : List Val → List Val → List Val) (o : ME) (a b : MA) : ME := fun ρ μ => (o ρ μ).bind fun x μ => match sysOf x μ with
  | none => .no
  | some _ => (a ρ μ).bind fun xs μ => (b ρ μ).bind fun zs μ => if xs.length = n ∧ zs.length = l then onSys f x (g xs zs) μ else .no
def PrimS (K : PySem.W.Frag) (sp : Sp) (f : MSy) : Prop := ∀ (E : XK) (w : Wt) (μ : Mu) (H : Hp) (n : Nat) (v : Sv) (xs : List Val) (us : List V) (Q : VK), Sim K w μ H → μ.ob n = some (.sys v) → VRs K w.ad μ.nx H xs us → Post K (relE K) E w μ.nx H Q (f n v xs μ) → sp (.ref (w.ad n) :: us) H Q E
def PMK (X : Cx) (E : XK) (kws : List Keyword) (m : MA) : Prop := PK X kws (tM X.K (relA X.K) E m)
theorem PK.imp {X : Cx} {e : List Keyword} {t t0 : TA} (h : PK X e t) (i : ∀ σ H Q, t0 σ H Q → t σ H Q) : PK X e t0 := ⟨fun pos pins s σ H Q I hw => h.run pos pins s σ H Q I (i σ H Q hw)⟩
section
variable {X : Cx} {E : XK} {k n : Nat} {f : Addr} {fd : FuncData} {ps ks : List Str} {sp : Sp} {m : Str} {p pos apos kpos : Pos} {o e : Expr} {es : List Expr} {kws : List Keyword} {mo me : ME} {mr mk : MA} {fm : MSy} {dvs : List V} {ds : List Value} {dM : List Val}
theorem pmk_nil : PMK X E [] mNil := PK.imp pk_nil fun σ H Q ⟨w, ρ, μ, S, EN, hp⟩ => hp w H [] S .nil .refl
theorem pmk_cons {nm} (ha : PM X E e me) (hr : PMK X E kws mr) : PMK X E (⟨nm, e, kpos⟩ :: kws) (mCons me mr) :=
  PK.imp (pk_cons ha hr) fun σ H Q ⟨w, ρ, μ, S, EN, hp⟩ => ⟨w, ρ, μ, S, EN, Post.bind hp fun x μ1 w1 H1 u1 S1 r1 g1 h1 => ⟨w1, ρ, μ1, S1, EN.grow g1, Post.bind h1 fun xs μ2 w2 H2 u2 S2 r2 g2 h2 => h2 w2 H2 _ S2 (.cons (VR.grow g2 r1) r2) .refl⟩⟩
theorem sys_ob {K : PySem.W.Frag} {w : Wt} {μ : Mu} {H : Hp} {n : Nat} {v : Sv} (S : Sim K w μ H) (h : μ.ob n = some (.sys v)) : ∃ P N T G k, H (w.ad n) = some (.ins (ga K "System") (w.sy n).dx (sysF P N T G k)) := by
  obtain ⟨h1, h2, _⟩ := S.ok _ _ h
  rw [← h1]
  exact ⟨_, _, _, _, _, h2.ob⟩
theorem pm_meth {CX : CXT} {pl : Sem Bool} (he : PM X E o mo) (c : Cls X.K (ga X.K "System")) (hm : Meth X.K (ga X.K "System") m f) (F : FnOk X.prog X.w X.K X.mg X.base CX k f fd ps sp) (hr : Room k X.A) (hb : Binds X.K fd ps ds) (hd : Vals dvs ds) (hx : Passes CX X E) (hf : PrimS X.K sp fm) (hdv : ∀ ad b H, VRs X.K ad b H dM dvs) (ha : PMA X E (e :: es) mr)
    (hl : ∀ P N T G k, (sysF P N T G k).lookup m = none := by intros; rfl)
    (hst : starEach (e :: es) X.env = (false, eval e X.env) :: starEach es X.env := by rfl) (hpl : (backTo pos (starEach es X.env)).any (·.1) = false := by rfl)
    (ht : eval (.Call (.Attribute o m apos) (e :: es) [] pos) X.env = (do
      let ov ← eval o X.env
      standAt apos.atName
      let (f, first) ← holding [ov] (getMethod ov m pl)
      callWith pos f first (backTo pos (starEach (e :: es) X.env)) (backToKw pos (keywordEach [] X.env))) := by rfl) : PM X E (.Call (.Attribute o m apos) (e :: es) [] pos) (mMeth fm dM mo mr) :=
  PE.imp (pe_meth he c hm F hr hb hd hx ha hst hpl ht) fun σ H Q ⟨w, ρ, μ, S, EN, hp⟩ => ⟨w, ρ, μ, S, EN, Post.bind hp fun x μ1 w1 H1 u1 S1 r1 g1 h1 => by
    split at h1
    · exact h1.elim
    · rename_i q hq
      obtain ⟨rfl, hob⟩ := sysOf_eq (n := q.1) (v := q.2) hq
      obtain ⟨P, N, T, G, k', ob⟩ := sys_ob S1 hob
      cases r1 with
      | loc hn =>
        refine ⟨_, _, _, rfl, ob, hl .., w1, ρ, μ1, S1, EN.grow g1, Post.bind h1 fun xs μ2 w2 H2 us S2 r2 g2 h2 => ?_⟩
        unfold onSys at h2
        split at h2
        · rename_i q2 hq2
          obtain ⟨e1, hob2⟩ := sysOf_eq (n := q2.1) (v := q2.2) hq2
          have e1 : q.1 = q2.1 := Val.loc.inj e1
          rw [← g2.ad _ hn, e1]
          exact hf E w2 μ2 H2 _ _ _ _ Q S2 hob2 (r2.app (hdv _ _ _)) h2
        · exact h2.elim⟩
theorem pm_meth0 {CX : CXT} {pl : Sem Bool} (he : PM X E o mo) (c : Cls X.K (ga X.K "System")) (hm : Meth X.K (ga X.K "System") m f) (F : FnOk X.prog X.w X.K X.mg X.base CX k f fd ps sp) (hr : Room k X.A) (hb : Binds X.K fd ps []) (hx : Passes CX X E) (hf : PrimS X.K sp fm)
    (hl : ∀ P N T G k, (sysF P N T G k).lookup m = none := by intros; rfl)
    (ht : eval (.Call (.Attribute o m apos) [] [] pos) X.env = (do
      let ov ← eval o X.env
      standAt apos.atName
      let (f, first) ← holding [ov] (getMethod ov m pl)
      callWith pos f first (backTo pos (starEach [] X.env)) (backToKw pos (keywordEach [] X.env))) := by rfl) : PM X E (.Call (.Attribute o m apos) [] [] pos) (mMeth fm [] mo mNil) :=
  PE.imp (pe_meth0 he c hm F hr hb .nil hx ht) fun σ H Q ⟨w, ρ, μ, S, EN, hp⟩ => ⟨w, ρ, μ, S, EN, Post.bind hp fun x μ1 w1 H1 u1 S1 r1 g1 h1 => by
    split at h1
    · exact h1.elim
    · rename_i q hq
      obtain ⟨rfl, hob⟩ := sysOf_eq (n := q.1) (v := q.2) hq
      obtain ⟨P, N, T, G, k', ob⟩ := sys_ob S1 hob
      cases r1 with
      | loc hn =>
        refine ⟨_, _, _, rfl, ob, hl .., ?_⟩
        have h1 : Post X.K (relE X.K) E w1 μ1.nx H1 Q (onSys fm (.loc q.1) [] μ1) := h1
        unfold onSys at h1
        rw [hq] at h1
        exact hf E w1 μ1 H1 _ _ _ _ Q S1 hob .nil h1⟩
theorem pm_methN {CX : CXT} {pl : Sem Bool} {g : List Value → List Value → List Value} {gV : List V → List V → List V} {gM : List Val → List Val → List Val} (he : PM X E o mo) (c : Cls X.K (ga X.K "System")) (hm : Meth X.K (ga X.K "System") m f) (F : FnOk X.prog X.w X.K X.mg X.base CX k f fd ps sp) (hr : Room k X.A) (hb : KBn X.K fd ps (n + 1) ks g gV) (hx : Passes CX X E) (hf : PrimS X.K sp fm)
    (hg : ∀ ad b H a xs us zs ws, VRs X.K ad b H xs us → VRs X.K ad b H zs ws → ∃ us', gV (.ref a :: us) ws = .ref a :: us' ∧ VRs X.K ad b H (gM xs zs) us') (ha : PMA X E (e :: es) mr) (hkw : PMK X E kws mk)
    (hl : ∀ P N T G k, (sysF P N T G k).lookup m = none := by intros; rfl)
    (hall : (backToKw pos (keywordEach kws X.env)).all (·.1.isSome) = true := by rfl) (hks : (backToKw pos (keywordEach kws X.env)).filterMap (·.1) = ks := by rfl)
    (hst : starEach (e :: es) X.env = (false, eval e X.env) :: starEach es X.env := by rfl)
    (hpl : ((backTo pos (starEach (e :: es) X.env)).any (·.1) || (backToKw pos (keywordEach kws X.env)).any (·.1.isNone)) = false := by rfl)
    (ht : eval (.Call (.Attribute o m apos) (e :: es) kws pos) X.env = (do
      let ov ← eval o X.env
      standAt apos.atName
      let (f, first) ← holding [ov] (getMethod ov m pl)
      callWith pos f first (backTo pos (starEach (e :: es) X.env)) (backToKw pos (keywordEach kws X.env))) := by rfl) : PM X E (.Call (.Attribute o m apos) (e :: es) kws pos) (mMethK fm n ks.length gM mo mr mk) :=
  PE.imp (pe_methN he c hm F hr hb hx ha hkw hall hks hst hpl ht) fun σ H Q ⟨w, ρ, μ, S, EN, hp⟩ => ⟨w, ρ, μ, S, EN, Post.bind hp fun x μ1 w1 H1 u1 S1 r1 g1 h1 => by
    split at h1
    · exact h1.elim
    · rename_i q hq
      obtain ⟨rfl, hob⟩ := sysOf_eq (n := q.1) (v := q.2) hq
      obtain ⟨P, N, T, G, k', ob⟩ := sys_ob S1 hob
      cases r1 with
      | loc hn =>
        refine ⟨_, _, _, rfl, ob, hl .., w1, ρ, μ1, S1, EN.grow g1, Post.bind h1 fun xs μ2 w2 H2 us S2 r2 g2 h2 => ⟨w2, ρ, μ2, S2, (EN.grow g1).grow g2, Post.bind h2 fun zs μ3 w3 H3 ws S3 r3 g3 h3 => ?_⟩⟩
        have r2 := VRs.grow g3 r2
        split at h3
        · rename_i hc
          unfold onSys at h3
          split at h3
          · rename_i q2 hq2
            obtain ⟨e1, hob2⟩ := sysOf_eq (n := q2.1) (v := q2.2) hq2
            have e1 : q.1 = q2.1 := Val.loc.inj e1
            refine ⟨by rw [List.length_cons, r2.length, hc.1], by rw [VRs.length r3, hc.2], ?_⟩
            obtain ⟨us', e3, e2⟩ := hg _ _ _ (w1.ad q.1) _ _ _ _ r2 r3
            rw [e3, ← g2.ad _ hn, ← g3.ad _ (Nat.lt_of_lt_of_le hn g2.le), e1]
            exact hf E w3 μ3 H3 _ _ _ _ Q S3 hob2 e2 h3
          · exact h3.elim
        · exact h3.elim⟩
/-- a new system -/
def mMake (f : List Val → Mu → R Val) (a : MA) : ME := fun ρ μ => (a ρ μ).bind fun xs μ => f xs μ
end
/-! ### errors that are raised, new data -/
mutual
def ofD : PyData → Val
  | .none => .non
  | .bool b => .bl b
  | .int i => .int i
  | .str x => .str x
  | .tuple ds => .tup (ofDs ds)
  | .list _ => .non
  | .dict _ => .non
def ofDs : List PyData → List Val
  | [] => []
  | d :: ds => ofD d :: ofDs ds
end
mutual
def noL : PyData → Bool
  | .tuple ds => noLs ds
  | .list _ => false
  | .dict _ => false
  | _ => true
def noLs : List PyData → Bool
  | [] => true
  | d :: ds => noL d && noLs ds
end
theorem sqt_same {K : PySem.W.Frag} {H H' : Hp} (e : Same H H') {a : Addr} {xs : List V} (h : SqT K H a xs) : SqT K H' a xs := sqt_keep (fun a o h _ => e a o h) h
mutual
theorem vr_dp {K : PySem.W.Frag} {ad : Nat → Addr} {b : Nat} {H H' : Hp} (e : Same H H') : ∀ (d : PyData) (u : V), Dp K H u d → noL d = true → VR K ad b H' (ofD d) u
  | .none, _, h, _ => by cases h; rw [ofD]; exact .non
  | .bool _, _, h, _ => by cases h; rw [ofD]; exact .bl _
  | .int _, _, h, _ => by cases h; rw [ofD]; exact .int _
  | .str _, _, h, _ => by cases h; rw [ofD]; exact .str _
  | .tuple ds, _, h, n => by
    cases h with
    | tup h1 h2 =>
      rw [ofD]
      rw [noL] at n
      exact .tup (sqt_same e h1) (vrs_dp e ds _ h2 n)
  | .list _, _, _, n => by rw [noL] at n; cases n
  | .dict _, _, _, n => by rw [noL] at n; cases n
theorem vrs_dp {K : PySem.W.Frag} {ad : Nat → Addr} {b : Nat} {H H' : Hp} (e : Same H H') : ∀ (ds : List PyData) (us : List V), DpAll K H us ds → noLs ds = true → VRs K ad b H' (ofDs ds) us
  | [], _, h, _ => by cases h; rw [ofDs]; exact .nil
  | d :: ds, _, h, n => by
    cases h with
    | cons h1 h2 =>
      rw [ofDs]
      rw [noLs] at n
      have n := Bool.and_eq_true_iff.mp n
      exact .cons (vr_dp e d _ h1 n.1) (vrs_dp e ds _ h2 n.2)
end
/-- a list that stands in the heap is taken in -/
theorem Sim.takeL {K : PySem.W.Frag} {w : Wt} {μ : Mu} {H : Hp} (S : Sim K w μ H) {p : Addr} {us : List V} {vs : List Val} (hp : H p = some (.lst us)) (hn : ∀ m, p ∉ ft w m (μ.ob m)) (r : VRs K w.ad μ.nx H vs us) : ∃ w', Sim K w' (μ.new (.lst vs)) H ∧ Grow K w μ.nx H w' (μ.nx + 1) H ∧ w'.ad μ.nx = p := by
  obtain ⟨S2, g2⟩ := S.add (p := p) (s := w.sy 0) (o := .lst vs) (fun a ha m z => by
    have e : a = p := by simpa [ft, Wt.add] using ha
    subst e
    exact hn m z) (fun g => ⟨us, by rw [Wt.add_ad]; exact hp, r.grow g⟩)
  exact ⟨_, S2, g2, Wt.add_ad ..⟩
end Wn
/-! the law's level: small things -/
namespace Wn
open PySem PySem.Spec PyProof.Rows L2 LamX He
theorem _root_.L2.Room.units1 {k : Nat} {A : Around} (r : Room k A) : A.units + 65 < cLine := by have := r.un; omega
def negM : Val → Mu → R Val
  | .int i, μ => .ok (.int (-i)) μ
  | _, _ => .no
end Wn
/-! the law's level: frames -/
namespace Wn
open PySem PySem.Spec PyProof.Rows L2 LamX He
/-- all objects but those of S stand -/
structure Kee (S : List Nat) (μ μ' : Mu) : Prop where
  le : μ.nx ≤ μ'.nx
  ob : ∀ n, n < μ.nx → n ∉ S → μ'.ob n = μ.ob n
theorem Kee.refl (S : List Nat) (μ : Mu) : Kee S μ μ := ⟨Nat.le_refl _, fun _ _ _ => rfl⟩
theorem Kee.trans {S : List Nat} {μ μ1 μ2 : Mu} (a : Kee S μ μ1) (b : Kee S μ1 μ2) : Kee S μ μ2 := ⟨Nat.le_trans a.le b.le, fun n h q => (b.ob n (Nat.lt_of_lt_of_le h a.le) q).trans (a.ob n h q)⟩
theorem Kee.mono {S S' : List Nat} {μ μ' : Mu} (a : Kee S μ μ') (h : ∀ n ∈ S, n ∈ S') : Kee S' μ μ' := ⟨a.le, fun n l q => a.ob n l fun z => q (h n z)⟩
theorem Kee.put {S : List Nat} {μ : Mu} {n : Nat} {o : Ob} (h : n ∈ S) : Kee S μ (μ.put n o) := ⟨Nat.le_refl _, fun m _ q => Mu.put_ne _ _ fun z => q (z ▸ h)⟩
theorem Kee.new {S : List Nat} {μ : Mu} {o : Ob} : Kee S μ (μ.new o) := ⟨Nat.le_succ _, fun m l _ => Mu.new_ne _ _ (Nat.ne_of_lt l)⟩
theorem Kee.lt {S : List Nat} {μ μ' : Mu} (a : Kee S μ μ') {n : Nat} (h : n < μ.nx) : n < μ'.nx := Nat.lt_of_lt_of_le h a.le
theorem Mu.put_put (μ : Mu) (n : Nat) (o o' : Ob) : (μ.put n o).put n o' = μ.put n o' := by
  unfold Mu.put
  congr 1
  funext m
  by_cases c : m = n <;> simp [c]
theorem Kee.putN {S : List Nat} {μ μ1 : Mu} {n : Nat} {o : Ob} (a : Kee S μ μ1) (h : μ.nx ≤ n ∨ n ∈ S) : Kee S μ (μ1.put n o) := ⟨a.le, fun m l q => by
  rw [Mu.put_ne _ _ (fun z => by
    subst z
    rcases h with h | h
    · exact absurd l (Nat.not_lt.mpr h)
    · exact q h)]
  exact a.ob m l q⟩
theorem Kee.newN {S : List Nat} {μ μ1 : Mu} {o : Ob} (a : Kee S μ μ1) : Kee S μ (μ1.new o) := a.trans Kee.new
def Bag (μ : Mu) (b : Nat) : Prop := b < μ.nx ∧ ∃ c m, μ.ob b = some (.lst [.int c, .int m])
theorem Bag.keep {S : List Nat} {μ μ' : Mu} {b : Nat} (h : Bag μ b) (k : Kee S μ μ') (q : b ∉ S) : Bag μ' b := ⟨k.lt h.1, by rw [k.ob b h.1 q]; exact h.2⟩
/-! ### outcomes -/
def Goes (r : R Fl) (P : Rho → Mu → Prop) : Prop := match r with
  | .ok (.nx ρ) μ => P ρ μ
  | _ => False
def Gets {α : Type} (r : R α) (P : α → Mu → Prop) : Prop := match r with
  | .ok a μ => P a μ
  | _ => False
def Rets (r : R Fl) (P : Val → Mu → Prop) : Prop := match r with
  | .ok (.nx _) μ => P .non μ
  | .ok (.rt v) μ => P v μ
  | _ => False
theorem Goes_nx (ρ : Rho) (μ : Mu) (P : Rho → Mu → Prop) : Goes (.ok (.nx ρ) μ) P = P ρ μ := rfl
theorem Gets_ok {α : Type} (a : α) (μ : Mu) (P : α → Mu → Prop) : Gets (.ok a μ) P = P a μ := rfl
theorem Rets_nx (ρ : Rho) (μ : Mu) (P : Val → Mu → Prop) : Rets (.ok (.nx ρ) μ) P = P .non μ := rfl
theorem Rets_rt (v : Val) (μ : Mu) (P : Val → Mu → Prop) : Rets (.ok (.rt v) μ) P = P v μ := rfl
theorem Goes.mono {r : R Fl} {P Q : Rho → Mu → Prop} (h : Goes r P) (f : ∀ ρ μ, P ρ μ → Q ρ μ) : Goes r Q := by
  cases r with
  | ok a μ =>
    cases a with
    | nx ρ => exact f _ _ h
    | _ => exact h
  | _ => exact h
theorem Rets.mono {r : R Fl} {P Q : Val → Mu → Prop} (h : Rets r P) (f : ∀ v μ, P v μ → Q v μ) : Rets r Q := by
  cases r with
  | ok a μ =>
    cases a with
    | nx ρ => exact f _ _ h
    | rt v => exact f _ _ h
    | _ => exact h
  | _ => exact h
theorem Gets.mono {α : Type} {r : R α} {P Q : α → Mu → Prop} (h : Gets r P) (f : ∀ v μ, P v μ → Q v μ) : Gets r Q := by
  cases r with
  | ok a μ => exact f _ _ h
  | _ => exact h
theorem Goes.ex {r : R Fl} {P : Rho → Mu → Prop} (h : Goes r P) : ∃ ρ μ, r = .ok (.nx ρ) μ ∧ P ρ μ := by
  cases r with
  | ok a μ =>
    cases a with
    | nx ρ => exact ⟨ρ, μ, rfl, h⟩
    | _ => exact h.elim
  | _ => exact h.elim
theorem Gets.ex {α : Type} {r : R α} {P : α → Mu → Prop} (h : Gets r P) : ∃ a μ, r = .ok a μ ∧ P a μ := by
  cases r with
  | ok a μ => exact ⟨a, μ, rfl, h⟩
  | _ => exact h.elim
theorem Goes.then {r : R Fl} {k : Rho → Mu → R Fl} {P : Rho → Mu → Prop} (h : Goes r fun ρ μ => Goes (k ρ μ) P) : Goes (sThen r k) P := by
  obtain ⟨ρ, μ, rfl, h⟩ := h.ex
  exact h
theorem Rets.then {r : R Fl} {k : Rho → Mu → R Fl} {P : Val → Mu → Prop} (h : Goes r fun ρ μ => Rets (k ρ μ) P) : Rets (sThen r k) P := by
  obtain ⟨ρ, μ, rfl, h⟩ := h.ex
  exact h
theorem Goes.bind {α : Type} {r : R α} {k : α → Mu → R Fl} {P : Rho → Mu → Prop} (h : Gets r fun a μ => Goes (k a μ) P) : Goes (r.bind k) P := by
  obtain ⟨ρ, μ, rfl, h⟩ := h.ex
  exact h
theorem Rets.bind {α : Type} {r : R α} {k : α → Mu → R Fl} {P : Val → Mu → Prop} (h : Gets r fun a μ => Rets (k a μ) P) : Rets (r.bind k) P := by
  obtain ⟨ρ, μ, rfl, h⟩ := h.ex
  exact h
theorem Gets.bind {α β : Type} {r : R α} {k : α → Mu → R β} {P : β → Mu → Prop} (h : Gets r fun a μ => Gets (k a μ) P) : Gets (r.bind k) P := by
  obtain ⟨ρ, μ, rfl, h⟩ := h.ex
  exact h
/-- a def's run -/
theorem Gets.run {n N : Nat} {m : MS} {args : List Val} {μ : Mu} {P : Val → Mu → Prop} (hl : args.length = n) (h : Rets (m (startV N args) μ) P) : Gets (runM n N m args μ) P := by
  unfold runM
  rw [if_pos hl]
  cases e : m (startV N args) μ with
  | ok a μ1 =>
    rw [e] at h
    cases a with
    | nx ρ => exact h
    | rt v => exact h
    | bk _ => exact h.elim
    | ct _ => exact h.elim
  | er _ _ _ => rw [e] at h; exact h.elim
  | no => rw [e] at h; exact h.elim
/-! ### loops -/
section
variable {get : Mu → Option (List Val)} {g : Val → Rho → Option Rho} {body : MS} {P : Rho → Mu → Prop}
/-- a for whose body always goes on, by an invariant -/
theorem for_goes {vs : List Val} (I : Nat → Rho → Mu → Prop) (hget : ∀ i ρ μ, i ≤ vs.length → I i ρ μ → get μ = some vs)
    (hs : ∀ i v ρ μ, vs[i]? = some v → I i ρ μ → ∃ ρ1, g v ρ = some ρ1 ∧ Goes (body ρ1 μ) (I (i + 1))) (hd : ∀ ρ μ, I vs.length ρ μ → P ρ μ) :
    ∀ (f i : Nat) (ρ : Rho) (μ : Mu), i + f = vs.length + 1 → i ≤ vs.length → I i ρ μ → Goes (forM' get g body f i ρ μ) P
  | 0, i, ρ, μ, hf, hi, h => by omega
  | f + 1, i, ρ, μ, hf, hi, h => by
    have hg := hget i ρ μ (by omega) h
    by_cases c : i < vs.length
    · obtain ⟨ρ1, h1, h2⟩ := hs i vs[i] ρ μ (List.getElem?_eq_getElem c) h
      obtain ⟨ρ2, μ2, h3, h4⟩ := h2.ex
      have h5 := for_goes I hget hs hd f (i + 1) ρ2 μ2 (by omega) (by omega) h4
      rw [forM', hg]
      simp only [List.getElem?_eq_getElem c, h1, h3]
      exact h5
    · have e : i = vs.length := by omega
      subst e
      rw [forM', hg]
      simp only [List.getElem?_eq_none (Nat.le_refl _)]
      exact hd _ _ h
theorem sFor_goes {it : MI} {ρ : Rho} {μ μ1 : Mu} {k : Wk} {vs : List Val} (hi : it ρ μ = .ok k μ1) (hv : k.items μ1 = some vs) (I : Nat → Rho → Mu → Prop) (h0 : I 0 ρ μ1) (hget : ∀ i ρ μ, i ≤ vs.length → I i ρ μ → k.items μ = some vs)
    (hs : ∀ i v ρ μ, vs[i]? = some v → I i ρ μ → ∃ ρ1, g v ρ = some ρ1 ∧ Goes (body ρ1 μ) (I (i + 1))) (hd : ∀ ρ μ, I vs.length ρ μ → P ρ μ) : Goes (sFor it g body ρ μ) P := by
  unfold sFor
  rw [hi, R.bind_ok]
  simp only [hv]
  exact for_goes I hget hs hd _ 0 ρ μ1 (by omega) (Nat.zero_le _) h0
/-- over a range -/
theorem sFor_rng {it : MI} {ρ : Rho} {μ μ1 : Mu} {lo : Int} {n : Nat} (hi : it ρ μ = .ok (.rng lo n) μ1) (I : Nat → Rho → Mu → Prop) (h0 : I 0 ρ μ1)
    (hs : ∀ i ρ μ, i < n → I i ρ μ → ∃ ρ1, g (.int (lo + i)) ρ = some ρ1 ∧ Goes (body ρ1 μ) (I (i + 1))) (hd : ∀ ρ μ, I n ρ μ → P ρ μ) : Goes (sFor it g body ρ μ) P := by
  have hlen : (rngM lo n).length = n := by unfold rngM; rw [List.length_map, List.length_range]
  refine sFor_goes (vs := rngM lo n) hi rfl I h0 (fun _ _ _ _ _ => rfl) (fun i v ρ μ hv h => ?_) (fun ρ μ h => hd ρ μ (by rw [hlen] at h; exact h))
  rw [rngM_get] at hv
  split at hv
  · rename_i c
    cases hv
    exact hs i ρ μ c h
  · cases hv
end
end Wn
/-! the law's level: comprehensions, plainly -/
namespace Wn
open PySem PySem.Spec PyProof.Rows L2 LamX He
theorem Mu.new_put (μ : Mu) (o o' : Ob) : (μ.new o).put μ.nx o' = μ.new o' := by
  unfold Mu.put Mu.new
  congr 1
  funext m
  by_cases c : m = μ.nx <;> simp [c]
section
variable {k : Wk} {g : Val → Rho → Option Rho} {c : MT} {elt : ME} {ρ : Rho} {μ : Mu} {vs : List Val} {rv : Val → Rho} {p : Val → Bool} {f : Val → Val}
/-- what is told changes nothing -/
theorem lcM_pure (hz : vs.length ≤ 1000000) (hi : ∀ acc, k.items (μ.new (.lst acc)) = some vs) (hg : ∀ v ∈ vs, g v ρ = some (rv v)) (hc : ∀ v ∈ vs, ∀ acc, c (rv v) (μ.new (.lst acc)) = .ok (p v) (μ.new (.lst acc))) (he : ∀ v ∈ vs, p v = true → ∀ acc, elt (rv v) (μ.new (.lst acc)) = .ok (f v) (μ.new (.lst acc))) :
    ∀ (n i : Nat), i + n = vs.length + 1 → i ≤ vs.length → lcM k.items g c elt μ.nx ρ n i (μ.new (.lst (((vs.take i).filter p).map f))) = .ok () (μ.new (.lst ((vs.filter p).map f)))
  | 0, i, h1, h2 => by omega
  | n + 1, i, h1, h2 => by
    rw [lcM, hi]
    by_cases ci : i < vs.length
    · have hv : vs[i] ∈ vs := List.getElem_mem ci
      have et : vs.take (i + 1) = vs.take i ++ [vs[i]] := by rw [List.take_succ, List.getElem?_eq_getElem ci]; rfl
      simp only [List.getElem?_eq_getElem ci, hg _ hv, hc _ hv, R.cut_ok, R.bind_ok]
      cases hp : p vs[i] with
      | true =>
        have hl : (((vs.take i).filter p).map f).length ≤ 1000000 := by
          rw [List.length_map]
          have := List.length_filter_le p (vs.take i)
          rw [List.length_take] at this
          omega
        rw [if_pos rfl, he _ hv hp, R.cut_ok, R.bind_ok]
        simp only [Mu.new_same]
        rw [if_pos hl, Mu.new_put]
        have z := lcM_pure hz hi hg hc he n (i + 1) (by omega) (by omega)
        rw [et, List.filter_append, List.map_append, List.filter_cons_of_pos hp] at z
        exact z
      | false =>
        rw [if_neg (by decide)]
        have z := lcM_pure hz hi hg hc he n (i + 1) (by omega) (by omega)
        rw [et, List.filter_append, List.map_append, List.filter_cons_of_neg (by rw [hp]; decide), List.filter_nil, List.map_nil, List.append_nil] at z
        exact z
    · have e : i = vs.length := by omega
      subst e
      simp only [List.getElem?_eq_none (Nat.le_refl _)]
      rw [List.take_length]
theorem mLc_pure {it : MI} {own : List Nat} {ρ0 : Rho} {μ0 : Mu} (hit : it ρ0 μ0 = .ok k μ) (h0 : k.items μ = some vs) (hz : vs.length ≤ 1000000) (hi : ∀ acc, k.items (μ.new (.lst acc)) = some vs) (hg : ∀ v ∈ vs, g v (wipeV ρ0 own) = some (rv v)) (hc : ∀ v ∈ vs, ∀ acc, c (rv v) (μ.new (.lst acc)) = .ok (p v) (μ.new (.lst acc))) (he : ∀ v ∈ vs, p v = true → ∀ acc, elt (rv v) (μ.new (.lst acc)) = .ok (f v) (μ.new (.lst acc))) :
    mLc it own g c elt ρ0 μ0 = .ok (.loc μ.nx) (μ.new (.lst ((vs.filter p).map f))) := by
  unfold mLc
  rw [hit, R.bind_ok]
  simp only [h0]
  have z := lcM_pure hz hi hg hc he (vs.length + 1) 0 (by omega) (Nat.zero_le _)
  rw [List.take_zero, List.filter_nil, List.map_nil] at z
  rw [z]
  rfl
end
end Wn
/-! the law's level: the script comes in -/
namespace Wn
open PySem PySem.Spec PyProof.Rows L2 LamX He
theorem law_sp {K : PySem.W.Frag} {d : List Val → Mu → R Val} (hd : ∀ (μ : Mu) (s : Nat) (ns : List Int), ns.length ≤ 63 → seqOf μ s = some (ns.map Val.int) → s < μ.nx → Gets (d [.loc s] μ) fun v _ => v = .bl true)
    (H : Hp) (a : Addr) (ns : List Int) (hl : ns.length ≤ 63) (htb : Tabs (TbK K) H) (h : SqL K H a (ns.map V.int)) : spM K 1 d [.ref a] H (fun v _ => v = .bl true) fun _ _ _ => False := by
  have fin : ∀ (w : Wt) (μ : Mu), w.ad 0 = a → μ.nx = 1 → seqOf μ 0 = some (ns.map Val.int) → Sim K w μ H → spM K 1 d [.ref a] H (fun v _ => v = .bl true) fun _ _ _ => False := fun w μ ha hn hq S => by
    refine ⟨rfl, w, μ, [.loc 0], S, VRs.one ?_, ?_⟩
    · rw [← ha]
      exact VR.loc (by omega)
    · obtain ⟨v, μ', e, rfl⟩ := (hd μ 0 ns hl hq (by omega)).ex
      rw [e]
      intro w' H' u S' r _
      cases r
      rfl
  have hns := VRs.ints (K := K) (ad := fun _ => a) (b := 1) (H := H) ns
  have one : ∀ o : Ob, ObR K ⟨fun _ => a, fun _ => ⟨0, 0, 0, 0, 0, 0, 0, [], []⟩, fun _ => 0⟩ 1 H 0 o → Sim K ⟨fun _ => a, fun _ => ⟨0, 0, 0, 0, 0, 0, 0, [], []⟩, fun _ => 0⟩ ⟨1, fun n => if n = 0 then some o else none⟩ H := fun o ho => by
    refine ⟨fun n hn => if_neg (by have : 1 ≤ n := hn; omega), fun n p hp => ?_, fun n m hnm b hb => ?_, htb⟩
    · by_cases c : n = 0
      · subst c
        have hp : (if (0 : Nat) = 0 then some o else none) = some p := hp
        rw [if_pos rfl] at hp
        cases hp
        exact ho
      · have hp : (if n = 0 then some o else none) = some p := hp
        rw [if_neg c] at hp
        cases hp
    · by_cases c : n = 0
      · have e : (if m = 0 then some o else none : Option Ob) = none := if_neg (by omega)
        show b ∉ ft _ m (if m = 0 then some o else none)
        rw [e]
        exact List.not_mem_nil
      · have hb : b ∈ ft _ n (if n = 0 then some o else none) := hb
        rw [if_neg c] at hb
        cases hb
  rcases h with (h | h) | h
  · exact fin _ ⟨1, fun n => if n = 0 then some (.lst (ns.map Val.int)) else none⟩ rfl rfl rfl (one _ ⟨_, h, hns⟩)
  · exact fin _ ⟨1, fun n => if n = 0 then some (.ro (ns.map Val.int)) else none⟩ rfl rfl rfl (one _ ⟨_, .inl h, hns⟩)
  · exact fin _ ⟨1, fun n => if n = 0 then some (.ro (ns.map Val.int)) else none⟩ rfl rfl rfl (one _ ⟨_, .inr h, hns⟩)
end Wn
/-! the law's level: list.index -/
namespace Wn
open PySem PySem.Spec PyProof.Rows L2 LamX He
def idxM (x : Val) (xs : List Val) (μ : Mu) : R Val := match datM μ x, xs with
  | some (.list ds), [y] => match datM μ y with
    | some d => match ds.findIdx? (fun z => PyData.eqv z d) with
      | some j => .ok (.int (j : Nat)) μ
      | none => .no
    | none => .no
  | _, _ => .no
/-! ### or, and, by truth -/
def truM : Val → Mu → Option Bool
  | .non, _ => some false
  | .bl b, _ => some b
  | .int i, _ => some (i != 0)
  | .tup vs, _ => some (!vs.isEmpty)
  | .loc n, μ => match seqOf μ n with
    | some vs => some (!vs.isEmpty)
    | none => none
  | _, _ => none
def mOrT (a b : ME) : ME := fun ρ μ => (a ρ μ).bind fun x μ => match truM x μ with
  | some true => .ok x μ
  | some false => b ρ μ
  | none => .no
def mAndT (a b : ME) : ME := fun ρ μ => (a ρ μ).bind fun x μ => match truM x μ with
  | some true => b ρ μ
  | some false => .ok x μ
  | none => .no
section
variable {X : Cx} {E : XK} {a b : Expr} {rest : List Expr} {pos : Pos} {ma mb : ME}
end
end Wn
/-! the law's level: methods by keywords alone -/
namespace Wn
open PySem PySem.Spec PyProof.Rows L2 LamX He
section
variable {X : Cx} {E : XK} {k n : Nat} {f : Addr} {fd : FuncData} {ps ks : List Str} {sp : Sp} {m : Str} {p pos apos kpos : Pos} {o e : Expr} {es : List Expr} {kws : List Keyword} {mo me : ME} {mr mk : MA} {fm : MSy}
end
end Wn
/-! the law's level: int of truths, list(range(a, b)), dict of pairs -/
namespace Wn
open PySem PySem.Spec PyProof.Rows L2 LamX He
def intBM : List Val → Mu → R Val
  | [.int i], μ => .ok (.int i) μ
  | [.bl k], μ => .ok (.int (if k then 1 else 0)) μ
  | _, _ => .no
@[irreducible] def okR (i : Int) : Bool := decide (-1000000 ≤ i ∧ i ≤ 1000000)
def mListR2 (m : MA) : ME := fun ρ μ => (m ρ μ).bind fun vs μ => match vs with
  | [.int i, .int j] => if okR i = true ∧ okR j = true then .ok (.loc μ.nx) (μ.new (.lst (rngM i (j - i).toNat))) else .no
  | _ => .no
section
variable {K : PySem.W.Frag}
theorem putK_new {kvs : List (Key × V)} {k : Key} {v : V} (h : k ∉ kvs.map (·.1)) : putK kvs k v = kvs ++ [(k, v)] := by
  unfold putK
  rw [if_neg]
  intro z
  obtain ⟨p, hp, q⟩ := List.any_eq_true.mp z
  exact h (List.mem_map.mpr ⟨p, hp, by simpa using q⟩)
theorem mergeK_nd : ∀ (more kvs : List (Key × V)), ((kvs ++ more).map (·.1)).Nodup → mergeK kvs more = kvs ++ more
  | [], kvs, _ => (List.append_nil _).symm
  | p :: more, kvs, h => by
    show mergeK (putK kvs p.1 p.2) more = _
    have h1 : p.1 ∉ kvs.map (·.1) := fun z => by
      rw [List.map_append, List.map_cons] at h
      exact (List.nodup_append.mp h).2.2 _ z _ List.mem_cons_self rfl
    rw [putK_new h1, mergeK_nd more (kvs ++ [(p.1, p.2)]) (by rw [List.append_assoc]; exact h), List.append_assoc]
    rfl
end
section
variable {X : Cx} {E : XK}
end
end Wn
/-! the law's level: list.remove -/
namespace Wn
open PySem PySem.Spec PyProof.Rows L2 LamX He
def remLM (x : Val) (xs : List Val) (μ : Mu) : R Val := match lstOf x μ, xs with
  | some (n, vs), [.int k] => match intsOf vs with
    | some l => match l.findIdx? (fun z => decide (z = k)) with
      | some j => .ok .non (μ.put n (.lst ((l.eraseIdx j).map Val.int)))
      | none => .no
    | none => .no
  | _, _ => .no
end Wn
/-! the law's level: lambdas that are called at once, errors that are caught, repr, dicts -/
namespace Wn
open PySem PySem.Spec PyProof.Rows L2 LamX He

/-! ### a def that makes lambdas: its code object is known -/
section
variable {P : Program} {w : World} {K : PySem.W.Frag} {mg : Str → Option Value} {base : Heap} {x : Str} {params : Arguments} {body : List Stmt} {scope : Scope} {dvs : List V} {kws : List (Str × V)} {fd : FuncData}
theorem okMc {N ps : List Str} {k n N' : Nat} {m : MS} (F : FunD K x x params body scope dvs kws (ga K x) fd) (Sc : FnScope N ps scope) (hn : n = ps.length) (hN : N' = N.length)
    (hbody : ∀ (cdv : Value) (A : Around) (outer : List Env) (s : Shared) (H : Hp), cdv = .ref (cT K (x, none)).1 → A.guards = some [] → Room k (A.deeper (envOfC x scope s.heap.objs.size (ga K x) cdv)) → PMSs (cxOf CX0 P w K mg base N x scope (ga K x) cdv A outer s H E0').nox E0' body m) :
    FnG P w K mg base CX0 (k + 1) (ga K x) fd ps (spM K n (runM n N' m)) := by
  have key : ∀ cdv oc od dV kV doc pm an ct osl, K.lookup (ga K x) = some ⟨oc, od, .func (PySem.W.fnOf x x params body scope dV kV doc pm an cdv ct), osl⟩ → PySem.W.codeIn K cdv x = true → cdv = .ref (cT K (x, none)).1 := fun cdv oc od dV kV doc pm an ct osl lk hcd => by
    obtain ⟨c, rfl⟩ := codeIn_ref hcd
    have e := codeOf_eq (K := K) (p := (x, none)) lk rfl
    exact congrArg Value.ref e.symm
  subst hn hN
  obtain ⟨oc, od, dV, kV, doc, pm, an, cdv, ct, osl, rfl, lk, hcd, _, _⟩ := F.ex
  refine ⟨fun vs H Q E h => h.1, fun A outer s H args us vs Q E hg hr e0 hb r hsp => ?_⟩
  refine run_ofS lk hcd Sc hr e0 hb r hsp.1 fun hr' => ?_
  obtain ⟨hl, w', μ, args, S, r, hp⟩ := hsp
  refine ⟨_, PSs.nox (hbody cdv A outer s H (key _ _ _ _ _ _ _ _ _ _ lk hcd) hg hr'), w', startV N.length args, μ, S, EnvR.start r, ?_⟩
  unfold runM at hp
  rw [if_pos (by rw [← r.length]; exact hl)] at hp
  show PostS K E0' w' μ.nx H _ (m (startV N.length args) μ)
  cases hm : m (startV N.length args) μ with
  | no => rw [hm] at hp; exact hp
  | er c fs μ1 => rw [hm] at hp; exact hp
  | ok a μ1 =>
    rw [hm] at hp
    cases a with
    | nx ρ => exact fun w1 H1 σ1 S1 EN1 g1 => hp w1 H1 _ S1 .non g1
    | rt v => exact fun w1 H1 u S1 r1 g1 => hp w1 H1 u S1 r1 g1
    | bk ρ => exact hp.elim
    | ct ρ => exact hp.elim
end
/-! ### x(lambda: e), where x returns what e is, or tells the error -/
inductive Oi where
  | tag (x : Str) | fld (f : Str) | isi
def itM (fs : List (Str × Val)) : Oi → Option Val
  | .tag x => some (.str x)
  | .fld f => fs.lookup f
  | .isi => some (.bl true)
def itV (us : List (Str × V)) : Oi → Option V
  | .tag x => some (.str x)
  | .fld f => us.lookup f
  | .isi => some (.bl true)
def itsM (fs : List (Str × Val)) : List Oi → Option (List Val)
  | [] => some []
  | i :: r => match itM fs i, itsM fs r with
    | some v, some vs => some (v :: vs)
    | _, _ => none
def itsV (us : List (Str × V)) : List Oi → Option (List V)
  | [] => some []
  | i :: r => match itV us i, itsV us r with
    | some v, some vs => some (v :: vs)
    | _, _ => none
section
variable {K : PySem.W.Frag} {ad : Nat → Addr} {b : Nat} {H : Hp}
theorem lookup_rel {f : Str} : ∀ {fs : List (Str × Val)} {us : List (Str × V)} {v : Val}, us.map (·.1) = fs.map (·.1) → VRs K ad b H (fs.map (·.2)) (us.map (·.2)) → fs.lookup f = some v → ∃ u, us.lookup f = some u ∧ VR K ad b H v u
  | [], [], _, _, _, h => by cases h
  | p :: fs, q :: us, v, hk, r, h => by
    simp only [List.map_cons, List.cons.injEq] at hk
    obtain ⟨p1, p2⟩ := p
    obtain ⟨q1, q2⟩ := q
    obtain ⟨rfl, hk⟩ := hk
    cases r with
    | cons r1 r2 =>
      rw [List.lookup_cons] at h ⊢
      cases c : (f == q1) with
      | true =>
        rw [c] at h
        cases h
        exact ⟨q2, rfl, r1⟩
      | false =>
        rw [c] at h
        exact lookup_rel hk r2 h
  | [], _ :: _, _, hk, _, _ => by simp at hk
  | _ :: _, [], _, hk, _, _ => by simp at hk
theorem its_rel {fs : List (Str × Val)} {us : List (Str × V)} (hk : us.map (·.1) = fs.map (·.1)) (r : VRs K ad b H (fs.map (·.2)) (us.map (·.2))) : ∀ {its : List Oi} {vs : List Val}, itsM fs its = some vs → ∃ ws, itsV us its = some ws ∧ VRs K ad b H vs ws
  | [], vs, h => by
    cases h
    exact ⟨[], rfl, .nil⟩
  | i :: its, vs, h => by
    rw [itsM] at h
    split at h
    · rename_i v vs' h1 h2
      cases h
      obtain ⟨ws, e1, e2⟩ := its_rel hk r h2
      have q : ∃ u, itV us i = some u ∧ VR K ad b H v u := by
        cases i with
        | tag x => cases h1; exact ⟨_, rfl, .str _⟩
        | fld f => exact lookup_rel hk r h1
        | isi => cases h1; exact ⟨_, rfl, .bl _⟩
      obtain ⟨u, e3, e4⟩ := q
      refine ⟨u :: ws, ?_, .cons e4 e2⟩
      rw [itsV, e3, e1]
    · cases h
end
abbrev Ohs := List (Str × List Oi)
def findH (hs : Ohs) (c : Str) : Option (List Oi) := match hs with
  | [] => none
  | (x, its) :: r => if x = c then some its else findH r c
theorem findH_mem {hs : Ohs} {c : Str} {its : List Oi} (h : findH hs c = some its) : (c, its) ∈ hs := by
  induction hs with
  | nil => cases h
  | cons p r ih =>
    obtain ⟨x, its'⟩ := p
    rw [findH] at h
    split at h
    · rename_i e
      subst e
      cases h
      exact List.mem_cons_self
    · exact List.mem_cons_of_mem _ (ih h)
def mOut (hs : Ohs) (m : ME) : ME := fun ρ μ => match m ρ μ with
  | .ok v μ => .ok v μ
  | .er c fs μ => match findH hs c with
    | some its => match itsM fs its with
      | some vs => .ok (.loc μ.nx) (μ.new (.lst vs))
      | none => .no
    | none => .no
  | .no => .no
/-- an error that a clause tells -/
def Eo (K : PySem.W.Frag) (hs : Ohs) (Q : VK) : XK := fun cls d H => ∃ c its dd us vs, (c, its) ∈ hs ∧ cls = .ref (ga K c) ∧ d = some dd ∧ H dd = some (.xd us) ∧ itsV us its = some vs ∧ ∀ p, H p = none → Q (.ref p) (upd H p (.lst vs))
def TTo (K : PySem.W.Frag) (hs : Ohs) : (XK → Hp → VK → Prop) → Hp → VK → Prop := fun tl H Q => tl (Eo K hs Q) H Q
section
variable {X : Cx} {E : XK}
theorem takes_len {W : WX} (tk : Takes X W) (h : ∀ cls d σ H, σ.length = X.N.length → E cls d H → W cls d σ H) : Takes X (fun cls d _ H => E cls d H) := fun u s' xx => by
  obtain ⟨a, B, sI, pins', σ', H', cls, d, rfl, J', nb, up, sky, na, os, ag, w⟩ := xx
  exact tk _ _ ⟨a, B, sI, pins', σ', H', cls, d, rfl, J', nb, up, sky, na, os, ag, h _ _ _ _ J'.len w⟩
theorem out_gives {hs : Ohs} {l : List Clause} {h₀ : ExceptHandler} {hds : List ExceptHandler} {Ng : List Str} {x a q n : Str} {i : Nat} {sg : Scope} {g : Addr} {cdg : Value} {p1 p2 p3 p8 : Pos} (hN : Ng.Nodup) (hi : Ng[i]? = some n) (hln : sg.names.lookup n = some .local) (h0 : ∀ f : Addr, (L2.start Ng [V.ref f])[0]? = some (some (V.ref f)))
    (hh : ∀ (s : Shared) (H : Hp), HdsA (cxOf C8.CX0 X.prog X.w X.K X.mg X.base Ng x sg g cdg X.A X.stack s H C8.E0).nox n (h₀ :: hds) l)
    (hw : ∀ cls d H Q σ, Eo X.K hs Q cls d H → i < σ.length → wAsN X.K i (fun _ _ _ _ => False) { nx := fun _ H' => Q .non H', rt := Q } l cls d σ H) (hlen : i < Ng.length) :
    GivesTo X Ng x sg g cdg [.Try [.Return (some (.Call (.Name a p1) [] [] p2)) p3] (h₀ :: hds) [] [] p8] a q (TTo X.K hs) := by
  intro f c' s H Q tl act hc h
  refine ⟨_, pss_one (ps_try_asN (X := (cxOf C8.CX0 X.prog X.w X.K X.mg X.base Ng x sg g cdg X.A X.stack s H C8.E0).nox) (i := i)
      (tb := fun W D σ H => ∃ Ech : XK, (∀ cls d σ' H', σ'.length = Ng.length → Ech cls d H' → W cls d σ' H') ∧ σ[0]? = some (some (.ref f)) ∧ H c' = some (CodeO c' q) ∧ tl Ech H D.rt)
      rfl rfl hN hi hln L2.takes0 (fun W pn xe tk _ => ?_) (hh s H)), ?_⟩
  · refine ⟨fun pins s' σ H' D I h' => ?_⟩
    obtain ⟨Ech, hW, h1, h2, h3⟩ := h'
    have tk2 := takes_len (E := Ech) tk hW
    have hp := act _ pn xe Ech p1 p2 tk2 (fun _ _ _ _ h => h)
    exact (pss_one (ps_ret (pos := p3) hp)).run pins s' σ H' D I ⟨h1, h2, h3⟩
  · refine ⟨Eo X.K hs Q, fun cls d σ' H' hl h => hw cls d H' Q σ' h (by rw [hl]; exact hlen), h0 f, hc, h⟩
/-- x(lambda: e) -/
theorem pm_lam {hs : Ohs} {m : ME} {x a : Str} {g : Addr} {k : Nat} {pg : Arguments} {bg : List Stmt} {sg : Scope} {dvs : List V} {kws : List (Str × V)} {fd : FuncData} {Ng : List Str} {c P : Addr}
    {params : Arguments} {body : Expr} {scope : Scope} {p lpos pos : Pos} (F : FunD X.K x x pg bg sg dvs kws g fd) (hb : L2.Binds X.K fd [a] []) (hg : Gl X x) (hm : X.mg x = some (.ref g)) (Sg : FnScope Ng [a] sg) (hNg : Ng[0]? = some a) (hva : Vis sg a)
    (hG : ∀ cdv, GivesTo X Ng x sg g cdv bg a (X.env.qual ++ "<lambda>") (TTo X.K hs))
    (TB : TabB X.base X.mg c P) (hcode : X.env.code = .ref c) (hmT : (P, X.env.qual ++ "<lambda>") ∈ TbK X.K) (hu : ∀ p ∈ TbK X.K, p.1 = P → p.2 = X.env.qual ++ "<lambda>") (hr : Room (k + 2) X.A) (L : LamS X.env.scope scope)
    (hbody : ∀ (A : Around) (outer : List Env) (s : Shared) (H : Hp) (E : XK) (f c' : Addr), Room k (A.deeper (lamEnv X scope s.heap.objs.size f c')) → PM (lamCx X A outer s H E scope f c') E body m)
    (hdef : defaultsOf params X.env = ([], []) := by rfl)
    (hbind : ∀ (q : Str) (cl : List (Str × Addr)) (pm cv ctv : Value), bindArgs (PySem.W.kla_fn "<lambda>" q params body scope cl pm cv ctv) ⟨[], []⟩ = pure [] := by exact fun _ _ _ _ _ => rfl)
    (hdb : (x == ("__debug__" : Str)) = false := by decide) (hd : (a == ("__debug__" : Str)) = false := by decide) (hcd : (a == ("__classdict__" : Str)) = false := by decide) :
    PM X E (.Call (.Name x p) [.Lambda params body scope lpos] [] pos) (mOut hs m) := by
  obtain ⟨oc, od, dV, kV, doc, pm, an, cdv, ct, osl, rfl, lk, hcg, _, _⟩ := F.ex
  refine PE.imp (pe_lamcall (T := TbK X.K) (TT := TTo X.K hs) (t := fun E => tM X.K (relE X.K) E m) hg hm F.kp lk hcg hb Sg hNg hva (hG cdv) TB hcode hmT hu hr L hdef hbind hbody hdb hd hcd) fun σ H Q ⟨w, ρ, μ, S, EN, hp⟩ => ⟨S.tb, fun H1 e t => ?_⟩
  obtain ⟨S1, g1⟩ := S.extN e t
  have hp1 := Post.grow hp g1
  refine ⟨w, ρ, μ, S1, EN.grow g1, ?_⟩
  unfold mOut at hp1
  cases hm : m ρ μ with
  | no => rw [hm] at hp1; exact hp1
  | ok v μ' => rw [hm] at hp1; exact hp1
  | er c fs μ' =>
    rw [hm] at hp1
    intro w' H' d us S' g' hd hk r
    have hp1 : Post X.K (relE X.K) E w μ.nx H1 Q (match findH hs c with
      | some its => match itsM fs its with
        | some vs => .ok (.loc μ'.nx) (μ'.new (.lst vs))
        | none => .no
      | none => .no) := hp1
    split at hp1
    · rename_i its h1
      split at hp1
      · rename_i vs h2
        obtain ⟨ws, e1, e2⟩ := its_rel hk r h2
        refine ⟨c, its, d, us, ws, findH_mem h1, rfl, rfl, hd, e1, fun p np => ?_⟩
        obtain ⟨w2, S2, g2, e3⟩ := S'.newL np e2
        exact hp1 w2 _ _ S2 (by rw [← e3]; exact VR.loc (Nat.lt_succ_self _)) (g'.trans g2)
      · exact hp1.elim
    · exact hp1.elim
end
/-! ### repr -/
def repOk (d : PyData) : Prop := d.showable = true ∧ d.hasDict = false ∧ d.depth ≤ 100 ∧ d.shown.length ≤ sizeLine
instance (d : PyData) : Decidable (repOk d) := by unfold repOk; infer_instance
def reprM : List Val → Mu → R Val
  | [x], μ => match datM μ x with
    | some d => if repOk d then .ok (.str d.shown) μ else .no
    | none => .no
  | _, _ => .no
section
variable {K : PySem.W.Frag}
theorem p_repr : PrimA K (rRepr K) reprM := by
  intro E w μ H xs us Q S r hp
  unfold reprM at hp
  split at hp
  · cases r with
    | cons r1 r2 =>
      cases r2
      split at hp
      · rename_i d hd
        split at hp
        · rename_i ho
          obtain ⟨a1, a2⟩ := datM_dp S hd r1
          exact ⟨_, d, rfl, a1, ho.1, ho.2.1, ho.2.2.1, ho.2.2.2, hp w H _ S (.str _) .refl⟩
        · exact hp.elim
      · exact hp.elim
  · exact hp.elim
end
/-! ### dicts -/
def intK : List (Key × Val) → Option (List Int)
  | [] => some []
  | (.inl i, _) :: r => match intK r with
    | some l => some (i :: l)
    | none => none
  | (.inr _, _) :: _ => none
section
variable {X : Cx} {E : XK} {K : PySem.W.Frag} {pos : Pos}
/-! ### a, b = a list -/
def sUnp (is : List Nat) (m : ME) : MS := fun ρ μ => (m ρ μ).bind fun v μ => match v with
  | .loc n => match seqOf μ n with
    | some vs => match unp is vs ρ with
      | some ρ' => .ok (.nx ρ') μ
      | none => .no
    | none => .no
  | _ => .no
theorem pms_unp {ts : List Expr} {is : List Nat} {k n : Nat} {e : Expr} {m : ME} {tpos : Pos} (hc : X.calm = true) (he : PM X E e m) (h : PMGs X ts is) (hl : is.length = n := by rfl)
    (hn : (assignEach ts X.env).length = n := by rfl) (hst : (assignEach ts X.env).findIdx? (·.1) = none := by rfl) (hs : swapsWithSole [.Tuple ts k tpos] e pos.line X.env = pure false := by rfl) (hw : swappedStores [.Tuple ts k tpos] e X.env = pure none := by rfl)
    (h1 : (assignEach [.Tuple ts k tpos] X.env).map (·.2) = [assign (.Tuple ts k tpos) X.env] := by rfl) : PMS X E (.Assign [.Tuple ts k tpos] e pos) (sUnp is m) :=
  PS.imp (ps_asg he (pg_lst (pos := tpos) (k := k) hc h hn hst) hs hw h1) fun D σ H ⟨w, ρ, μ, S, EN, hp⟩ => ⟨w, ρ, μ, S, EN, PostS.bind hp fun x μ1 w1 H1 u1 S1 r1 g1 h1 => by
    split at h1
    · rename_i n'
      split at h1
      · rename_i vs hv
        split at h1
        · rename_i ρ' hq
          obtain ⟨us, q1, q2⟩ := seqOf_sq S1 hv
          cases r1
          exact ⟨_, us, rfl, q1, by rw [q2.length, unp_len (is := is) hq]; exact hl, w1, ρ, μ1.nx, vs, ρ', EN.grow g1, q2, hq, fun σ' EN' _ => h1 w1 H1 σ' S1 EN' .refl⟩
        · exact h1.elim
      · exact h1.elim
    · exact h1.elim⟩
end
end Wn
/-! the law's level: the tables of those who make lambdas -/
namespace Wn
open PySem PySem.Spec PyProof.Rows L2 LamX He
def TBk (K : PySem.W.Frag) (mg : Str → Option Value) (base : Heap) : Prop := ∀ x ∈ lamL, TabB base mg (cT K (x, none)).1 (cT K (x, none)).2
theorem tb_mem {K : PySem.W.Frag} {x : Str} (h : x ∈ lamL) : ((cT K (x, none)).2, x ++ ".<locals>." ++ "<lambda>") ∈ TbK K := List.mem_map.mpr ⟨x, h, rfl⟩
theorem tb_one {K : PySem.W.Frag} {x : Str} (h : lamL = [x]) : ∀ p ∈ TbK K, p.1 = (cT K (x, none)).2 → p.2 = x ++ ".<locals>." ++ "<lambda>" := fun p hp _ => by
  unfold TbK at hp
  rw [h] at hp
  cases List.mem_singleton.mp hp
  rfl
theorem itsV_cons {us : List (Str × V)} {i : Oi} {r : List Oi} {vs : List V} (h : itsV us (i :: r) = some vs) : ∃ v vs', vs = v :: vs' ∧ itV us i = some v ∧ itsV us r = some vs' := by
  rw [itsV] at h
  split at h
  · rename_i v vs' h1 h2
    cases h
    exact ⟨v, vs', rfl, h1, h2⟩
  · cases h
theorem hu_repr {k : Nat} {A : Around} (r : Room k A) : A.units + 200 < cLine := by have := r.un; omega
/-! ### texts compared -/
def neSM : Val → Val → Mu → R Val
  | .str x, .str y, μ => .ok (.bl (!decide (x = y))) μ
  | _, _, _ => .no
theorem c_neS {X : Cx} : CmpP X .NotEq neSM := by
  refine ⟨_, op_ne, ?_⟩
  intro E w μ H x y u v Q S r1 r2 hp
  unfold neSM at hp
  split at hp
  · cases r1; cases r2
    rename_i x y
    refine ⟨rfl, ?_⟩
    have e : decide (V.str x = V.str y) = decide (x = y) := by
      by_cases c : x = y
      · subst c; simp
      · rw [decide_eq_false c, decide_eq_false (fun z => c (V.str.inj z))]
    rw [e]
    exact hp w H _ S (.bl _) .refl
  · exact hp.elim
/-! ### data that repr shows -/
mutual
def smD : PyData → Bool
  | .none => true
  | .bool _ => true
  | .str x => PyData.strOk x
  | .int i => decide (i.natAbs < 10 ^ 12)
  | .list xs => smDs xs
  | .tuple xs => smDs xs
  | .dict _ => false
def smDs : List PyData → Bool
  | [] => true
  | x :: xs => smD x && smDs xs
end
mutual
theorem sm_show : ∀ d : PyData, smD d = true → d.showable = true ∧ d.hasDict = false ∧ d.leavesShort 13 = true
  | .none, _ => ⟨rfl, rfl, rfl⟩
  | .bool _, _ => ⟨rfl, rfl, rfl⟩
  | .str x, h => by
    refine ⟨rfl, rfl, ?_⟩
    exact PyData.leavesShort_of_canLay0 13 (.str x) (by rw [PyData.canLay0]; exact h) rfl
  | .int i, h => by
    have h' : i.natAbs < 10 ^ 12 := of_decide_eq_true h
    refine ⟨decide_eq_true ?_, rfl, decide_eq_true ?_⟩
    · by_cases c : i.natAbs = 0
      · rw [c]; decide
      · exact (Nat.log2_lt c).mpr (Nat.lt_of_lt_of_le h' (Nat.le_trans (show 10 ^ 12 ≤ 2 ^ 40 by decide) (Nat.pow_le_pow_right (by decide) (by decide))))
    · have e := PySem.int_text_length_le10 (a := i) (k := 12) (by decide) h'
      show (Str.ofString (toString i)).length ≤ 13
      rw [PySem.ofString_length]
      exact e
  | .list xs, h => by
    obtain ⟨h1, h2, h3⟩ := sm_shows xs h
    exact ⟨h1, h2, h3⟩
  | .tuple xs, h => by
    obtain ⟨h1, h2, h3⟩ := sm_shows xs h
    exact ⟨h1, h2, h3⟩
  | .dict _, h => by cases h
theorem sm_shows : ∀ ds : List PyData, smDs ds = true → PyData.showableAll ds = true ∧ PyData.hasDictAll ds = false ∧ PyData.leavesShortAll 13 ds = true
  | [], _ => ⟨rfl, rfl, rfl⟩
  | d :: ds, h => by
    have h : (smD d && smDs ds) = true := h
    obtain ⟨a, b⟩ := Bool.and_eq_true_iff.mp h
    obtain ⟨p1, p2, p3⟩ := sm_show d a
    obtain ⟨q1, q2, q3⟩ := sm_shows ds b
    refine ⟨?_, ?_, ?_⟩
    · rw [PyData.showableAll, p1, q1]; rfl
    · rw [PyData.hasDictAll, p2, q2]; rfl
    · rw [PyData.leavesShortAll, p3, q3]; rfl
end
theorem rep_small {d : PyData} (h : smD d = true) (hd : d.depth ≤ 100) (hw : d.weight ≤ 1000000) : repOk d := by
  obtain ⟨h1, h2, h3⟩ := sm_show d h
  refine ⟨h1, h2, hd, ?_⟩
  have := PyData.shown_le 13 (by decide) d h3
  have e : sizeLine = 16777216 := by decide
  omega
theorem repr_ok {μ : Mu} {x : Val} {d : PyData} (hx : datM μ x = some d) (h : repOk d) : reprM [x] μ = .ok (.str d.shown) μ := by
  unfold reprM
  simp only [hx]
  rw [if_pos h]
end Wn
/-! the law's level: methods of dicts -/
namespace Wn
open PySem PySem.Spec PyProof.Rows L2 LamX He
def dctV (x : Val) (μ : Mu) : Option (List (Key × Val)) := match x with
  | .loc n => dctOf μ n
  | _ => none
def mDm (f : Val → Val → Mu → R Val) (o k : ME) : ME := fun ρ μ => (o ρ μ).bind fun x μ => match dctV x μ with
  | some _ => (k ρ μ).bind fun y μ => f x y μ
  | none => .no
def popDM : Val → Val → Mu → R Val
  | .loc n, y, μ => match μ.ob n, keyOf y with
    | some (.dct kvs), some k => match kGet kvs k with
      | some v => .ok v (μ.put n (.dct (kDrop kvs k)))
      | none => .no
    | _, _ => .no
  | _, _, _ => .no
def getDM : Val → Val → Mu → R Val
  | .loc n, y, μ => match dctOf μ n, keyOf y with
    | some kvs, some k => .ok ((kGet kvs k).getD .non) μ
    | _, _ => .no
  | _, _, _ => .no
section
variable {X : Cx} {E : XK} {o e : Expr} {apos cpos : Pos} {mo me : ME}
theorem pm_dpop (ho : PM X E o mo) (he : PM X E e me) (m : M1 X o "pop" apos e cpos := by exact ⟨rfl, rfl, rfl, rfl⟩) : PM X E (.Call (.Attribute o "pop" apos) [e] [] cpos) (mDm popDM mo me) :=
  PE.imp (pe_dpop1 ho he m) fun σ H Q ⟨w, ρ, μ, S, EN, hp⟩ => ⟨w, ρ, μ, S, EN, Post.bind hp fun x μ1 w1 H1 u1 S1 r1 g1 h1 => by
    unfold dctV at h1
    split at h1
    · rename_i kv0 hd
      split at hd
      · rename_i n
        cases r1 with
        | loc hn =>
        obtain ⟨us0, d1, d2, d3⟩ := dctOf_rd S1 hd
        refine ⟨_, rfl, .inl ⟨_, d1⟩, w1, ρ, μ1, S1, EN.grow g1, Post.bind h1 fun y μ2 w2 H2 u2 S2 r2 g2 h2 => ?_⟩
        have ea : w2.ad n = w1.ad n := g2.ad n hn
        unfold popDM at h2
        simp only at h2
        split at h2
        · rename_i kvs k hob hk
          split at h2
          · rename_i v hv
            obtain ⟨us, q1, q2, q3⟩ := S2.ok _ _ hob
            have ek := keyOf_kV hk r2
            subst ek
            rcases kGet_rel (k := k) q2 q3 with ⟨v', u', e1, e2, e3⟩ | ⟨e1, e2⟩
            · rw [hv] at e1
              cases e1
              obtain ⟨p1, p2⟩ := kDrop_rel (k := k) q2 q3
              obtain ⟨S4, g4⟩ := S2.setD hob p1 p2
              rw [← ea]
              exact ⟨us, k, u', q1, rfl, e2, h2 w2 _ u' S4 (VR.grow g4 e3) g4⟩
            · rw [hv] at e1
              cases e1
          · exact h2.elim
        · exact h2.elim
      · cases hd
    · exact h1.elim⟩
theorem pm_dget1 (hu : X.A.units + 1 < cLine) (ho : PM X E o mo) (he : PM X E e me) (m : M1 X o "get" apos e cpos := by exact ⟨rfl, rfl, rfl, rfl⟩) : PM X E (.Call (.Attribute o "get" apos) [e] [] cpos) (mDm getDM mo me) :=
  PE.imp (pe_dget1 hu ho he m) fun σ H Q ⟨w, ρ, μ, S, EN, hp⟩ => ⟨w, ρ, μ, S, EN, Post.bind hp fun x μ1 w1 H1 u1 S1 r1 g1 h1 => by
    unfold dctV at h1
    split at h1
    · rename_i kv0 hd
      split at hd
      · rename_i n
        cases r1 with
        | loc hn =>
        obtain ⟨us0, d1, d2, d3⟩ := dctOf_rd S1 hd
        refine ⟨_, rfl, .inl ⟨_, d1⟩, w1, ρ, μ1, S1, EN.grow g1, Post.bind h1 fun y μ2 w2 H2 u2 S2 r2 g2 h2 => ?_⟩
        have ea : w2.ad n = w1.ad n := g2.ad n hn
        unfold getDM at h2
        simp only at h2
        split at h2
        · rename_i kvs k hob hk
          obtain ⟨us, q1, q2, q3⟩ := dctOf_rd S2 hob
          have ek := keyOf_kV hk r2
          subst ek
          have dg : DGet H2 (w2.ad n) (kV k) (valV us k) := .inl ⟨us, k, q1, rfl, rfl⟩
          rw [ea] at dg
          refine ⟨_, dg, ?_⟩
          rcases kGet_rel (k := k) q2 q3 with ⟨v', u', e1, e2, e3⟩ | ⟨e1, e2⟩
          · rw [e1] at h2
            rw [e2]
            exact h2 w2 H2 u' S2 e3 .refl
          · rw [e1] at h2
            rw [e2]
            exact h2 w2 H2 _ S2 .non .refl
        · exact h2.elim
      · cases hd
    · exact h1.elim⟩
end
end Wn
/-! the law's level: dict displays -/
namespace Wn
open PySem PySem.Spec PyProof.Rows L2 LamX He
def mPrs : List (ME × ME) → Rho → Mu → R (List (Val × Val))
  | [], _, μ => .ok [] μ
  | (a, b) :: r, ρ, μ => (a ρ μ).bind fun x μ => (b ρ μ).bind fun y μ => (mPrs r ρ μ).bind fun ps μ => .ok ((x, y) :: ps) μ
def kvOf : List (Val × Val) → Option (List (Key × Val))
  | [] => some []
  | (x, y) :: r => match keyOf x, kvOf r with
    | some k, some l => some ((k, y) :: l)
    | _, _ => none
def mDisp (prs : List (ME × ME)) : ME := fun ρ μ => (mPrs prs ρ (μ.new (.dct []))).bind fun ps μ1 => match kvOf ps, μ1.ob μ.nx with
  | some kvs, some (.dct []) => if (kvs.map (·.1)).Nodup ∧ kvs.length ≤ 15 then .ok (.loc μ.nx) (μ1.put μ.nx (.dct kvs)) else .no
  | _, _ => .no
def relP (K : PySem.W.Frag) : Rel (List (Val × Val)) (List (V × V)) := fun w b H ps us => VRs K w.ad b H (ps.map (·.1)) (us.map (·.1)) ∧ VRs K w.ad b H (ps.map (·.2)) (us.map (·.2))
theorem tPairs_of {K : PySem.W.Frag} {E : XK} : ∀ (prs : List (ME × ME)) (σ : L2.St) (H : Hp) (Q : List (V × V) → Hp → Prop), tM K (relP K) E (mPrs prs) σ H Q → tPairs (prs.map fun p => (tM K (relE K) E p.1, tM K (relE K) E p.2)) σ H Q
  | [], σ, H, Q, ⟨w, ρ, μ, S, EN, hp⟩ => hp w H [] S ⟨.nil, .nil⟩ .refl
  | (a, b) :: r, σ, H, Q, ⟨w, ρ, μ, S, EN, hp⟩ => ⟨w, ρ, μ, S, EN, Post.bind hp fun x μ1 w1 H1 u1 S1 r1 g1 h1 => ⟨w1, ρ, μ1, S1, EN.grow g1, Post.bind h1 fun y μ2 w2 H2 u2 S2 r2 g2 h2 =>
      tPairs_of r σ H2 _ ⟨w2, ρ, μ2, S2, (EN.grow g1).grow g2, Post.bind h2 fun ps μ3 w3 H3 us S3 r3 g3 h3 => h3 w3 H3 ((u1, u2) :: us) S3 ⟨.cons (VR.grow g3 (VR.grow g2 r1)) r3.1, .cons (VR.grow g3 r2) r3.2⟩ .refl⟩⟩⟩
theorem kvOf_rel {K : PySem.W.Frag} {ad : Nat → Addr} {b : Nat} {H : Hp} : ∀ {ps : List (Val × Val)} {us : List (V × V)} {kvs : List (Key × Val)}, kvOf ps = some kvs → VRs K ad b H (ps.map (·.1)) (us.map (·.1)) → VRs K ad b H (ps.map (·.2)) (us.map (·.2)) →
    ∃ ks : List (Key × V), us = ks.map (fun kv => (kV kv.1, kv.2)) ∧ ks.map (·.1) = kvs.map (·.1) ∧ VRs K ad b H (kvs.map (·.2)) (ks.map (·.2))
  | [], [], kvs, h, _, _ => by
    cases h
    exact ⟨[], rfl, rfl, .nil⟩
  | [], _ :: _, kvs, h, r, _ => by cases r
  | (x, y) :: ps, [], kvs, h, r, _ => by cases r
  | (x, y) :: ps, (u, v) :: us, kvs, h, r, s => by
    rw [kvOf] at h
    split at h
    · rename_i k l h1 h2
      cases h
      cases r with
      | cons r1 r2 =>
        cases s with
        | cons s1 s2 =>
          obtain ⟨ks, e1, e2, e3⟩ := kvOf_rel h2 r2 s2
          refine ⟨(k, v) :: ks, ?_, ?_, .cons s1 e3⟩
          · rw [List.map_cons, ← e1]
            show (u, v) :: us = (kV k, v) :: us
            have e : u = kV k := keyOf_kV h1 r1
            rw [e]
          · rw [List.map_cons, List.map_cons, e2]
    · cases h
section
variable {X : Cx} {E : XK} {pos : Pos}
def PMP (X : Cx) (E : XK) (pos : Pos) (keys : List (Option Expr)) (vals : List Expr) (prs : List (ME × ME)) : Prop := PPs X pos keys vals (prs.map fun p => (tM X.K (relE X.K) E p.1, tM X.K (relE X.K) E p.2))
theorem pmp_nil : PMP X E pos [] [] [] := pps_nil
theorem pmp_cons {k v : Expr} {ks : List (Option Expr)} {vs : List Expr} {a b : ME} {prs : List (ME × ME)} (hk : PM X E k a) (hv : PM X E v b) (hr : PMP X E pos ks vs prs) : PMP X E pos (some k :: ks) (v :: vs) ((a, b) :: prs) := pps_cons hk hv hr
theorem pm_disp {keys : List (Option Expr)} {vals : List Expr} {prs : List (ME × ME)} (h : PMP X E pos keys vals prs) (hall : keys.all (·.isSome) = true := by rfl) (hl : keys.length = vals.length := by rfl) (h0 : keys ≠ [] := by exact fun z => nomatch z) (h15 : keys.length ≤ 15 := by decide) : PM X E (.Dict keys vals pos) (mDisp prs) :=
  PE.imp (pe_disp h hall hl h0 h15) fun σ H Q ⟨w, ρ, μ, S, EN, hp⟩ => fun p np => by
    obtain ⟨w0, S0, g0, e0⟩ := S.newD np (kvs := []) (us := []) rfl .nil
    unfold mDisp at hp
    have hp' := Post.grow hp g0
    refine tPairs_of prs σ _ _ ⟨w0, ρ, μ.new (.dct []), S0, EN.grow g0, Post.bind hp' fun ps μ1 w1 H1 us S1 r1 g1 h1 => ?_⟩
    split at h1
    · rename_i kvs hk hob
      split at h1
      · rename_i hc
        obtain ⟨us0, q1, q2, q3⟩ := S1.ok _ _ hob
        have ea : w1.ad μ.nx = p := (g1.ad μ.nx (Nat.lt_succ_self _)).trans e0
        have e2 : us0 = [] := List.map_eq_nil_iff.mp q2
        subst e2
        obtain ⟨ks, k1, k2, k3⟩ := kvOf_rel hk r1.1 r1.2
        obtain ⟨S4, g4⟩ := S1.setD hob k2 k3
        rw [ea] at q1 S4 g4
        have hm : mergeK [] ks = ks := by
          have := mergeK_nd ks [] (by rw [List.nil_append, k2]; exact hc.1)
          rw [List.nil_append] at this
          exact this
        have hlen : ks.length = kvs.length := by
          have := congrArg List.length k2
          simpa using this
        refine ⟨q1, ks, k1, by rw [hlen]; exact hc.2, ?_⟩
        rw [hm]
        refine h1 w1 _ _ S4 ?_ g4
        rw [← ea]
        exact VR.loc (S1.lt hob)
      · exact h1.elim
    · exact h1.elim
end
end Wn
namespace Wn
open PySem PySem.Spec PyProof.Rows L2 LamX He

/-! ### the text by places -/
def top (i : Nat) : Stmt := PySem.Challenge.pw_waitnumbers_k07_keys_of_registrations.main.body.getD i (.Pass ⟨0, 0, 0, 0⟩)
abbrev s_NoProcess___init__ : Stmt := inClass (top 2) 0
abbrev s_NotOpen___init__ : Stmt := inClass (top 3) 0
abbrev s_NoNumber___init__ : Stmt := inClass (top 4) 0
abbrev s_NotRegistered___init__ : Stmt := inClass (top 5) 0
abbrev s_NotASource___init__ : Stmt := inClass (top 6) 0
abbrev s_NotASet___init__ : Stmt := inClass (top 7) 0
abbrev s_BadCount___init__ : Stmt := inClass (top 8) 0
abbrev s_BadLabel___init__ : Stmt := inClass (top 9) 0
abbrev s_BadWord___init__ : Stmt := inClass (top 10) 0
abbrev s_BadLimit___init__ : Stmt := inClass (top 11) 0
abbrev s_Full___init__ : Stmt := inClass (top 12) 0
abbrev s_NoRoom___init__ : Stmt := inClass (top 13) 0
abbrev s_Registered___init__ : Stmt := inClass (top 14) 0
abbrev s_Taken___init__ : Stmt := inClass (top 15) 0
abbrev s_is_integer : Stmt := top 22
abbrev s_is_between : Stmt := top 23
abbrev s_Source___init__ : Stmt := inClass (top 24) 0
abbrev s_Source_kind : Stmt := inClass (top 24) 1
abbrev s_Source_is_ready : Stmt := inClass (top 24) 2
abbrev s_Source_taken : Stmt := inClass (top 24) 3
abbrev s_Entry___init__ : Stmt := inClass (top 25) 0
abbrev s_WaitSet___init__ : Stmt := inClass (top 26) 0
abbrev s_WaitSet_kind : Stmt := inClass (top 26) 1
abbrev s_WaitSet_keyed : Stmt := inClass (top 26) 2
abbrev s_WaitSet_labelled : Stmt := inClass (top 26) 3
abbrev s_WaitSet_append_pending : Stmt := inClass (top 26) 4
abbrev s_WaitSet_drop : Stmt := inClass (top 26) 5
abbrev s_WaitSet_forget : Stmt := inClass (top 26) 6
abbrev s_look_count : Stmt := top 32
abbrev s_look_word : Stmt := top 33
abbrev s_System___init__ : Stmt := inClass (top 34) 2
abbrev s_System_limits : Stmt := inClass (top 34) 4
abbrev s_System_alive : Stmt := inClass (top 34) 5
abbrev s_System_table_of : Stmt := inClass (top 34) 6
abbrev s_System_serial_at : Stmt := inClass (top 34) 7
abbrev s_System_source_at : Stmt := inClass (top 34) 8
abbrev s_System_set_at : Stmt := inClass (top 34) 9
abbrev s_System_holders : Stmt := inClass (top 34) 10
abbrev s_System_name_of : Stmt := inClass (top 34) 11
abbrev s_System_set_serials : Stmt := inClass (top 34) 13
abbrev s_System_lowest_free : Stmt := inClass (top 34) 15
abbrev s_System_placed : Stmt := inClass (top 34) 16
abbrev s_System_new_source : Stmt := inClass (top 34) 17
abbrev s_System_new_set : Stmt := inClass (top 34) 18
abbrev s_System_copy : Stmt := inClass (top 34) 19
abbrev s_System_close : Stmt := inClass (top 34) 20
abbrev s_System_fork : Stmt := inClass (top 34) 21
abbrev s_System_read : Stmt := inClass (top 34) 26
abbrev s_System_add : Stmt := inClass (top 34) 27
abbrev s_System_keyed_entry : Stmt := inClass (top 34) 28
abbrev s_System_change : Stmt := inClass (top 34) 29
abbrev s_System_remove : Stmt := inClass (top 34) 30
abbrev s_System_numbers : Stmt := inClass (top 34) 32
abbrev s_System_same : Stmt := inClass (top 34) 33
abbrev s_System_units : Stmt := inClass (top 34) 34
abbrev s_System_name : Stmt := inClass (top 34) 35
abbrev s_System_registrations : Stmt := inClass (top 34) 37
abbrev s_System___eq__ : Stmt := inClass (top 34) 44
abbrev s_System___len__ : Stmt := inClass (top 34) 45
abbrev s_System___contains__ : Stmt := inClass (top 34) 46
abbrev s_System___repr__ : Stmt := inClass (top 34) 47
abbrev s_picture_of : Stmt := top 35
abbrev s__law_bag : Stmt := top 37
abbrev s__law_take : Stmt := top 38
abbrev s__law_of : Stmt := top 39
abbrev s__law_outcome : Stmt := top 40
abbrev s__law_key : Stmt := top 41
abbrev s__law_added : Stmt := top 42
abbrev s__law_done : Stmt := top 43
abbrev s__law_turned : Stmt := top 44
abbrev s_law : Stmt := top 45
/-! ### what the walk asks of the top -/
structure Tx (K : PySem.W.Frag) (mg : Str → Option Value) : Prop where
  g_BadCount : mg "BadCount" = some (.ref (ga K "BadCount"))
  g_BadLabel : mg "BadLabel" = some (.ref (ga K "BadLabel"))
  g_BadLimit : mg "BadLimit" = some (.ref (ga K "BadLimit"))
  g_BadWord : mg "BadWord" = some (.ref (ga K "BadWord"))
  t_EDGE : ∃ t, mg "EDGE" = some (.str "edge" t)
  g_Entry : mg "Entry" = some (.ref (ga K "Entry"))
  g_Full : mg "Full" = some (.ref (ga K "Full"))
  i_LEAST_NUMBERS : ∃ t, mg "LEAST_NUMBERS" = some (.int 3 t)
  i_LEAST_PROCESSES : ∃ t, mg "LEAST_PROCESSES" = some (.int 2 t)
  t_LEVEL : ∃ t, mg "LEVEL" = some (.str "level" t)
  i_MOST_COUNT : ∃ t, mg "MOST_COUNT" = some (.int 1000000 t)
  i_MOST_LABEL : ∃ t, mg "MOST_LABEL" = some (.int 999999 t)
  g_NoNumber : mg "NoNumber" = some (.ref (ga K "NoNumber"))
  g_NoProcess : mg "NoProcess" = some (.ref (ga K "NoProcess"))
  g_NoRoom : mg "NoRoom" = some (.ref (ga K "NoRoom"))
  g_NotASet : mg "NotASet" = some (.ref (ga K "NotASet"))
  g_NotASource : mg "NotASource" = some (.ref (ga K "NotASource"))
  g_NotOpen : mg "NotOpen" = some (.ref (ga K "NotOpen"))
  g_NotRegistered : mg "NotRegistered" = some (.ref (ga K "NotRegistered"))
  t_ONCE : ∃ t, mg "ONCE" = some (.str "once" t)
  g_Registered : mg "Registered" = some (.ref (ga K "Registered"))
  t_SET : ∃ t, mg "SET" = some (.str "set" t)
  t_SOURCE : ∃ t, mg "SOURCE" = some (.str "source" t)
  g_Source : mg "Source" = some (.ref (ga K "Source"))
  g_System : mg "System" = some (.ref (ga K "System"))
  g_Taken : mg "Taken" = some (.ref (ga K "Taken"))
  g_WaitSet : mg "WaitSet" = some (.ref (ga K "WaitSet"))
  g__law_added : mg "_law_added" = some (.ref (ga K "_law_added"))
  g__law_bag : mg "_law_bag" = some (.ref (ga K "_law_bag"))
  g__law_done : mg "_law_done" = some (.ref (ga K "_law_done"))
  g__law_key : mg "_law_key" = some (.ref (ga K "_law_key"))
  g__law_of : mg "_law_of" = some (.ref (ga K "_law_of"))
  g__law_outcome : mg "_law_outcome" = some (.ref (ga K "_law_outcome"))
  g__law_take : mg "_law_take" = some (.ref (ga K "_law_take"))
  g__law_turned : mg "_law_turned" = some (.ref (ga K "_law_turned"))
  free_abs : mg "abs" = none
  free_bool : mg "bool" = none
  free_enumerate : mg "enumerate" = none
  free_int : mg "int" = none
  g_is_between : mg "is_between" = some (.ref (ga K "is_between"))
  g_is_integer : mg "is_integer" = some (.ref (ga K "is_integer"))
  free_isinstance : mg "isinstance" = none
  g_law : mg "law" = some (.ref (ga K "law"))
  free_len : mg "len" = none
  free_list : mg "list" = none
  g_look_count : mg "look_count" = some (.ref (ga K "look_count"))
  g_look_word : mg "look_word" = some (.ref (ga K "look_word"))
  free_max : mg "max" = none
  free_min : mg "min" = none
  g_picture_of : mg "picture_of" = some (.ref (ga K "picture_of"))
  free_range : mg "range" = none
  free_repr : mg "repr" = none
  free_sorted : mg "sorted" = none
  free_str : mg "str" = none
  x_NoProcess : XT K "NoProcess" "LookupError" "LookupError.__new__" "LookupError.__init__" [.type "LookupError", .type "Exception", .type "BaseException", .type "object"] ["caption", "process"]
  o_NoProcess : PySem.W.mroIn K (ga K "NoProcess") (.type "object") = some true
  x_NotOpen : XT K "NotOpen" "LookupError" "LookupError.__new__" "LookupError.__init__" [.type "LookupError", .type "Exception", .type "BaseException", .type "object"] ["caption", "number"]
  o_NotOpen : PySem.W.mroIn K (ga K "NotOpen") (.type "object") = some true
  x_NoNumber : XT K "NoNumber" "LookupError" "LookupError.__new__" "LookupError.__init__" [.type "LookupError", .type "Exception", .type "BaseException", .type "object"] ["caption", "number"]
  o_NoNumber : PySem.W.mroIn K (ga K "NoNumber") (.type "object") = some true
  x_NotRegistered : XT K "NotRegistered" "LookupError" "LookupError.__new__" "LookupError.__init__" [.type "LookupError", .type "Exception", .type "BaseException", .type "object"] ["caption", "number"]
  o_NotRegistered : PySem.W.mroIn K (ga K "NotRegistered") (.type "object") = some true
  x_NotASource : XT K "NotASource" "TypeError" "TypeError.__new__" "TypeError.__init__" [.type "TypeError", .type "Exception", .type "BaseException", .type "object"] ["caption", "number"]
  o_NotASource : PySem.W.mroIn K (ga K "NotASource") (.type "object") = some true
  x_NotASet : XT K "NotASet" "TypeError" "TypeError.__new__" "TypeError.__init__" [.type "TypeError", .type "Exception", .type "BaseException", .type "object"] ["caption", "number"]
  o_NotASet : PySem.W.mroIn K (ga K "NotASet") (.type "object") = some true
  x_BadCount : XT K "BadCount" "ValueError" "ValueError.__new__" "ValueError.__init__" [.type "ValueError", .type "Exception", .type "BaseException", .type "object"] ["caption", "count"]
  o_BadCount : PySem.W.mroIn K (ga K "BadCount") (.type "object") = some true
  x_BadLabel : XT K "BadLabel" "ValueError" "ValueError.__new__" "ValueError.__init__" [.type "ValueError", .type "Exception", .type "BaseException", .type "object"] ["caption", "label"]
  o_BadLabel : PySem.W.mroIn K (ga K "BadLabel") (.type "object") = some true
  x_BadWord : XT K "BadWord" "ValueError" "ValueError.__new__" "ValueError.__init__" [.type "ValueError", .type "Exception", .type "BaseException", .type "object"] ["caption", "word"]
  o_BadWord : PySem.W.mroIn K (ga K "BadWord") (.type "object") = some true
  x_BadLimit : XT K "BadLimit" "ValueError" "ValueError.__new__" "ValueError.__init__" [.type "ValueError", .type "Exception", .type "BaseException", .type "object"] ["caption", "limit"]
  o_BadLimit : PySem.W.mroIn K (ga K "BadLimit") (.type "object") = some true
  x_Full : XT K "Full" "OverflowError" "OverflowError.__new__" "OverflowError.__init__" [.type "OverflowError", .type "ArithmeticError", .type "Exception", .type "BaseException", .type "object"] ["caption", "process"]
  o_Full : PySem.W.mroIn K (ga K "Full") (.type "object") = some true
  x_NoRoom : XT K "NoRoom" "OverflowError" "OverflowError.__new__" "OverflowError.__init__" [.type "OverflowError", .type "ArithmeticError", .type "Exception", .type "BaseException", .type "object"] ["caption"]
  o_NoRoom : PySem.W.mroIn K (ga K "NoRoom") (.type "object") = some true
  x_Registered : XT K "Registered" "RuntimeError" "RuntimeError.__new__" "RuntimeError.__init__" [.type "RuntimeError", .type "Exception", .type "BaseException", .type "object"] ["caption", "number"]
  o_Registered : PySem.W.mroIn K (ga K "Registered") (.type "object") = some true
  x_Taken : XT K "Taken" "RuntimeError" "RuntimeError.__new__" "RuntimeError.__init__" [.type "RuntimeError", .type "Exception", .type "BaseException", .type "object"] ["caption", "label"]
  o_Taken : PySem.W.mroIn K (ga K "Taken") (.type "object") = some true
  c_Source : Cls K (ga K "Source")
  ci_Source : PySem.W.findIn K (.ref (ga K "Source")) "__class__" = some (some (.builtin "object.__class__"))
  o_Source : PySem.W.mroIn K (ga K "Source") (.type "object") = some true
  n_Source_unread : NoAttr K (ga K "Source") "unread"
  n_Source_finished : NoAttr K (ga K "Source") "finished"
  k_Source : Mk K (ga K "Source") (mA "Source" "__init__" K)
  c_Entry : Cls K (ga K "Entry")
  ci_Entry : PySem.W.findIn K (.ref (ga K "Entry")) "__class__" = some (some (.builtin "object.__class__"))
  o_Entry : PySem.W.mroIn K (ga K "Entry") (.type "object") = some true
  n_Entry_number : NoAttr K (ga K "Entry") "number"
  n_Entry_serial : NoAttr K (ga K "Entry") "serial"
  n_Entry_label : NoAttr K (ga K "Entry") "label"
  n_Entry_word : NoAttr K (ga K "Entry") "word"
  n_Entry_armed : NoAttr K (ga K "Entry") "armed"
  k_Entry : Mk K (ga K "Entry") (mA "Entry" "__init__" K)
  c_WaitSet : Cls K (ga K "WaitSet")
  ci_WaitSet : PySem.W.findIn K (.ref (ga K "WaitSet")) "__class__" = some (some (.builtin "object.__class__"))
  o_WaitSet : PySem.W.mroIn K (ga K "WaitSet") (.type "object") = some true
  n_WaitSet_entries : NoAttr K (ga K "WaitSet") "entries"
  n_WaitSet_row : NoAttr K (ga K "WaitSet") "row"
  k_WaitSet : Mk K (ga K "WaitSet") (mA "WaitSet" "__init__" K)
  c_System : Cls K (ga K "System")
  ci_System : PySem.W.findIn K (.ref (ga K "System")) "__class__" = some (some (.builtin "object.__class__"))
  o_System : PySem.W.mroIn K (ga K "System") (.type "object") = some true
  n_System_process_limit : NoAttr K (ga K "System") "process_limit"
  n_System_number_limit : NoAttr K (ga K "System") "number_limit"
  n_System_tables : NoAttr K (ga K "System") "tables"
  n_System_things : NoAttr K (ga K "System") "things"
  n_System_serials_made : NoAttr K (ga K "System") "serials_made"
  k_System : Mk K (ga K "System") (mA "System" "__init__" K)
  v_System_MOST_PROCESSES : ClX.CRead K (ga K "System") (.type "type") ∧ ∃ u, ClX.CVal K (ga K "System") (.type "type") "MOST_PROCESSES" (Dv.v K (.int 6)) u
  v_System_MOST_NUMBERS : ClX.CRead K (ga K "System") (.type "type") ∧ ∃ u, ClX.CVal K (ga K "System") (.type "type") "MOST_NUMBERS" (Dv.v K (.int 8)) u
  p_Source_kind : PropOf K (ga K "Source") "kind" (mA "Source" "kind" K) (pA "Source" "kind" K)
  p_Source_is_ready : PropOf K (ga K "Source") "is_ready" (mA "Source" "is_ready" K) (pA "Source" "is_ready" K)
  m_Source_taken : Meth K (ga K "Source") "taken" (mA "Source" "taken" K)
  p_WaitSet_kind : PropOf K (ga K "WaitSet") "kind" (mA "WaitSet" "kind" K) (pA "WaitSet" "kind" K)
  m_WaitSet_keyed : Meth K (ga K "WaitSet") "keyed" (mA "WaitSet" "keyed" K)
  m_WaitSet_labelled : Meth K (ga K "WaitSet") "labelled" (mA "WaitSet" "labelled" K)
  m_WaitSet_append_pending : Meth K (ga K "WaitSet") "append_pending" (mA "WaitSet" "append_pending" K)
  m_WaitSet_drop : Meth K (ga K "WaitSet") "drop" (mA "WaitSet" "drop" K)
  m_WaitSet_forget : Meth K (ga K "WaitSet") "forget" (mA "WaitSet" "forget" K)
  p_System_limits : PropOf K (ga K "System") "limits" (mA "System" "limits" K) (pA "System" "limits" K)
  m_System_alive : Meth K (ga K "System") "alive" (mA "System" "alive" K)
  m_System_table_of : Meth K (ga K "System") "table_of" (mA "System" "table_of" K)
  m_System_serial_at : Meth K (ga K "System") "serial_at" (mA "System" "serial_at" K)
  m_System_source_at : Meth K (ga K "System") "source_at" (mA "System" "source_at" K)
  m_System_set_at : Meth K (ga K "System") "set_at" (mA "System" "set_at" K)
  m_System_holders : Meth K (ga K "System") "holders" (mA "System" "holders" K)
  m_System_name_of : Meth K (ga K "System") "name_of" (mA "System" "name_of" K)
  m_System_set_serials : Meth K (ga K "System") "set_serials" (mA "System" "set_serials" K)
  m_System_lowest_free : Meth K (ga K "System") "lowest_free" (mA "System" "lowest_free" K)
  m_System_placed : Meth K (ga K "System") "placed" (mA "System" "placed" K)
  m_System_new_source : Meth K (ga K "System") "new_source" (mA "System" "new_source" K)
  m_System_new_set : Meth K (ga K "System") "new_set" (mA "System" "new_set" K)
  m_System_copy : Meth K (ga K "System") "copy" (mA "System" "copy" K)
  m_System_close : Meth K (ga K "System") "close" (mA "System" "close" K)
  m_System_fork : Meth K (ga K "System") "fork" (mA "System" "fork" K)
  m_System_read : Meth K (ga K "System") "read" (mA "System" "read" K)
  m_System_add : Meth K (ga K "System") "add" (mA "System" "add" K)
  m_System_keyed_entry : Meth K (ga K "System") "keyed_entry" (mA "System" "keyed_entry" K)
  m_System_change : Meth K (ga K "System") "change" (mA "System" "change" K)
  m_System_remove : Meth K (ga K "System") "remove" (mA "System" "remove" K)
  m_System_numbers : Meth K (ga K "System") "numbers" (mA "System" "numbers" K)
  m_System_same : Meth K (ga K "System") "same" (mA "System" "same" K)
  m_System_units : Meth K (ga K "System") "units" (mA "System" "units" K)
  m_System_name : Meth K (ga K "System") "name" (mA "System" "name" K)
  m_System_registrations : Meth K (ga K "System") "registrations" (mA "System" "registrations" K)
  m_System___eq__ : Meth K (ga K "System") "__eq__" (mA "System" "__eq__" K)
  m_System___len__ : Meth K (ga K "System") "__len__" (mA "System" "__len__" K)
  m_System___contains__ : Meth K (ga K "System") "__contains__" (mA "System" "__contains__" K)
  m_System___repr__ : Meth K (ga K "System") "__repr__" (mA "System" "__repr__" K)
  bm_System_name_of : PySem.W.specialIn K (.ref (mA "System" "name_of" K)) "__get__" = some (some (.builtin "function.__get__")) ∧ PySem.W.takesIn K (.ref (mA "System" "name_of" K)) = some false ∧ PySem.W.fnIn K (mA "System" "name_of" K) = true
  q_Source_Source : PySem.W.kitOne K (.ref (ga K "Source")) (.ref (ga K "Source")) = some true
  q_Entry_Source : PySem.W.kitOne K (.ref (ga K "Entry")) (.ref (ga K "Source")) = some false
  q_WaitSet_Source : PySem.W.kitOne K (.ref (ga K "WaitSet")) (.ref (ga K "Source")) = some false
  q_System_Source : PySem.W.kitOne K (.ref (ga K "System")) (.ref (ga K "Source")) = some false
  q_Source_System : PySem.W.kitOne K (.ref (ga K "Source")) (.ref (ga K "System")) = some false
  q_Entry_System : PySem.W.kitOne K (.ref (ga K "Entry")) (.ref (ga K "System")) = some false
  q_WaitSet_System : PySem.W.kitOne K (.ref (ga K "WaitSet")) (.ref (ga K "System")) = some false
  q_System_System : PySem.W.kitOne K (.ref (ga K "System")) (.ref (ga K "System")) = some true
  q_Source_WaitSet : PySem.W.kitOne K (.ref (ga K "Source")) (.ref (ga K "WaitSet")) = some false
  q_Entry_WaitSet : PySem.W.kitOne K (.ref (ga K "Entry")) (.ref (ga K "WaitSet")) = some false
  q_WaitSet_WaitSet : PySem.W.kitOne K (.ref (ga K "WaitSet")) (.ref (ga K "WaitSet")) = some true
  q_System_WaitSet : PySem.W.kitOne K (.ref (ga K "System")) (.ref (ga K "WaitSet")) = some false
  e_NoProcess_NotRegistered : PySem.W.exmOne K (.ref (ga K "NoProcess")) (.ref (ga K "NotRegistered")) = some false
  e_NotOpen_NotRegistered : PySem.W.exmOne K (.ref (ga K "NotOpen")) (.ref (ga K "NotRegistered")) = some false
  e_NoNumber_NotRegistered : PySem.W.exmOne K (.ref (ga K "NoNumber")) (.ref (ga K "NotRegistered")) = some false
  e_NotRegistered_NotRegistered : PySem.W.exmOne K (.ref (ga K "NotRegistered")) (.ref (ga K "NotRegistered")) = some true
  e_NotASource_NotRegistered : PySem.W.exmOne K (.ref (ga K "NotASource")) (.ref (ga K "NotRegistered")) = some false
  e_NotASet_NotRegistered : PySem.W.exmOne K (.ref (ga K "NotASet")) (.ref (ga K "NotRegistered")) = some false
  e_BadCount_NotRegistered : PySem.W.exmOne K (.ref (ga K "BadCount")) (.ref (ga K "NotRegistered")) = some false
  e_BadLabel_NotRegistered : PySem.W.exmOne K (.ref (ga K "BadLabel")) (.ref (ga K "NotRegistered")) = some false
  e_BadWord_NotRegistered : PySem.W.exmOne K (.ref (ga K "BadWord")) (.ref (ga K "NotRegistered")) = some false
  e_BadLimit_NotRegistered : PySem.W.exmOne K (.ref (ga K "BadLimit")) (.ref (ga K "NotRegistered")) = some false
  e_Full_NotRegistered : PySem.W.exmOne K (.ref (ga K "Full")) (.ref (ga K "NotRegistered")) = some false
  e_NoRoom_NotRegistered : PySem.W.exmOne K (.ref (ga K "NoRoom")) (.ref (ga K "NotRegistered")) = some false
  e_Registered_NotRegistered : PySem.W.exmOne K (.ref (ga K "Registered")) (.ref (ga K "NotRegistered")) = some false
  e_Taken_NotRegistered : PySem.W.exmOne K (.ref (ga K "Taken")) (.ref (ga K "NotRegistered")) = some false
  e_NoProcess_Registered : PySem.W.exmOne K (.ref (ga K "NoProcess")) (.ref (ga K "Registered")) = some false
  e_NotOpen_Registered : PySem.W.exmOne K (.ref (ga K "NotOpen")) (.ref (ga K "Registered")) = some false
  e_NoNumber_Registered : PySem.W.exmOne K (.ref (ga K "NoNumber")) (.ref (ga K "Registered")) = some false
  e_NotRegistered_Registered : PySem.W.exmOne K (.ref (ga K "NotRegistered")) (.ref (ga K "Registered")) = some false
  e_NotASource_Registered : PySem.W.exmOne K (.ref (ga K "NotASource")) (.ref (ga K "Registered")) = some false
  e_NotASet_Registered : PySem.W.exmOne K (.ref (ga K "NotASet")) (.ref (ga K "Registered")) = some false
  e_BadCount_Registered : PySem.W.exmOne K (.ref (ga K "BadCount")) (.ref (ga K "Registered")) = some false
  e_BadLabel_Registered : PySem.W.exmOne K (.ref (ga K "BadLabel")) (.ref (ga K "Registered")) = some false
  e_BadWord_Registered : PySem.W.exmOne K (.ref (ga K "BadWord")) (.ref (ga K "Registered")) = some false
  e_BadLimit_Registered : PySem.W.exmOne K (.ref (ga K "BadLimit")) (.ref (ga K "Registered")) = some false
  e_Full_Registered : PySem.W.exmOne K (.ref (ga K "Full")) (.ref (ga K "Registered")) = some false
  e_NoRoom_Registered : PySem.W.exmOne K (.ref (ga K "NoRoom")) (.ref (ga K "Registered")) = some false
  e_Registered_Registered : PySem.W.exmOne K (.ref (ga K "Registered")) (.ref (ga K "Registered")) = some true
  e_Taken_Registered : PySem.W.exmOne K (.ref (ga K "Taken")) (.ref (ga K "Registered")) = some false
  e_NoProcess_Taken : PySem.W.exmOne K (.ref (ga K "NoProcess")) (.ref (ga K "Taken")) = some false
  e_NotOpen_Taken : PySem.W.exmOne K (.ref (ga K "NotOpen")) (.ref (ga K "Taken")) = some false
  e_NoNumber_Taken : PySem.W.exmOne K (.ref (ga K "NoNumber")) (.ref (ga K "Taken")) = some false
  e_NotRegistered_Taken : PySem.W.exmOne K (.ref (ga K "NotRegistered")) (.ref (ga K "Taken")) = some false
  e_NotASource_Taken : PySem.W.exmOne K (.ref (ga K "NotASource")) (.ref (ga K "Taken")) = some false
  e_NotASet_Taken : PySem.W.exmOne K (.ref (ga K "NotASet")) (.ref (ga K "Taken")) = some false
  e_BadCount_Taken : PySem.W.exmOne K (.ref (ga K "BadCount")) (.ref (ga K "Taken")) = some false
  e_BadLabel_Taken : PySem.W.exmOne K (.ref (ga K "BadLabel")) (.ref (ga K "Taken")) = some false
  e_BadWord_Taken : PySem.W.exmOne K (.ref (ga K "BadWord")) (.ref (ga K "Taken")) = some false
  e_BadLimit_Taken : PySem.W.exmOne K (.ref (ga K "BadLimit")) (.ref (ga K "Taken")) = some false
  e_Full_Taken : PySem.W.exmOne K (.ref (ga K "Full")) (.ref (ga K "Taken")) = some false
  e_NoRoom_Taken : PySem.W.exmOne K (.ref (ga K "NoRoom")) (.ref (ga K "Taken")) = some false
  e_Registered_Taken : PySem.W.exmOne K (.ref (ga K "Registered")) (.ref (ga K "Taken")) = some false
  e_Taken_Taken : PySem.W.exmOne K (.ref (ga K "Taken")) (.ref (ga K "Taken")) = some true
  f_NoProcess___init__ : FD K "__init__" "NoProcess.__init__" s_NoProcess___init__ [] [] (mA "NoProcess" "__init__" K)
  f_NotOpen___init__ : FD K "__init__" "NotOpen.__init__" s_NotOpen___init__ [] [] (mA "NotOpen" "__init__" K)
  f_NoNumber___init__ : FD K "__init__" "NoNumber.__init__" s_NoNumber___init__ [] [] (mA "NoNumber" "__init__" K)
  f_NotRegistered___init__ : FD K "__init__" "NotRegistered.__init__" s_NotRegistered___init__ [] [] (mA "NotRegistered" "__init__" K)
  f_NotASource___init__ : FD K "__init__" "NotASource.__init__" s_NotASource___init__ [] [] (mA "NotASource" "__init__" K)
  f_NotASet___init__ : FD K "__init__" "NotASet.__init__" s_NotASet___init__ [] [] (mA "NotASet" "__init__" K)
  f_BadCount___init__ : FD K "__init__" "BadCount.__init__" s_BadCount___init__ [] [] (mA "BadCount" "__init__" K)
  f_BadLabel___init__ : FD K "__init__" "BadLabel.__init__" s_BadLabel___init__ [] [] (mA "BadLabel" "__init__" K)
  f_BadWord___init__ : FD K "__init__" "BadWord.__init__" s_BadWord___init__ [] [] (mA "BadWord" "__init__" K)
  f_BadLimit___init__ : FD K "__init__" "BadLimit.__init__" s_BadLimit___init__ [] [] (mA "BadLimit" "__init__" K)
  f_Full___init__ : FD K "__init__" "Full.__init__" s_Full___init__ [] [] (mA "Full" "__init__" K)
  f_NoRoom___init__ : FD K "__init__" "NoRoom.__init__" s_NoRoom___init__ [] [] (mA "NoRoom" "__init__" K)
  f_Registered___init__ : FD K "__init__" "Registered.__init__" s_Registered___init__ [] [] (mA "Registered" "__init__" K)
  f_Taken___init__ : FD K "__init__" "Taken.__init__" s_Taken___init__ [] [] (mA "Taken" "__init__" K)
  f_is_integer : FD K "is_integer" "is_integer" s_is_integer [] [] (gA "is_integer" K)
  f_is_between : FD K "is_between" "is_between" s_is_between [] [] (gA "is_between" K)
  f_Source___init__ : FD K "__init__" "Source.__init__" s_Source___init__ [.int 0, .bl false] [] (mA "Source" "__init__" K)
  f_Source_kind : FD K "kind" "Source.kind" s_Source_kind [] [] (pA "Source" "kind" K)
  f_Source_is_ready : FD K "is_ready" "Source.is_ready" s_Source_is_ready [] [] (pA "Source" "is_ready" K)
  f_Source_taken : FD K "taken" "Source.taken" s_Source_taken [] [] (mA "Source" "taken" K)
  f_Entry___init__ : FD K "__init__" "Entry.__init__" s_Entry___init__ [.bl true] [] (mA "Entry" "__init__" K)
  f_WaitSet___init__ : FD K "__init__" "WaitSet.__init__" s_WaitSet___init__ [] [] (mA "WaitSet" "__init__" K)
  f_WaitSet_kind : FD K "kind" "WaitSet.kind" s_WaitSet_kind [] [] (pA "WaitSet" "kind" K)
  f_WaitSet_keyed : FD K "keyed" "WaitSet.keyed" s_WaitSet_keyed [] [] (mA "WaitSet" "keyed" K)
  f_WaitSet_labelled : FD K "labelled" "WaitSet.labelled" s_WaitSet_labelled [] [] (mA "WaitSet" "labelled" K)
  f_WaitSet_append_pending : FD K "append_pending" "WaitSet.append_pending" s_WaitSet_append_pending [] [] (mA "WaitSet" "append_pending" K)
  f_WaitSet_drop : FD K "drop" "WaitSet.drop" s_WaitSet_drop [] [] (mA "WaitSet" "drop" K)
  f_WaitSet_forget : FD K "forget" "WaitSet.forget" s_WaitSet_forget [] [] (mA "WaitSet" "forget" K)
  f_look_count : FD K "look_count" "look_count" s_look_count [] [] (gA "look_count" K)
  f_look_word : FD K "look_word" "look_word" s_look_word [] [] (gA "look_word" K)
  f_System___init__ : FD K "__init__" "System.__init__" s_System___init__ [] [("processes", .int 4), ("numbers", .int 8)] (mA "System" "__init__" K)
  f_System_limits : FD K "limits" "System.limits" s_System_limits [] [] (pA "System" "limits" K)
  f_System_alive : FD K "alive" "System.alive" s_System_alive [] [] (mA "System" "alive" K)
  f_System_table_of : FD K "table_of" "System.table_of" s_System_table_of [] [] (mA "System" "table_of" K)
  f_System_serial_at : FD K "serial_at" "System.serial_at" s_System_serial_at [] [] (mA "System" "serial_at" K)
  f_System_source_at : FD K "source_at" "System.source_at" s_System_source_at [] [] (mA "System" "source_at" K)
  f_System_set_at : FD K "set_at" "System.set_at" s_System_set_at [] [] (mA "System" "set_at" K)
  f_System_holders : FD K "holders" "System.holders" s_System_holders [] [] (mA "System" "holders" K)
  f_System_name_of : FD K "name_of" "System.name_of" s_System_name_of [] [] (mA "System" "name_of" K)
  f_System_set_serials : FD K "set_serials" "System.set_serials" s_System_set_serials [] [] (mA "System" "set_serials" K)
  f_System_lowest_free : FD K "lowest_free" "System.lowest_free" s_System_lowest_free [] [] (mA "System" "lowest_free" K)
  f_System_placed : FD K "placed" "System.placed" s_System_placed [] [] (mA "System" "placed" K)
  f_System_new_source : FD K "new_source" "System.new_source" s_System_new_source [] [] (mA "System" "new_source" K)
  f_System_new_set : FD K "new_set" "System.new_set" s_System_new_set [] [] (mA "System" "new_set" K)
  f_System_copy : FD K "copy" "System.copy" s_System_copy [.non] [] (mA "System" "copy" K)
  f_System_close : FD K "close" "System.close" s_System_close [] [] (mA "System" "close" K)
  f_System_fork : FD K "fork" "System.fork" s_System_fork [] [] (mA "System" "fork" K)
  f_System_read : FD K "read" "System.read" s_System_read [.non] [] (mA "System" "read" K)
  f_System_add : FD K "add" "System.add" s_System_add [] [("word", .str "level")] (mA "System" "add" K)
  f_System_keyed_entry : FD K "keyed_entry" "System.keyed_entry" s_System_keyed_entry [] [] (mA "System" "keyed_entry" K)
  f_System_change : FD K "change" "System.change" s_System_change [] [] (mA "System" "change" K)
  f_System_remove : FD K "remove" "System.remove" s_System_remove [] [] (mA "System" "remove" K)
  f_System_numbers : FD K "numbers" "System.numbers" s_System_numbers [] [] (mA "System" "numbers" K)
  f_System_same : FD K "same" "System.same" s_System_same [] [] (mA "System" "same" K)
  f_System_units : FD K "units" "System.units" s_System_units [] [] (mA "System" "units" K)
  f_System_name : FD K "name" "System.name" s_System_name [] [] (mA "System" "name" K)
  f_System_registrations : FD K "registrations" "System.registrations" s_System_registrations [] [] (mA "System" "registrations" K)
  f_System___eq__ : FD K "__eq__" "System.__eq__" s_System___eq__ [] [] (mA "System" "__eq__" K)
  f_System___len__ : FD K "__len__" "System.__len__" s_System___len__ [] [] (mA "System" "__len__" K)
  f_System___contains__ : FD K "__contains__" "System.__contains__" s_System___contains__ [] [] (mA "System" "__contains__" K)
  f_System___repr__ : FD K "__repr__" "System.__repr__" s_System___repr__ [] [] (mA "System" "__repr__" K)
  f_picture_of : FD K "picture_of" "picture_of" s_picture_of [] [] (gA "picture_of" K)
  f__law_bag : FD K "_law_bag" "_law_bag" s__law_bag [] [] (gA "_law_bag" K)
  f__law_take : FD K "_law_take" "_law_take" s__law_take [] [] (gA "_law_take" K)
  f__law_of : FD K "_law_of" "_law_of" s__law_of [] [] (gA "_law_of" K)
  f__law_outcome : FD K "_law_outcome" "_law_outcome" s__law_outcome [] [] (gA "_law_outcome" K)
  f__law_key : FD K "_law_key" "_law_key" s__law_key [] [] (gA "_law_key" K)
  f__law_added : FD K "_law_added" "_law_added" s__law_added [] [] (gA "_law_added" K)
  f__law_done : FD K "_law_done" "_law_done" s__law_done [] [] (gA "_law_done" K)
  f__law_turned : FD K "_law_turned" "_law_turned" s__law_turned [] [] (gA "_law_turned" K)
  f_law : FD K "law" "law" s_law [] [] (gA "law" K)
def fcL : List Fc := [
  .fa (.glo "BadCount"),
  .fa (.glo "BadLabel"),
  .fa (.glo "BadLimit"),
  .fa (.glo "BadWord"),
  .fa (.str "EDGE" "edge"),
  .fa (.glo "Entry"),
  .fa (.glo "Full"),
  .fa (.int "LEAST_NUMBERS" 3),
  .fa (.int "LEAST_PROCESSES" 2),
  .fa (.str "LEVEL" "level"),
  .fa (.int "MOST_COUNT" 1000000),
  .fa (.int "MOST_LABEL" 999999),
  .fa (.glo "NoNumber"),
  .fa (.glo "NoProcess"),
  .fa (.glo "NoRoom"),
  .fa (.glo "NotASet"),
  .fa (.glo "NotASource"),
  .fa (.glo "NotOpen"),
  .fa (.glo "NotRegistered"),
  .fa (.str "ONCE" "once"),
  .fa (.glo "Registered"),
  .fa (.str "SET" "set"),
  .fa (.str "SOURCE" "source"),
  .fa (.glo "Source"),
  .fa (.glo "System"),
  .fa (.glo "Taken"),
  .fa (.glo "WaitSet"),
  .fa (.glo "_law_added"),
  .fa (.glo "_law_bag"),
  .fa (.glo "_law_done"),
  .fa (.glo "_law_key"),
  .fa (.glo "_law_of"),
  .fa (.glo "_law_outcome"),
  .fa (.glo "_law_take"),
  .fa (.glo "_law_turned"),
  .fa (.free "abs"),
  .fa (.free "bool"),
  .fa (.free "enumerate"),
  .fa (.free "int"),
  .fa (.glo "is_between"),
  .fa (.glo "is_integer"),
  .fa (.free "isinstance"),
  .fa (.glo "law"),
  .fa (.free "len"),
  .fa (.free "list"),
  .fa (.glo "look_count"),
  .fa (.glo "look_word"),
  .fa (.free "max"),
  .fa (.free "min"),
  .fa (.glo "picture_of"),
  .fa (.free "range"),
  .fa (.free "repr"),
  .fa (.free "sorted"),
  .fa (.free "str"),
  .exc "NoProcess" [.type "LookupError", .type "Exception", .type "BaseException", .type "object"] "LookupError.__new__" ["caption", "process"],
  .mro "NoProcess",
  .exc "NotOpen" [.type "LookupError", .type "Exception", .type "BaseException", .type "object"] "LookupError.__new__" ["caption", "number"],
  .mro "NotOpen",
  .exc "NoNumber" [.type "LookupError", .type "Exception", .type "BaseException", .type "object"] "LookupError.__new__" ["caption", "number"],
  .mro "NoNumber",
  .exc "NotRegistered" [.type "LookupError", .type "Exception", .type "BaseException", .type "object"] "LookupError.__new__" ["caption", "number"],
  .mro "NotRegistered",
  .exc "NotASource" [.type "TypeError", .type "Exception", .type "BaseException", .type "object"] "TypeError.__new__" ["caption", "number"],
  .mro "NotASource",
  .exc "NotASet" [.type "TypeError", .type "Exception", .type "BaseException", .type "object"] "TypeError.__new__" ["caption", "number"],
  .mro "NotASet",
  .exc "BadCount" [.type "ValueError", .type "Exception", .type "BaseException", .type "object"] "ValueError.__new__" ["caption", "count"],
  .mro "BadCount",
  .exc "BadLabel" [.type "ValueError", .type "Exception", .type "BaseException", .type "object"] "ValueError.__new__" ["caption", "label"],
  .mro "BadLabel",
  .exc "BadWord" [.type "ValueError", .type "Exception", .type "BaseException", .type "object"] "ValueError.__new__" ["caption", "word"],
  .mro "BadWord",
  .exc "BadLimit" [.type "ValueError", .type "Exception", .type "BaseException", .type "object"] "ValueError.__new__" ["caption", "limit"],
  .mro "BadLimit",
  .exc "Full" [.type "OverflowError", .type "ArithmeticError", .type "Exception", .type "BaseException", .type "object"] "OverflowError.__new__" ["caption", "process"],
  .mro "Full",
  .exc "NoRoom" [.type "OverflowError", .type "ArithmeticError", .type "Exception", .type "BaseException", .type "object"] "OverflowError.__new__" ["caption"],
  .mro "NoRoom",
  .exc "Registered" [.type "RuntimeError", .type "Exception", .type "BaseException", .type "object"] "RuntimeError.__new__" ["caption", "number"],
  .mro "Registered",
  .exc "Taken" [.type "RuntimeError", .type "Exception", .type "BaseException", .type "object"] "RuntimeError.__new__" ["caption", "label"],
  .mro "Taken",
  .fa (.cls "Source"),
  .ins "Source",
  .mro "Source",
  .fa (.noat "Source" "unread"),
  .fa (.noat "Source" "finished"),
  .fa (.mkr "Source"),
  .fa (.cls "Entry"),
  .ins "Entry",
  .mro "Entry",
  .fa (.noat "Entry" "number"),
  .fa (.noat "Entry" "serial"),
  .fa (.noat "Entry" "label"),
  .fa (.noat "Entry" "word"),
  .fa (.noat "Entry" "armed"),
  .fa (.mkr "Entry"),
  .fa (.cls "WaitSet"),
  .ins "WaitSet",
  .mro "WaitSet",
  .fa (.noat "WaitSet" "entries"),
  .fa (.noat "WaitSet" "row"),
  .fa (.mkr "WaitSet"),
  .fa (.cls "System"),
  .ins "System",
  .mro "System",
  .fa (.noat "System" "process_limit"),
  .fa (.noat "System" "number_limit"),
  .fa (.noat "System" "tables"),
  .fa (.noat "System" "things"),
  .fa (.noat "System" "serials_made"),
  .fa (.mkr "System"),
  .cval "System" "MOST_PROCESSES" (.int 6),
  .cval "System" "MOST_NUMBERS" (.int 8),
  .prop "Source" "kind",
  .prop "Source" "is_ready",
  .fa (.meth "Source" "taken"),
  .prop "WaitSet" "kind",
  .fa (.meth "WaitSet" "keyed"),
  .fa (.meth "WaitSet" "labelled"),
  .fa (.meth "WaitSet" "append_pending"),
  .fa (.meth "WaitSet" "drop"),
  .fa (.meth "WaitSet" "forget"),
  .prop "System" "limits",
  .fa (.meth "System" "alive"),
  .fa (.meth "System" "table_of"),
  .fa (.meth "System" "serial_at"),
  .fa (.meth "System" "source_at"),
  .fa (.meth "System" "set_at"),
  .fa (.meth "System" "holders"),
  .fa (.meth "System" "name_of"),
  .fa (.meth "System" "set_serials"),
  .fa (.meth "System" "lowest_free"),
  .fa (.meth "System" "placed"),
  .fa (.meth "System" "new_source"),
  .fa (.meth "System" "new_set"),
  .fa (.meth "System" "copy"),
  .fa (.meth "System" "close"),
  .fa (.meth "System" "fork"),
  .fa (.meth "System" "read"),
  .fa (.meth "System" "add"),
  .fa (.meth "System" "keyed_entry"),
  .fa (.meth "System" "change"),
  .fa (.meth "System" "remove"),
  .fa (.meth "System" "numbers"),
  .fa (.meth "System" "same"),
  .fa (.meth "System" "units"),
  .fa (.meth "System" "name"),
  .fa (.meth "System" "registrations"),
  .fa (.meth "System" "__eq__"),
  .fa (.meth "System" "__len__"),
  .fa (.meth "System" "__contains__"),
  .fa (.meth "System" "__repr__"),
  .bmt "System" "name_of",
  .isc "Source" "Source" true,
  .isc "Entry" "Source" false,
  .isc "WaitSet" "Source" false,
  .isc "System" "Source" false,
  .isc "Source" "System" false,
  .isc "Entry" "System" false,
  .isc "WaitSet" "System" false,
  .isc "System" "System" true,
  .isc "Source" "WaitSet" false,
  .isc "Entry" "WaitSet" false,
  .isc "WaitSet" "WaitSet" true,
  .isc "System" "WaitSet" false,
  .fa (.exm "NoProcess" "NotRegistered" false),
  .fa (.exm "NotOpen" "NotRegistered" false),
  .fa (.exm "NoNumber" "NotRegistered" false),
  .fa (.exm "NotRegistered" "NotRegistered" true),
  .fa (.exm "NotASource" "NotRegistered" false),
  .fa (.exm "NotASet" "NotRegistered" false),
  .fa (.exm "BadCount" "NotRegistered" false),
  .fa (.exm "BadLabel" "NotRegistered" false),
  .fa (.exm "BadWord" "NotRegistered" false),
  .fa (.exm "BadLimit" "NotRegistered" false),
  .fa (.exm "Full" "NotRegistered" false),
  .fa (.exm "NoRoom" "NotRegistered" false),
  .fa (.exm "Registered" "NotRegistered" false),
  .fa (.exm "Taken" "NotRegistered" false),
  .fa (.exm "NoProcess" "Registered" false),
  .fa (.exm "NotOpen" "Registered" false),
  .fa (.exm "NoNumber" "Registered" false),
  .fa (.exm "NotRegistered" "Registered" false),
  .fa (.exm "NotASource" "Registered" false),
  .fa (.exm "NotASet" "Registered" false),
  .fa (.exm "BadCount" "Registered" false),
  .fa (.exm "BadLabel" "Registered" false),
  .fa (.exm "BadWord" "Registered" false),
  .fa (.exm "BadLimit" "Registered" false),
  .fa (.exm "Full" "Registered" false),
  .fa (.exm "NoRoom" "Registered" false),
  .fa (.exm "Registered" "Registered" true),
  .fa (.exm "Taken" "Registered" false),
  .fa (.exm "NoProcess" "Taken" false),
  .fa (.exm "NotOpen" "Taken" false),
  .fa (.exm "NoNumber" "Taken" false),
  .fa (.exm "NotRegistered" "Taken" false),
  .fa (.exm "NotASource" "Taken" false),
  .fa (.exm "NotASet" "Taken" false),
  .fa (.exm "BadCount" "Taken" false),
  .fa (.exm "BadLabel" "Taken" false),
  .fa (.exm "BadWord" "Taken" false),
  .fa (.exm "BadLimit" "Taken" false),
  .fa (.exm "Full" "Taken" false),
  .fa (.exm "NoRoom" "Taken" false),
  .fa (.exm "Registered" "Taken" false),
  .fa (.exm "Taken" "Taken" true)]
def fwL : List DefW := [
  ⟨(mA "NoProcess" "__init__"), "__init__", "NoProcess.__init__", s_NoProcess___init__, [], []⟩,
  ⟨(mA "NotOpen" "__init__"), "__init__", "NotOpen.__init__", s_NotOpen___init__, [], []⟩,
  ⟨(mA "NoNumber" "__init__"), "__init__", "NoNumber.__init__", s_NoNumber___init__, [], []⟩,
  ⟨(mA "NotRegistered" "__init__"), "__init__", "NotRegistered.__init__", s_NotRegistered___init__, [], []⟩,
  ⟨(mA "NotASource" "__init__"), "__init__", "NotASource.__init__", s_NotASource___init__, [], []⟩,
  ⟨(mA "NotASet" "__init__"), "__init__", "NotASet.__init__", s_NotASet___init__, [], []⟩,
  ⟨(mA "BadCount" "__init__"), "__init__", "BadCount.__init__", s_BadCount___init__, [], []⟩,
  ⟨(mA "BadLabel" "__init__"), "__init__", "BadLabel.__init__", s_BadLabel___init__, [], []⟩,
  ⟨(mA "BadWord" "__init__"), "__init__", "BadWord.__init__", s_BadWord___init__, [], []⟩,
  ⟨(mA "BadLimit" "__init__"), "__init__", "BadLimit.__init__", s_BadLimit___init__, [], []⟩,
  ⟨(mA "Full" "__init__"), "__init__", "Full.__init__", s_Full___init__, [], []⟩,
  ⟨(mA "NoRoom" "__init__"), "__init__", "NoRoom.__init__", s_NoRoom___init__, [], []⟩,
  ⟨(mA "Registered" "__init__"), "__init__", "Registered.__init__", s_Registered___init__, [], []⟩,
  ⟨(mA "Taken" "__init__"), "__init__", "Taken.__init__", s_Taken___init__, [], []⟩,
  ⟨(gA "is_integer"), "is_integer", "is_integer", s_is_integer, [], []⟩,
  ⟨(gA "is_between"), "is_between", "is_between", s_is_between, [], []⟩,
  ⟨(mA "Source" "__init__"), "__init__", "Source.__init__", s_Source___init__, [.int 0, .bl false], []⟩,
  ⟨(pA "Source" "kind"), "kind", "Source.kind", s_Source_kind, [], []⟩,
  ⟨(pA "Source" "is_ready"), "is_ready", "Source.is_ready", s_Source_is_ready, [], []⟩,
  ⟨(mA "Source" "taken"), "taken", "Source.taken", s_Source_taken, [], []⟩,
  ⟨(mA "Entry" "__init__"), "__init__", "Entry.__init__", s_Entry___init__, [.bl true], []⟩,
  ⟨(mA "WaitSet" "__init__"), "__init__", "WaitSet.__init__", s_WaitSet___init__, [], []⟩,
  ⟨(pA "WaitSet" "kind"), "kind", "WaitSet.kind", s_WaitSet_kind, [], []⟩,
  ⟨(mA "WaitSet" "keyed"), "keyed", "WaitSet.keyed", s_WaitSet_keyed, [], []⟩,
  ⟨(mA "WaitSet" "labelled"), "labelled", "WaitSet.labelled", s_WaitSet_labelled, [], []⟩,
  ⟨(mA "WaitSet" "append_pending"), "append_pending", "WaitSet.append_pending", s_WaitSet_append_pending, [], []⟩,
  ⟨(mA "WaitSet" "drop"), "drop", "WaitSet.drop", s_WaitSet_drop, [], []⟩,
  ⟨(mA "WaitSet" "forget"), "forget", "WaitSet.forget", s_WaitSet_forget, [], []⟩,
  ⟨(gA "look_count"), "look_count", "look_count", s_look_count, [], []⟩,
  ⟨(gA "look_word"), "look_word", "look_word", s_look_word, [], []⟩,
  ⟨(mA "System" "__init__"), "__init__", "System.__init__", s_System___init__, [], [("processes", .int 4), ("numbers", .int 8)]⟩,
  ⟨(pA "System" "limits"), "limits", "System.limits", s_System_limits, [], []⟩,
  ⟨(mA "System" "alive"), "alive", "System.alive", s_System_alive, [], []⟩,
  ⟨(mA "System" "table_of"), "table_of", "System.table_of", s_System_table_of, [], []⟩,
  ⟨(mA "System" "serial_at"), "serial_at", "System.serial_at", s_System_serial_at, [], []⟩,
  ⟨(mA "System" "source_at"), "source_at", "System.source_at", s_System_source_at, [], []⟩,
  ⟨(mA "System" "set_at"), "set_at", "System.set_at", s_System_set_at, [], []⟩,
  ⟨(mA "System" "holders"), "holders", "System.holders", s_System_holders, [], []⟩,
  ⟨(mA "System" "name_of"), "name_of", "System.name_of", s_System_name_of, [], []⟩,
  ⟨(mA "System" "set_serials"), "set_serials", "System.set_serials", s_System_set_serials, [], []⟩,
  ⟨(mA "System" "lowest_free"), "lowest_free", "System.lowest_free", s_System_lowest_free, [], []⟩,
  ⟨(mA "System" "placed"), "placed", "System.placed", s_System_placed, [], []⟩,
  ⟨(mA "System" "new_source"), "new_source", "System.new_source", s_System_new_source, [], []⟩,
  ⟨(mA "System" "new_set"), "new_set", "System.new_set", s_System_new_set, [], []⟩,
  ⟨(mA "System" "copy"), "copy", "System.copy", s_System_copy, [.non], []⟩,
  ⟨(mA "System" "close"), "close", "System.close", s_System_close, [], []⟩,
  ⟨(mA "System" "fork"), "fork", "System.fork", s_System_fork, [], []⟩,
  ⟨(mA "System" "read"), "read", "System.read", s_System_read, [.non], []⟩,
  ⟨(mA "System" "add"), "add", "System.add", s_System_add, [], [("word", .str "level")]⟩,
  ⟨(mA "System" "keyed_entry"), "keyed_entry", "System.keyed_entry", s_System_keyed_entry, [], []⟩,
  ⟨(mA "System" "change"), "change", "System.change", s_System_change, [], []⟩,
  ⟨(mA "System" "remove"), "remove", "System.remove", s_System_remove, [], []⟩,
  ⟨(mA "System" "numbers"), "numbers", "System.numbers", s_System_numbers, [], []⟩,
  ⟨(mA "System" "same"), "same", "System.same", s_System_same, [], []⟩,
  ⟨(mA "System" "units"), "units", "System.units", s_System_units, [], []⟩,
  ⟨(mA "System" "name"), "name", "System.name", s_System_name, [], []⟩,
  ⟨(mA "System" "registrations"), "registrations", "System.registrations", s_System_registrations, [], []⟩,
  ⟨(mA "System" "__eq__"), "__eq__", "System.__eq__", s_System___eq__, [], []⟩,
  ⟨(mA "System" "__len__"), "__len__", "System.__len__", s_System___len__, [], []⟩,
  ⟨(mA "System" "__contains__"), "__contains__", "System.__contains__", s_System___contains__, [], []⟩,
  ⟨(mA "System" "__repr__"), "__repr__", "System.__repr__", s_System___repr__, [], []⟩,
  ⟨(gA "picture_of"), "picture_of", "picture_of", s_picture_of, [], []⟩,
  ⟨(gA "_law_bag"), "_law_bag", "_law_bag", s__law_bag, [], []⟩,
  ⟨(gA "_law_take"), "_law_take", "_law_take", s__law_take, [], []⟩,
  ⟨(gA "_law_of"), "_law_of", "_law_of", s__law_of, [], []⟩,
  ⟨(gA "_law_outcome"), "_law_outcome", "_law_outcome", s__law_outcome, [], []⟩,
  ⟨(gA "_law_key"), "_law_key", "_law_key", s__law_key, [], []⟩,
  ⟨(gA "_law_added"), "_law_added", "_law_added", s__law_added, [], []⟩,
  ⟨(gA "_law_done"), "_law_done", "_law_done", s__law_done, [], []⟩,
  ⟨(gA "_law_turned"), "_law_turned", "_law_turned", s__law_turned, [], []⟩,
  ⟨(gA "law"), "law", "law", s_law, [], []⟩]
def tsL : List Tab := []
def tfL : List Defn := [("_law_done", none)]
theorem tx_of {K : PySem.W.Frag} {mg : Str → Option Value} {w : World} {h : Heap} (X : K.In h) (G : h.Ns mainGlobals mg) (c : SaysW fcL fwL tsL tfL w h K) : Tx K mg where
  g_BadCount := glo_ok X G (c.fact 0 (f := .fa (.glo "BadCount")))
  g_BadLabel := glo_ok X G (c.fact 1 (f := .fa (.glo "BadLabel")))
  g_BadLimit := glo_ok X G (c.fact 2 (f := .fa (.glo "BadLimit")))
  g_BadWord := glo_ok X G (c.fact 3 (f := .fa (.glo "BadWord")))
  t_EDGE := str_ok X G (c.fact 4 (f := .fa (.str "EDGE" "edge")))
  g_Entry := glo_ok X G (c.fact 5 (f := .fa (.glo "Entry")))
  g_Full := glo_ok X G (c.fact 6 (f := .fa (.glo "Full")))
  i_LEAST_NUMBERS := int_ok X G (c.fact 7 (f := .fa (.int "LEAST_NUMBERS" 3)))
  i_LEAST_PROCESSES := int_ok X G (c.fact 8 (f := .fa (.int "LEAST_PROCESSES" 2)))
  t_LEVEL := str_ok X G (c.fact 9 (f := .fa (.str "LEVEL" "level")))
  i_MOST_COUNT := int_ok X G (c.fact 10 (f := .fa (.int "MOST_COUNT" 1000000)))
  i_MOST_LABEL := int_ok X G (c.fact 11 (f := .fa (.int "MOST_LABEL" 999999)))
  g_NoNumber := glo_ok X G (c.fact 12 (f := .fa (.glo "NoNumber")))
  g_NoProcess := glo_ok X G (c.fact 13 (f := .fa (.glo "NoProcess")))
  g_NoRoom := glo_ok X G (c.fact 14 (f := .fa (.glo "NoRoom")))
  g_NotASet := glo_ok X G (c.fact 15 (f := .fa (.glo "NotASet")))
  g_NotASource := glo_ok X G (c.fact 16 (f := .fa (.glo "NotASource")))
  g_NotOpen := glo_ok X G (c.fact 17 (f := .fa (.glo "NotOpen")))
  g_NotRegistered := glo_ok X G (c.fact 18 (f := .fa (.glo "NotRegistered")))
  t_ONCE := str_ok X G (c.fact 19 (f := .fa (.str "ONCE" "once")))
  g_Registered := glo_ok X G (c.fact 20 (f := .fa (.glo "Registered")))
  t_SET := str_ok X G (c.fact 21 (f := .fa (.str "SET" "set")))
  t_SOURCE := str_ok X G (c.fact 22 (f := .fa (.str "SOURCE" "source")))
  g_Source := glo_ok X G (c.fact 23 (f := .fa (.glo "Source")))
  g_System := glo_ok X G (c.fact 24 (f := .fa (.glo "System")))
  g_Taken := glo_ok X G (c.fact 25 (f := .fa (.glo "Taken")))
  g_WaitSet := glo_ok X G (c.fact 26 (f := .fa (.glo "WaitSet")))
  g__law_added := glo_ok X G (c.fact 27 (f := .fa (.glo "_law_added")))
  g__law_bag := glo_ok X G (c.fact 28 (f := .fa (.glo "_law_bag")))
  g__law_done := glo_ok X G (c.fact 29 (f := .fa (.glo "_law_done")))
  g__law_key := glo_ok X G (c.fact 30 (f := .fa (.glo "_law_key")))
  g__law_of := glo_ok X G (c.fact 31 (f := .fa (.glo "_law_of")))
  g__law_outcome := glo_ok X G (c.fact 32 (f := .fa (.glo "_law_outcome")))
  g__law_take := glo_ok X G (c.fact 33 (f := .fa (.glo "_law_take")))
  g__law_turned := glo_ok X G (c.fact 34 (f := .fa (.glo "_law_turned")))
  free_abs := free_ok X G (c.fact 35 (f := .fa (.free "abs")))
  free_bool := free_ok X G (c.fact 36 (f := .fa (.free "bool")))
  free_enumerate := free_ok X G (c.fact 37 (f := .fa (.free "enumerate")))
  free_int := free_ok X G (c.fact 38 (f := .fa (.free "int")))
  g_is_between := glo_ok X G (c.fact 39 (f := .fa (.glo "is_between")))
  g_is_integer := glo_ok X G (c.fact 40 (f := .fa (.glo "is_integer")))
  free_isinstance := free_ok X G (c.fact 41 (f := .fa (.free "isinstance")))
  g_law := glo_ok X G (c.fact 42 (f := .fa (.glo "law")))
  free_len := free_ok X G (c.fact 43 (f := .fa (.free "len")))
  free_list := free_ok X G (c.fact 44 (f := .fa (.free "list")))
  g_look_count := glo_ok X G (c.fact 45 (f := .fa (.glo "look_count")))
  g_look_word := glo_ok X G (c.fact 46 (f := .fa (.glo "look_word")))
  free_max := free_ok X G (c.fact 47 (f := .fa (.free "max")))
  free_min := free_ok X G (c.fact 48 (f := .fa (.free "min")))
  g_picture_of := glo_ok X G (c.fact 49 (f := .fa (.glo "picture_of")))
  free_range := free_ok X G (c.fact 50 (f := .fa (.free "range")))
  free_repr := free_ok X G (c.fact 51 (f := .fa (.free "repr")))
  free_sorted := free_ok X G (c.fact 52 (f := .fa (.free "sorted")))
  free_str := free_ok X G (c.fact 53 (f := .fa (.free "str")))
  x_NoProcess := exc_okW PySem.F.excBase_LookupError PySem.F.store_LookupError (c.fact 54 (f := .exc "NoProcess" [.type "LookupError", .type "Exception", .type "BaseException", .type "object"] "LookupError.__new__" ["caption", "process"]))
  o_NoProcess := of_decide_eq_true (c.fact 55 (f := .mro "NoProcess"))
  x_NotOpen := exc_okW PySem.F.excBase_LookupError PySem.F.store_LookupError (c.fact 56 (f := .exc "NotOpen" [.type "LookupError", .type "Exception", .type "BaseException", .type "object"] "LookupError.__new__" ["caption", "number"]))
  o_NotOpen := of_decide_eq_true (c.fact 57 (f := .mro "NotOpen"))
  x_NoNumber := exc_okW PySem.F.excBase_LookupError PySem.F.store_LookupError (c.fact 58 (f := .exc "NoNumber" [.type "LookupError", .type "Exception", .type "BaseException", .type "object"] "LookupError.__new__" ["caption", "number"]))
  o_NoNumber := of_decide_eq_true (c.fact 59 (f := .mro "NoNumber"))
  x_NotRegistered := exc_okW PySem.F.excBase_LookupError PySem.F.store_LookupError (c.fact 60 (f := .exc "NotRegistered" [.type "LookupError", .type "Exception", .type "BaseException", .type "object"] "LookupError.__new__" ["caption", "number"]))
  o_NotRegistered := of_decide_eq_true (c.fact 61 (f := .mro "NotRegistered"))
  x_NotASource := exc_okW PySem.F.excBase_TypeError PySem.F.store_TypeError (c.fact 62 (f := .exc "NotASource" [.type "TypeError", .type "Exception", .type "BaseException", .type "object"] "TypeError.__new__" ["caption", "number"]))
  o_NotASource := of_decide_eq_true (c.fact 63 (f := .mro "NotASource"))
  x_NotASet := exc_okW PySem.F.excBase_TypeError PySem.F.store_TypeError (c.fact 64 (f := .exc "NotASet" [.type "TypeError", .type "Exception", .type "BaseException", .type "object"] "TypeError.__new__" ["caption", "number"]))
  o_NotASet := of_decide_eq_true (c.fact 65 (f := .mro "NotASet"))
  x_BadCount := exc_okW PySem.F.excBase_ValueError PySem.F.store_ValueError (c.fact 66 (f := .exc "BadCount" [.type "ValueError", .type "Exception", .type "BaseException", .type "object"] "ValueError.__new__" ["caption", "count"]))
  o_BadCount := of_decide_eq_true (c.fact 67 (f := .mro "BadCount"))
  x_BadLabel := exc_okW PySem.F.excBase_ValueError PySem.F.store_ValueError (c.fact 68 (f := .exc "BadLabel" [.type "ValueError", .type "Exception", .type "BaseException", .type "object"] "ValueError.__new__" ["caption", "label"]))
  o_BadLabel := of_decide_eq_true (c.fact 69 (f := .mro "BadLabel"))
  x_BadWord := exc_okW PySem.F.excBase_ValueError PySem.F.store_ValueError (c.fact 70 (f := .exc "BadWord" [.type "ValueError", .type "Exception", .type "BaseException", .type "object"] "ValueError.__new__" ["caption", "word"]))
  o_BadWord := of_decide_eq_true (c.fact 71 (f := .mro "BadWord"))
  x_BadLimit := exc_okW PySem.F.excBase_ValueError PySem.F.store_ValueError (c.fact 72 (f := .exc "BadLimit" [.type "ValueError", .type "Exception", .type "BaseException", .type "object"] "ValueError.__new__" ["caption", "limit"]))
  o_BadLimit := of_decide_eq_true (c.fact 73 (f := .mro "BadLimit"))
  x_Full := exc_okW PySem.F.excBase_OverflowError PySem.F.store_OverflowError (c.fact 74 (f := .exc "Full" [.type "OverflowError", .type "ArithmeticError", .type "Exception", .type "BaseException", .type "object"] "OverflowError.__new__" ["caption", "process"]))
  o_Full := of_decide_eq_true (c.fact 75 (f := .mro "Full"))
  x_NoRoom := exc_okW PySem.F.excBase_OverflowError PySem.F.store_OverflowError (c.fact 76 (f := .exc "NoRoom" [.type "OverflowError", .type "ArithmeticError", .type "Exception", .type "BaseException", .type "object"] "OverflowError.__new__" ["caption"]))
  o_NoRoom := of_decide_eq_true (c.fact 77 (f := .mro "NoRoom"))
  x_Registered := exc_okW PySem.F.excBase_RuntimeError PySem.F.store_RuntimeError (c.fact 78 (f := .exc "Registered" [.type "RuntimeError", .type "Exception", .type "BaseException", .type "object"] "RuntimeError.__new__" ["caption", "number"]))
  o_Registered := of_decide_eq_true (c.fact 79 (f := .mro "Registered"))
  x_Taken := exc_okW PySem.F.excBase_RuntimeError PySem.F.store_RuntimeError (c.fact 80 (f := .exc "Taken" [.type "RuntimeError", .type "Exception", .type "BaseException", .type "object"] "RuntimeError.__new__" ["caption", "label"]))
  o_Taken := of_decide_eq_true (c.fact 81 (f := .mro "Taken"))
  c_Source := cls_ok (c.fact 82 (f := .fa (.cls "Source")))
  ci_Source := eqO_ok (c.fact 83 (f := .ins "Source"))
  o_Source := of_decide_eq_true (c.fact 84 (f := .mro "Source"))
  n_Source_unread := noat_ok (c.fact 85 (f := .fa (.noat "Source" "unread")))
  n_Source_finished := noat_ok (c.fact 86 (f := .fa (.noat "Source" "finished")))
  k_Source := mkr_ok (c.fact 87 (f := .fa (.mkr "Source")))
  c_Entry := cls_ok (c.fact 88 (f := .fa (.cls "Entry")))
  ci_Entry := eqO_ok (c.fact 89 (f := .ins "Entry"))
  o_Entry := of_decide_eq_true (c.fact 90 (f := .mro "Entry"))
  n_Entry_number := noat_ok (c.fact 91 (f := .fa (.noat "Entry" "number")))
  n_Entry_serial := noat_ok (c.fact 92 (f := .fa (.noat "Entry" "serial")))
  n_Entry_label := noat_ok (c.fact 93 (f := .fa (.noat "Entry" "label")))
  n_Entry_word := noat_ok (c.fact 94 (f := .fa (.noat "Entry" "word")))
  n_Entry_armed := noat_ok (c.fact 95 (f := .fa (.noat "Entry" "armed")))
  k_Entry := mkr_ok (c.fact 96 (f := .fa (.mkr "Entry")))
  c_WaitSet := cls_ok (c.fact 97 (f := .fa (.cls "WaitSet")))
  ci_WaitSet := eqO_ok (c.fact 98 (f := .ins "WaitSet"))
  o_WaitSet := of_decide_eq_true (c.fact 99 (f := .mro "WaitSet"))
  n_WaitSet_entries := noat_ok (c.fact 100 (f := .fa (.noat "WaitSet" "entries")))
  n_WaitSet_row := noat_ok (c.fact 101 (f := .fa (.noat "WaitSet" "row")))
  k_WaitSet := mkr_ok (c.fact 102 (f := .fa (.mkr "WaitSet")))
  c_System := cls_ok (c.fact 103 (f := .fa (.cls "System")))
  ci_System := eqO_ok (c.fact 104 (f := .ins "System"))
  o_System := of_decide_eq_true (c.fact 105 (f := .mro "System"))
  n_System_process_limit := noat_ok (c.fact 106 (f := .fa (.noat "System" "process_limit")))
  n_System_number_limit := noat_ok (c.fact 107 (f := .fa (.noat "System" "number_limit")))
  n_System_tables := noat_ok (c.fact 108 (f := .fa (.noat "System" "tables")))
  n_System_things := noat_ok (c.fact 109 (f := .fa (.noat "System" "things")))
  n_System_serials_made := noat_ok (c.fact 110 (f := .fa (.noat "System" "serials_made")))
  k_System := mkr_ok (c.fact 111 (f := .fa (.mkr "System")))
  v_System_MOST_PROCESSES := cval_ok (c.fact 112 (f := .cval "System" "MOST_PROCESSES" (.int 6)))
  v_System_MOST_NUMBERS := cval_ok (c.fact 113 (f := .cval "System" "MOST_NUMBERS" (.int 8)))
  p_Source_kind := prop_ok (c.fact 114 (f := .prop "Source" "kind"))
  p_Source_is_ready := prop_ok (c.fact 115 (f := .prop "Source" "is_ready"))
  m_Source_taken := meth_ok (c.fact 116 (f := .fa (.meth "Source" "taken")))
  p_WaitSet_kind := prop_ok (c.fact 117 (f := .prop "WaitSet" "kind"))
  m_WaitSet_keyed := meth_ok (c.fact 118 (f := .fa (.meth "WaitSet" "keyed")))
  m_WaitSet_labelled := meth_ok (c.fact 119 (f := .fa (.meth "WaitSet" "labelled")))
  m_WaitSet_append_pending := meth_ok (c.fact 120 (f := .fa (.meth "WaitSet" "append_pending")))
  m_WaitSet_drop := meth_ok (c.fact 121 (f := .fa (.meth "WaitSet" "drop")))
  m_WaitSet_forget := meth_ok (c.fact 122 (f := .fa (.meth "WaitSet" "forget")))
  p_System_limits := prop_ok (c.fact 123 (f := .prop "System" "limits"))
  m_System_alive := meth_ok (c.fact 124 (f := .fa (.meth "System" "alive")))
  m_System_table_of := meth_ok (c.fact 125 (f := .fa (.meth "System" "table_of")))
  m_System_serial_at := meth_ok (c.fact 126 (f := .fa (.meth "System" "serial_at")))
  m_System_source_at := meth_ok (c.fact 127 (f := .fa (.meth "System" "source_at")))
  m_System_set_at := meth_ok (c.fact 128 (f := .fa (.meth "System" "set_at")))
  m_System_holders := meth_ok (c.fact 129 (f := .fa (.meth "System" "holders")))
  m_System_name_of := meth_ok (c.fact 130 (f := .fa (.meth "System" "name_of")))
  m_System_set_serials := meth_ok (c.fact 131 (f := .fa (.meth "System" "set_serials")))
  m_System_lowest_free := meth_ok (c.fact 132 (f := .fa (.meth "System" "lowest_free")))
  m_System_placed := meth_ok (c.fact 133 (f := .fa (.meth "System" "placed")))
  m_System_new_source := meth_ok (c.fact 134 (f := .fa (.meth "System" "new_source")))
  m_System_new_set := meth_ok (c.fact 135 (f := .fa (.meth "System" "new_set")))
  m_System_copy := meth_ok (c.fact 136 (f := .fa (.meth "System" "copy")))
  m_System_close := meth_ok (c.fact 137 (f := .fa (.meth "System" "close")))
  m_System_fork := meth_ok (c.fact 138 (f := .fa (.meth "System" "fork")))
  m_System_read := meth_ok (c.fact 139 (f := .fa (.meth "System" "read")))
  m_System_add := meth_ok (c.fact 140 (f := .fa (.meth "System" "add")))
  m_System_keyed_entry := meth_ok (c.fact 141 (f := .fa (.meth "System" "keyed_entry")))
  m_System_change := meth_ok (c.fact 142 (f := .fa (.meth "System" "change")))
  m_System_remove := meth_ok (c.fact 143 (f := .fa (.meth "System" "remove")))
  m_System_numbers := meth_ok (c.fact 144 (f := .fa (.meth "System" "numbers")))
  m_System_same := meth_ok (c.fact 145 (f := .fa (.meth "System" "same")))
  m_System_units := meth_ok (c.fact 146 (f := .fa (.meth "System" "units")))
  m_System_name := meth_ok (c.fact 147 (f := .fa (.meth "System" "name")))
  m_System_registrations := meth_ok (c.fact 148 (f := .fa (.meth "System" "registrations")))
  m_System___eq__ := meth_ok (c.fact 149 (f := .fa (.meth "System" "__eq__")))
  m_System___len__ := meth_ok (c.fact 150 (f := .fa (.meth "System" "__len__")))
  m_System___contains__ := meth_ok (c.fact 151 (f := .fa (.meth "System" "__contains__")))
  m_System___repr__ := meth_ok (c.fact 152 (f := .fa (.meth "System" "__repr__")))
  bm_System_name_of := bm_ok (c.fact 153 (f := .bmt "System" "name_of"))
  q_Source_Source := of_decide_eq_true (c.fact 154 (f := .isc "Source" "Source" true))
  q_Entry_Source := of_decide_eq_true (c.fact 155 (f := .isc "Entry" "Source" false))
  q_WaitSet_Source := of_decide_eq_true (c.fact 156 (f := .isc "WaitSet" "Source" false))
  q_System_Source := of_decide_eq_true (c.fact 157 (f := .isc "System" "Source" false))
  q_Source_System := of_decide_eq_true (c.fact 158 (f := .isc "Source" "System" false))
  q_Entry_System := of_decide_eq_true (c.fact 159 (f := .isc "Entry" "System" false))
  q_WaitSet_System := of_decide_eq_true (c.fact 160 (f := .isc "WaitSet" "System" false))
  q_System_System := of_decide_eq_true (c.fact 161 (f := .isc "System" "System" true))
  q_Source_WaitSet := of_decide_eq_true (c.fact 162 (f := .isc "Source" "WaitSet" false))
  q_Entry_WaitSet := of_decide_eq_true (c.fact 163 (f := .isc "Entry" "WaitSet" false))
  q_WaitSet_WaitSet := of_decide_eq_true (c.fact 164 (f := .isc "WaitSet" "WaitSet" true))
  q_System_WaitSet := of_decide_eq_true (c.fact 165 (f := .isc "System" "WaitSet" false))
  e_NoProcess_NotRegistered := exm_ok (c.fact 166 (f := .fa (.exm "NoProcess" "NotRegistered" false)))
  e_NotOpen_NotRegistered := exm_ok (c.fact 167 (f := .fa (.exm "NotOpen" "NotRegistered" false)))
  e_NoNumber_NotRegistered := exm_ok (c.fact 168 (f := .fa (.exm "NoNumber" "NotRegistered" false)))
  e_NotRegistered_NotRegistered := exm_ok (c.fact 169 (f := .fa (.exm "NotRegistered" "NotRegistered" true)))
  e_NotASource_NotRegistered := exm_ok (c.fact 170 (f := .fa (.exm "NotASource" "NotRegistered" false)))
  e_NotASet_NotRegistered := exm_ok (c.fact 171 (f := .fa (.exm "NotASet" "NotRegistered" false)))
  e_BadCount_NotRegistered := exm_ok (c.fact 172 (f := .fa (.exm "BadCount" "NotRegistered" false)))
  e_BadLabel_NotRegistered := exm_ok (c.fact 173 (f := .fa (.exm "BadLabel" "NotRegistered" false)))
  e_BadWord_NotRegistered := exm_ok (c.fact 174 (f := .fa (.exm "BadWord" "NotRegistered" false)))
  e_BadLimit_NotRegistered := exm_ok (c.fact 175 (f := .fa (.exm "BadLimit" "NotRegistered" false)))
  e_Full_NotRegistered := exm_ok (c.fact 176 (f := .fa (.exm "Full" "NotRegistered" false)))
  e_NoRoom_NotRegistered := exm_ok (c.fact 177 (f := .fa (.exm "NoRoom" "NotRegistered" false)))
  e_Registered_NotRegistered := exm_ok (c.fact 178 (f := .fa (.exm "Registered" "NotRegistered" false)))
  e_Taken_NotRegistered := exm_ok (c.fact 179 (f := .fa (.exm "Taken" "NotRegistered" false)))
  e_NoProcess_Registered := exm_ok (c.fact 180 (f := .fa (.exm "NoProcess" "Registered" false)))
  e_NotOpen_Registered := exm_ok (c.fact 181 (f := .fa (.exm "NotOpen" "Registered" false)))
  e_NoNumber_Registered := exm_ok (c.fact 182 (f := .fa (.exm "NoNumber" "Registered" false)))
  e_NotRegistered_Registered := exm_ok (c.fact 183 (f := .fa (.exm "NotRegistered" "Registered" false)))
  e_NotASource_Registered := exm_ok (c.fact 184 (f := .fa (.exm "NotASource" "Registered" false)))
  e_NotASet_Registered := exm_ok (c.fact 185 (f := .fa (.exm "NotASet" "Registered" false)))
  e_BadCount_Registered := exm_ok (c.fact 186 (f := .fa (.exm "BadCount" "Registered" false)))
  e_BadLabel_Registered := exm_ok (c.fact 187 (f := .fa (.exm "BadLabel" "Registered" false)))
  e_BadWord_Registered := exm_ok (c.fact 188 (f := .fa (.exm "BadWord" "Registered" false)))
  e_BadLimit_Registered := exm_ok (c.fact 189 (f := .fa (.exm "BadLimit" "Registered" false)))
  e_Full_Registered := exm_ok (c.fact 190 (f := .fa (.exm "Full" "Registered" false)))
  e_NoRoom_Registered := exm_ok (c.fact 191 (f := .fa (.exm "NoRoom" "Registered" false)))
  e_Registered_Registered := exm_ok (c.fact 192 (f := .fa (.exm "Registered" "Registered" true)))
  e_Taken_Registered := exm_ok (c.fact 193 (f := .fa (.exm "Taken" "Registered" false)))
  e_NoProcess_Taken := exm_ok (c.fact 194 (f := .fa (.exm "NoProcess" "Taken" false)))
  e_NotOpen_Taken := exm_ok (c.fact 195 (f := .fa (.exm "NotOpen" "Taken" false)))
  e_NoNumber_Taken := exm_ok (c.fact 196 (f := .fa (.exm "NoNumber" "Taken" false)))
  e_NotRegistered_Taken := exm_ok (c.fact 197 (f := .fa (.exm "NotRegistered" "Taken" false)))
  e_NotASource_Taken := exm_ok (c.fact 198 (f := .fa (.exm "NotASource" "Taken" false)))
  e_NotASet_Taken := exm_ok (c.fact 199 (f := .fa (.exm "NotASet" "Taken" false)))
  e_BadCount_Taken := exm_ok (c.fact 200 (f := .fa (.exm "BadCount" "Taken" false)))
  e_BadLabel_Taken := exm_ok (c.fact 201 (f := .fa (.exm "BadLabel" "Taken" false)))
  e_BadWord_Taken := exm_ok (c.fact 202 (f := .fa (.exm "BadWord" "Taken" false)))
  e_BadLimit_Taken := exm_ok (c.fact 203 (f := .fa (.exm "BadLimit" "Taken" false)))
  e_Full_Taken := exm_ok (c.fact 204 (f := .fa (.exm "Full" "Taken" false)))
  e_NoRoom_Taken := exm_ok (c.fact 205 (f := .fa (.exm "NoRoom" "Taken" false)))
  e_Registered_Taken := exm_ok (c.fact 206 (f := .fa (.exm "Registered" "Taken" false)))
  e_Taken_Taken := exm_ok (c.fact 207 (f := .fa (.exm "Taken" "Taken" true)))
  f_NoProcess___init__ := c.def_ 0 (d := ⟨(mA "NoProcess" "__init__"), "__init__", "NoProcess.__init__", s_NoProcess___init__, [], []⟩)
  f_NotOpen___init__ := c.def_ 1 (d := ⟨(mA "NotOpen" "__init__"), "__init__", "NotOpen.__init__", s_NotOpen___init__, [], []⟩)
  f_NoNumber___init__ := c.def_ 2 (d := ⟨(mA "NoNumber" "__init__"), "__init__", "NoNumber.__init__", s_NoNumber___init__, [], []⟩)
  f_NotRegistered___init__ := c.def_ 3 (d := ⟨(mA "NotRegistered" "__init__"), "__init__", "NotRegistered.__init__", s_NotRegistered___init__, [], []⟩)
  f_NotASource___init__ := c.def_ 4 (d := ⟨(mA "NotASource" "__init__"), "__init__", "NotASource.__init__", s_NotASource___init__, [], []⟩)
  f_NotASet___init__ := c.def_ 5 (d := ⟨(mA "NotASet" "__init__"), "__init__", "NotASet.__init__", s_NotASet___init__, [], []⟩)
  f_BadCount___init__ := c.def_ 6 (d := ⟨(mA "BadCount" "__init__"), "__init__", "BadCount.__init__", s_BadCount___init__, [], []⟩)
  f_BadLabel___init__ := c.def_ 7 (d := ⟨(mA "BadLabel" "__init__"), "__init__", "BadLabel.__init__", s_BadLabel___init__, [], []⟩)
  f_BadWord___init__ := c.def_ 8 (d := ⟨(mA "BadWord" "__init__"), "__init__", "BadWord.__init__", s_BadWord___init__, [], []⟩)
  f_BadLimit___init__ := c.def_ 9 (d := ⟨(mA "BadLimit" "__init__"), "__init__", "BadLimit.__init__", s_BadLimit___init__, [], []⟩)
  f_Full___init__ := c.def_ 10 (d := ⟨(mA "Full" "__init__"), "__init__", "Full.__init__", s_Full___init__, [], []⟩)
  f_NoRoom___init__ := c.def_ 11 (d := ⟨(mA "NoRoom" "__init__"), "__init__", "NoRoom.__init__", s_NoRoom___init__, [], []⟩)
  f_Registered___init__ := c.def_ 12 (d := ⟨(mA "Registered" "__init__"), "__init__", "Registered.__init__", s_Registered___init__, [], []⟩)
  f_Taken___init__ := c.def_ 13 (d := ⟨(mA "Taken" "__init__"), "__init__", "Taken.__init__", s_Taken___init__, [], []⟩)
  f_is_integer := c.def_ 14 (d := ⟨(gA "is_integer"), "is_integer", "is_integer", s_is_integer, [], []⟩)
  f_is_between := c.def_ 15 (d := ⟨(gA "is_between"), "is_between", "is_between", s_is_between, [], []⟩)
  f_Source___init__ := c.def_ 16 (d := ⟨(mA "Source" "__init__"), "__init__", "Source.__init__", s_Source___init__, [.int 0, .bl false], []⟩)
  f_Source_kind := c.def_ 17 (d := ⟨(pA "Source" "kind"), "kind", "Source.kind", s_Source_kind, [], []⟩)
  f_Source_is_ready := c.def_ 18 (d := ⟨(pA "Source" "is_ready"), "is_ready", "Source.is_ready", s_Source_is_ready, [], []⟩)
  f_Source_taken := c.def_ 19 (d := ⟨(mA "Source" "taken"), "taken", "Source.taken", s_Source_taken, [], []⟩)
  f_Entry___init__ := c.def_ 20 (d := ⟨(mA "Entry" "__init__"), "__init__", "Entry.__init__", s_Entry___init__, [.bl true], []⟩)
  f_WaitSet___init__ := c.def_ 21 (d := ⟨(mA "WaitSet" "__init__"), "__init__", "WaitSet.__init__", s_WaitSet___init__, [], []⟩)
  f_WaitSet_kind := c.def_ 22 (d := ⟨(pA "WaitSet" "kind"), "kind", "WaitSet.kind", s_WaitSet_kind, [], []⟩)
  f_WaitSet_keyed := c.def_ 23 (d := ⟨(mA "WaitSet" "keyed"), "keyed", "WaitSet.keyed", s_WaitSet_keyed, [], []⟩)
  f_WaitSet_labelled := c.def_ 24 (d := ⟨(mA "WaitSet" "labelled"), "labelled", "WaitSet.labelled", s_WaitSet_labelled, [], []⟩)
  f_WaitSet_append_pending := c.def_ 25 (d := ⟨(mA "WaitSet" "append_pending"), "append_pending", "WaitSet.append_pending", s_WaitSet_append_pending, [], []⟩)
  f_WaitSet_drop := c.def_ 26 (d := ⟨(mA "WaitSet" "drop"), "drop", "WaitSet.drop", s_WaitSet_drop, [], []⟩)
  f_WaitSet_forget := c.def_ 27 (d := ⟨(mA "WaitSet" "forget"), "forget", "WaitSet.forget", s_WaitSet_forget, [], []⟩)
  f_look_count := c.def_ 28 (d := ⟨(gA "look_count"), "look_count", "look_count", s_look_count, [], []⟩)
  f_look_word := c.def_ 29 (d := ⟨(gA "look_word"), "look_word", "look_word", s_look_word, [], []⟩)
  f_System___init__ := c.def_ 30 (d := ⟨(mA "System" "__init__"), "__init__", "System.__init__", s_System___init__, [], [("processes", .int 4), ("numbers", .int 8)]⟩)
  f_System_limits := c.def_ 31 (d := ⟨(pA "System" "limits"), "limits", "System.limits", s_System_limits, [], []⟩)
  f_System_alive := c.def_ 32 (d := ⟨(mA "System" "alive"), "alive", "System.alive", s_System_alive, [], []⟩)
  f_System_table_of := c.def_ 33 (d := ⟨(mA "System" "table_of"), "table_of", "System.table_of", s_System_table_of, [], []⟩)
  f_System_serial_at := c.def_ 34 (d := ⟨(mA "System" "serial_at"), "serial_at", "System.serial_at", s_System_serial_at, [], []⟩)
  f_System_source_at := c.def_ 35 (d := ⟨(mA "System" "source_at"), "source_at", "System.source_at", s_System_source_at, [], []⟩)
  f_System_set_at := c.def_ 36 (d := ⟨(mA "System" "set_at"), "set_at", "System.set_at", s_System_set_at, [], []⟩)
  f_System_holders := c.def_ 37 (d := ⟨(mA "System" "holders"), "holders", "System.holders", s_System_holders, [], []⟩)
  f_System_name_of := c.def_ 38 (d := ⟨(mA "System" "name_of"), "name_of", "System.name_of", s_System_name_of, [], []⟩)
  f_System_set_serials := c.def_ 39 (d := ⟨(mA "System" "set_serials"), "set_serials", "System.set_serials", s_System_set_serials, [], []⟩)
  f_System_lowest_free := c.def_ 40 (d := ⟨(mA "System" "lowest_free"), "lowest_free", "System.lowest_free", s_System_lowest_free, [], []⟩)
  f_System_placed := c.def_ 41 (d := ⟨(mA "System" "placed"), "placed", "System.placed", s_System_placed, [], []⟩)
  f_System_new_source := c.def_ 42 (d := ⟨(mA "System" "new_source"), "new_source", "System.new_source", s_System_new_source, [], []⟩)
  f_System_new_set := c.def_ 43 (d := ⟨(mA "System" "new_set"), "new_set", "System.new_set", s_System_new_set, [], []⟩)
  f_System_copy := c.def_ 44 (d := ⟨(mA "System" "copy"), "copy", "System.copy", s_System_copy, [.non], []⟩)
  f_System_close := c.def_ 45 (d := ⟨(mA "System" "close"), "close", "System.close", s_System_close, [], []⟩)
  f_System_fork := c.def_ 46 (d := ⟨(mA "System" "fork"), "fork", "System.fork", s_System_fork, [], []⟩)
  f_System_read := c.def_ 47 (d := ⟨(mA "System" "read"), "read", "System.read", s_System_read, [.non], []⟩)
  f_System_add := c.def_ 48 (d := ⟨(mA "System" "add"), "add", "System.add", s_System_add, [], [("word", .str "level")]⟩)
  f_System_keyed_entry := c.def_ 49 (d := ⟨(mA "System" "keyed_entry"), "keyed_entry", "System.keyed_entry", s_System_keyed_entry, [], []⟩)
  f_System_change := c.def_ 50 (d := ⟨(mA "System" "change"), "change", "System.change", s_System_change, [], []⟩)
  f_System_remove := c.def_ 51 (d := ⟨(mA "System" "remove"), "remove", "System.remove", s_System_remove, [], []⟩)
  f_System_numbers := c.def_ 52 (d := ⟨(mA "System" "numbers"), "numbers", "System.numbers", s_System_numbers, [], []⟩)
  f_System_same := c.def_ 53 (d := ⟨(mA "System" "same"), "same", "System.same", s_System_same, [], []⟩)
  f_System_units := c.def_ 54 (d := ⟨(mA "System" "units"), "units", "System.units", s_System_units, [], []⟩)
  f_System_name := c.def_ 55 (d := ⟨(mA "System" "name"), "name", "System.name", s_System_name, [], []⟩)
  f_System_registrations := c.def_ 56 (d := ⟨(mA "System" "registrations"), "registrations", "System.registrations", s_System_registrations, [], []⟩)
  f_System___eq__ := c.def_ 57 (d := ⟨(mA "System" "__eq__"), "__eq__", "System.__eq__", s_System___eq__, [], []⟩)
  f_System___len__ := c.def_ 58 (d := ⟨(mA "System" "__len__"), "__len__", "System.__len__", s_System___len__, [], []⟩)
  f_System___contains__ := c.def_ 59 (d := ⟨(mA "System" "__contains__"), "__contains__", "System.__contains__", s_System___contains__, [], []⟩)
  f_System___repr__ := c.def_ 60 (d := ⟨(mA "System" "__repr__"), "__repr__", "System.__repr__", s_System___repr__, [], []⟩)
  f_picture_of := c.def_ 61 (d := ⟨(gA "picture_of"), "picture_of", "picture_of", s_picture_of, [], []⟩)
  f__law_bag := c.def_ 62 (d := ⟨(gA "_law_bag"), "_law_bag", "_law_bag", s__law_bag, [], []⟩)
  f__law_take := c.def_ 63 (d := ⟨(gA "_law_take"), "_law_take", "_law_take", s__law_take, [], []⟩)
  f__law_of := c.def_ 64 (d := ⟨(gA "_law_of"), "_law_of", "_law_of", s__law_of, [], []⟩)
  f__law_outcome := c.def_ 65 (d := ⟨(gA "_law_outcome"), "_law_outcome", "_law_outcome", s__law_outcome, [], []⟩)
  f__law_key := c.def_ 66 (d := ⟨(gA "_law_key"), "_law_key", "_law_key", s__law_key, [], []⟩)
  f__law_added := c.def_ 67 (d := ⟨(gA "_law_added"), "_law_added", "_law_added", s__law_added, [], []⟩)
  f__law_done := c.def_ 68 (d := ⟨(gA "_law_done"), "_law_done", "_law_done", s__law_done, [], []⟩)
  f__law_turned := c.def_ 69 (d := ⟨(gA "_law_turned"), "_law_turned", "_law_turned", s__law_turned, [], []⟩)
  f_law := c.def_ 70 (d := ⟨(gA "law"), "law", "law", s_law, [], []⟩)
section
variable {K : PySem.W.Frag} {mg : Str → Option Value}
theorem entT (T : Tx K mg) : EntF K := ⟨T.c_Entry, T.n_Entry_number, T.n_Entry_serial, T.n_Entry_label, T.n_Entry_word, T.n_Entry_armed⟩
theorem ent_of (T : Tx K mg) {α : Type} {es : List α} {x : α} (_ : x ∈ es) (_ : es.length ≤ mostE) : EntF K := entT T
end
/-! ### the head: the top is run -/
abbrev RwH : PySem.W.OpenRow := PySem.W.OpenLaw.row PySem.Challenge.rw_waitnumbers_k07_keys_of_registrations
abbrev hk : PySem.W.Hook := hookW 6 fcL fwL tsL tfL
def obs (s : PySem.W.SharedT) : AlW := obsW 6 fcL fwL tsL tfL (HandSHeadRun.getT s)
theorem obs_eq (s : PySem.W.SharedT) : obs s = hk.obs s.abs := obsW_eq (HandSHeadRun.getT_eq s)
def loose0 : List Str := ["_wall", "__name__", "NoProcess", "NotOpen", "NoNumber", "NotRegistered", "NotASource", "NotASet", "BadCount", "BadLabel", "BadWord", "BadLimit", "Full", "NoRoom", "Registered", "Taken", "SOURCE", "SET", "LEVEL", "EDGE", "ONCE", "is_integer", "is_between", "Source"]
def loose1 : List Str := ["Entry", "WaitSet", "LEAST_PROCESSES", "LEAST_NUMBERS", "MOST_COUNT", "MOST_LABEL", "look_count", "look_word", "System", "picture_of", "_law_bag", "_law_take", "_law_of", "_law_outcome", "_law_key", "_law_added", "_law_done", "_law_turned"]
def loose : List Str := loose0 ++ loose1
theorem run (w : World) : HandSHeadRun.RunEq RwH (PySem.W.view RwH.prog [45]) hk obs 20000 loose w := by
  intro os
  kernel_rfl
/-! ### is_integer, is_between -/
/-- an object as a value: None, a truth, a whole number, a text, a list or a tuple that is tracked -/
def Obj' (H : Hp) : V → Prop
  | .non => True
  | .bl _ => True
  | .int _ => True
  | .str _ => True
  | .ref a => (∃ xs, H a = some (.lst xs)) ∨ ∃ xs, H a = some (.tup xs)
  | _ => False
def isI : V → Bool
  | .int _ => true
  | _ => false
def betw (x : V) (lo hi : Int) : Bool := match x with
  | .int i => decide (lo ≤ i) && decide (i ≤ hi)
  | _ => false
theorem Obj'.same {H H' : Hp} (e : Same H H') : ∀ {x : V}, Obj' H x → Obj' H' x
  | .non, h => h
  | .bl _, h => h
  | .int _, h => h
  | .str _, h => h
  | .ref a, h => by
    rcases h with ⟨xs, h⟩ | ⟨xs, h⟩
    · exact .inl ⟨xs, e _ _ h⟩
    · exact .inr ⟨xs, e _ _ h⟩
  | .byt _, h => h.elim
  | .flt _, h => h.elim
  | .ty _, h => h.elim
/-- its type, and what isinstance tells of int, bool -/
theorem obj_ty {K : PySem.W.Frag} {H : Hp} : ∀ {x : V}, Obj' H x → ∃ (t : Value) (b c : Bool), TyX K H x t ∧ PySem.W.kitOne K t (.type "int") = some b ∧ PySem.W.kitOne K t (.type "bool") = some c ∧ (b && !c) = isI x
  | .non, _ => ⟨.type "NoneType", false, false, .base .non, kit_ty (by decide +kernel), kit_ty (by decide +kernel), rfl⟩
  | .bl y, _ => ⟨.type "bool", true, true, .base (.bl y), kit_ty (by decide +kernel), kit_ty (by decide +kernel), rfl⟩
  | .int i, _ => ⟨.type "int", true, false, .base (.int i), kit_ty (by decide +kernel), kit_ty (by decide +kernel), rfl⟩
  | .str y, _ => ⟨.type "str", false, false, .base (.str y), kit_ty (by decide +kernel), kit_ty (by decide +kernel), rfl⟩
  | .ref a, h => by
    rcases h with ⟨xs, h⟩ | ⟨xs, h⟩
    · exact ⟨.type "list", false, false, .base (.lst h), kit_ty (by decide +kernel), kit_ty (by decide +kernel), rfl⟩
    · exact ⟨.type "tuple", false, false, .base (.tup h), kit_ty (by decide +kernel), kit_ty (by decide +kernel), rfl⟩
  | .byt _, h => h.elim
  | .flt _, h => h.elim
  | .ty _, h => h.elim
def sp_is_integer : Sp := fun vs H Q _ => ∃ x, vs = [x] ∧ Obj' H x ∧ Q (.bl (isI x)) H
def sp_is_between : Sp := fun vs H Q _ => ∃ x lo hi, vs = [x, .int lo, .int hi] ∧ Obj' H x ∧ Q (.bl (betw x lo hi)) H
section
variable {P : Program} {w : World} {K : PySem.W.Frag} {mg : Str → Option Value} {base : Heap}
theorem sc_is_integer : FnScope ["thing"] ["thing"] (defScope s_is_integer) := ⟨rfl, rfl, rfl, by decide +kernel, rfl, by decide +kernel, by decide +kernel⟩
theorem ok_is_integer (T : Tx K mg) : FnOk P w K mg base CX0 1 (gA "is_integer" K) (fdAt K (gA "is_integer" K)) ["thing"] sp_is_integer := by
  refine FunD.ok T.f_is_integer sc_is_integer (fun vs H Q E h => ?_) (fun cdv A outer s H vs Q E hr h => ?_)
  · obtain ⟨x, rfl, _⟩ := h
    rfl
  · obtain ⟨x, rfl, hx, q⟩ := h
    refine ⟨_, PSs.nox (pss_one (ps_ret (pe_and (pe_callB call_isi (by rfl) T.free_isinstance (by decide +kernel) (pa_cons (pv 0) (pa_cons (pe_bltn (v := .ty "int") (by rfl) T.free_int (by decide +kernel) rfl) pa_nil)))
      (pe_one (pe_not (pe_callB call_isi (by rfl) T.free_isinstance (by decide +kernel) (pa_cons (pv 0) (pa_cons (pe_bltn (v := .ty "bool") (by rfl) T.free_bool (by decide +kernel) rfl) pa_nil)))))))), ?_⟩
    obtain ⟨t, b, c, ty, h1, h2, e⟩ := obj_ty (K := K) hx
    refine ⟨_, rfl, _, _, t, .type "int", b, rfl, .ty "int", ty, h1, b, rfl, ?_⟩
    cases b with
    | false =>
      refine iteF ?_
      rw [← e] at q
      exact q
    | true =>
      refine iteT ?_
      refine ⟨_, rfl, _, _, t, .type "bool", c, rfl, .ty "bool", ty, h2, c, rfl, ?_⟩
      rw [← e] at q
      exact q
theorem b_is_integer (T : Tx K mg) : Binds K (fdAt K (gA "is_integer" K)) ["thing"] [] := FunD.bindsN T.f_is_integer fun _ _ _ _ _ _ us hl => match us, hl with | [_], _ => rfl
theorem sc_is_between : FnScope ["thing", "low", "high"] ["thing", "low", "high"] (defScope s_is_between) := ⟨rfl, rfl, rfl, by decide +kernel, rfl, by decide +kernel, by decide +kernel⟩
theorem ok_is_between (T : Tx K mg) : FnOk P w K mg base CX0 2 (gA "is_between" K) (fdAt K (gA "is_between" K)) ["thing", "low", "high"] sp_is_between := by
  refine FunD.ok T.f_is_between sc_is_between (fun vs H Q E h => ?_) (fun cdv A outer s H vs Q E hr h => ?_)
  · obtain ⟨x, lo, hi, rfl, _⟩ := h
    rfl
  · obtain ⟨x, lo, hi, rfl, hx, q⟩ := h
    refine ⟨_, PSs.nox (pss_one (ps_ret (pe_and (pe_call (ok_is_integer T) hr (by rfl) T.g_is_integer T.f_is_integer.kp (b_is_integer T) .nil pass0 (pa_cons (pv 0) pa_nil))
      (pe_one (pe_chain op_le op_le (pv 1) (pv 0) (pv 2)))))), ?_⟩
    refine ⟨_, rfl, x, rfl, hx, isI x, rfl, ?_⟩
    cases x with
    | int i =>
      refine iteT ?_
      refine ⟨_, rfl, _, rfl, lo, i, rfl, rfl, _, rfl, ?_⟩
      by_cases c : lo ≤ i
      · rw [decide_eq_true c]
        refine iteT ?_
        refine ⟨_, rfl, i, hi, rfl, rfl, ?_⟩
        have e : betw (.int i) lo hi = decide (i ≤ hi) := by show (decide (lo ≤ i) && decide (i ≤ hi)) = _; rw [decide_eq_true c]; rfl
        rw [e] at q
        exact q
      · rw [decide_eq_false c]
        refine iteF ?_
        have e : betw (.int i) lo hi = false := by show (decide (lo ≤ i) && decide (i ≤ hi)) = _; rw [decide_eq_false c]; rfl
        rw [e] at q
        exact q
    | _ => exact iteF q
theorem b_is_between (T : Tx K mg) : Binds K (fdAt K (gA "is_between" K)) ["thing", "low", "high"] [] := FunD.bindsN T.f_is_between fun _ _ _ _ _ _ us hl => match us, hl with | [_, _, _], _ => rfl
end

/-! ### errors -/
section
variable {P : Program} {w : World} {K : PySem.W.Frag} {mg : Str → Option Value} {base : Heap}
theorem ei_NoProcess (T : Tx K mg) : FnOk P w K mg base CX0 1 (mA "NoProcess" "__init__" K) (fdAt K (mA "NoProcess" "__init__" K)) ["self", "process"] (spErr (ga K "NoProcess") "process" "NoProcess") :=
  err_init T.x_NoProcess T.f_NoProcess___init__ ⟨rfl, rfl, rfl, by decide +kernel, rfl, by decide +kernel, by decide +kernel⟩ rfl ⟨by decide, by decide⟩ ⟨by decide, by decide⟩ (fun _ => ⟨rfl, rfl⟩) ⟨.inl rfl, .inl rfl⟩
theorem eb_NoProcess (T : Tx K mg) : Binds K (fdAt K (mA "NoProcess" "__init__" K)) ["self", "process"] [] := FunD.bindsN T.f_NoProcess___init__ fun _ _ _ _ _ _ us hl => match us, hl with | [_, _], _ => rfl
end
/-- an error: for every heap that extends H, its own dict d new -/
def Raised (K : PySem.W.Frag) (H : Hp) (E : XK) (C : Str) (fs : List (Str × V)) : Prop := ∀ H' d, Same H H' → H d = none → H' d = some (.xd fs) → E (.ref (ga K C)) (some d) H'
theorem Raised.here {K : PySem.W.Frag} {H : Hp} {E : XK} {C : Str} {fs : List (Str × V)} (h : Raised K H E C fs) {d : Addr} (hd : H d = none) : E (.ref (ga K C)) (some d) (upd H d (.xd fs)) :=
  h _ d (fun b o e => by rw [upd_ne (ne_of_none e hd)]; exact e) hd upd_same
theorem Raised.ext {K : PySem.W.Frag} {H H1 : Hp} {E : XK} {C : Str} {fs : List (Str × V)} (e : Same H H1) (h : Raised K H E C fs) : Raised K H1 E C fs := fun H' d s1 hd h2 => h H' d (e.trans s1) (e.free hd) h2
def sp_table_of (K : PySem.W.Frag) : Sp := fun vs H Q E => ∃ (s : Sy) (x : V), vs = [.ref s.p, x] ∧ SyAt K H s ∧ Obj' H x ∧
  ((∃ i t, x = .int i ∧ lk s.tabs i = some t ∧ Q (.ref t.ad) H) ∨ ((∀ i, x = .int i → lk s.tabs i = none) ∧ Raised K H E "NoProcess" [("process", x), ("caption", .str "NoProcess")]))
section
variable {P : Program} {w : World} {K : PySem.W.Frag} {mg : Str → Option Value} {base : Heap}
theorem sc_table_of : FnScope ["self", "process"] ["self", "process"] (defScope s_System_table_of) := ⟨rfl, rfl, rfl, by decide +kernel, rfl, by decide +kernel, by decide +kernel⟩
theorem ok_table_of (T : Tx K mg) : FnOk P w K mg base (L2.CX P w) 3 (mA "System" "table_of" K) (fdAt K (mA "System" "table_of" K)) ["self", "process"] (sp_table_of K) := by
  refine FunD.ok T.f_System_table_of sc_table_of (fun vs H Q E h => ?_) (fun cdv A outer s H vs Q E hr h => ?_)
  · obtain ⟨x, lo, rfl, _⟩ := h
    rfl
  · obtain ⟨S, x, rfl, hS, hx, q⟩ := h
    have hu := hu_of hr
    refine ⟨_, pss_cons (ps_if (PW.pt (pw_or (pt_not (pt_val (pe_call (ok_is_integer T) (hr.mono (by decide)) (by rfl) T.g_is_integer T.f_is_integer.kp (b_is_integer T) .nil pass0 (pa_cons (pv 1) pa_nil)))) (pw_or1 (pt_cmp (pc_dnotin hu (pv 1) (pe_fld (pv 0) rfl))))))
        (pss_one (ps_raise rfl (takes_of rfl rfl rfl rfl) (pmk_err T.x_NoProcess (ei_NoProcess T) hr (eb_NoProcess T) pass0 (by rfl) T.g_NoProcess (pv 1)))) pss_nil)
      (pss_one (ps_ret (pe_dget hu (pe_fld (pv 0) rfl) (pv 1) (fun _ _ => rfl)))), ?_⟩
    refine ⟨_, rfl, x, rfl, hx, isI x, rfl, ?_⟩
    have rs : ∀ (i : Int) {Q' : VK}, Q' (.bl (!(lk S.tabs i).isSome)) H → tDNotIn (tVar 1) (tFld K (tVar 0) "tables") [some (.ref S.p), some (.int i)] H Q' := fun i Q' h => by
      refine ⟨_, rfl, _, rfl, _, _, _, _, _, rfl, hS.ob, T.c_System, T.n_System_tables, rfl, _, _, rfl, DGet.k (k := Sum.inl i) hS.tb, ?_⟩
      rw [val_kv, Option.isSome_map]
      exact h
    have er : ∀ {D : Ends}, Raised K H E "NoProcess" [("process", x), ("caption", .str "NoProcess")] → (∃ v, ([some (V.ref S.p), some x] : L2.St)[1]? = some (some v) ∧ ∀ d, H d = none → E (.ref (ga K "NoProcess")) (some d) (upd H d (.xd [("process", v), ("caption", .str "NoProcess")]))) := fun {D} hq => ⟨x, rfl, fun d hd => hq.here hd⟩
    cases x with
    | int i =>
      refine iteF ?_
      refine rs i ⟨_, rfl, ?_⟩
      rcases q with ⟨j, t, e, hl, q⟩ | ⟨hn, q⟩
      · cases e
        rw [hl]
        refine iteF ?_
        refine ⟨_, rfl, _, _, _, _, _, rfl, hS.ob, T.c_System, T.n_System_tables, rfl, _, rfl, _, _, rfl, ?_, q⟩
        have e := DGet.k (k := Sum.inl i) hS.tb
        rw [val_kv, hl] at e
        exact e
      · rw [hn i rfl]
        exact iteT (er (D := { nx := fun _ _ => True, rt := fun _ _ => True }) q)
    | _ =>
      refine iteT ?_
      rcases q with ⟨j, t, e, _⟩ | ⟨hn, q⟩
      · cases e
      · exact er (D := { nx := fun _ _ => True, rt := fun _ _ => True }) q
end

/-! ### a system is made -/
section
variable {P : Program} {w : World} {K : PySem.W.Frag} {mg : Str → Option Value} {base : Heap}
theorem ei_BadLimit (T : Tx K mg) : FnOk P w K mg base CX0 1 (mA "BadLimit" "__init__" K) (fdAt K (mA "BadLimit" "__init__" K)) ["self", "limit"] (spErr (ga K "BadLimit") "limit" "BadLimit") :=
  err_init T.x_BadLimit T.f_BadLimit___init__ ⟨rfl, rfl, rfl, by decide +kernel, rfl, by decide +kernel, by decide +kernel⟩ rfl ⟨by decide, by decide⟩ ⟨by decide, by decide⟩ (fun _ => ⟨rfl, rfl⟩) ⟨.inl rfl, .inl rfl⟩
theorem eb_BadLimit (T : Tx K mg) : Binds K (fdAt K (mA "BadLimit" "__init__" K)) ["self", "limit"] [] := FunD.bindsN T.f_BadLimit___init__ fun _ _ _ _ _ _ us hl => match us, hl with | [_, _], _ => rfl
end
/-- a new system -/
def newSv (P N : Int) : Sv := ⟨P, N, 0, [(0, [])], []⟩
def sp_Sys_init (K : PySem.W.Frag) : Sp := fun vs H Q E => ∃ (p dx : Addr) (x y : V), vs = [.ref p, x, y] ∧ H p = some (.ins (ga K "System") dx []) ∧ Obj' H x ∧ Obj' H y ∧
  (betw x 2 6 = false → Raised K H E "BadLimit" [("limit", x), ("caption", .str "BadLimit")]) ∧
  (betw x 2 6 = true → betw y 3 8 = false → Raised K H E "BadLimit" [("limit", y), ("caption", .str "BadLimit")]) ∧
  (∀ a b, x = .int a → y = .int b → 2 ≤ a → a ≤ 6 → 3 ≤ b → b ≤ 8 → ∀ H' s, SyAt K H' s → s.p = p → s.v = newSv a b → (∀ c o, H c = some o → c ≠ p → H' c = some o) → (∀ c ∈ s.foot, c = p ∨ H c = none) → Q .non H')
section
variable {P : Program} {w : World} {K : PySem.W.Frag} {mg : Str → Option Value} {base : Heap}
theorem sc_Sys_init : FnScope ["self", "processes", "numbers"] ["self", "processes", "numbers"] (defScope s_System___init__) := ⟨rfl, rfl, rfl, by decide +kernel, rfl, by decide +kernel, by decide +kernel⟩
theorem betw_int {x : V} {lo hi : Int} (h : betw x lo hi = true) : ∃ i, x = .int i ∧ lo ≤ i ∧ i ≤ hi := by
  cases x with
  | int i =>
    obtain ⟨h1, h2⟩ := ba (show (decide (lo ≤ i) && decide (i ≤ hi)) = true from h)
    exact ⟨i, rfl, of_decide_eq_true h1, of_decide_eq_true h2⟩
  | _ => cases h
theorem ok_Sys_init (T : Tx K mg) : FnOk P w K mg base (L2.CX P w) 4 (mA "System" "__init__" K) (fdAt K (mA "System" "__init__" K)) ["self", "processes", "numbers"] (sp_Sys_init K) := by
  refine FunD.ok T.f_System___init__ sc_Sys_init (fun vs H Q E h => ?_) (fun cdv A outer s H vs Q E hr h => ?_)
  · obtain ⟨p, dx, x, y, rfl, _⟩ := h
    rfl
  · obtain ⟨p, dx, x, y, rfl, hp, hx, hy, q1, q2, q3⟩ := h
    have hu := hu_of hr
    obtain ⟨t1, i1⟩ := T.i_LEAST_PROCESSES
    obtain ⟨t2, i2⟩ := T.i_LEAST_NUMBERS
    obtain ⟨rd, u1, v1⟩ := T.v_System_MOST_PROCESSES
    obtain ⟨_, u2, v2⟩ := T.v_System_MOST_NUMBERS
    refine ⟨_, pss_cons (ps_if (pt_not (pt_val (pe_call (ok_is_between T) (hr.mono (by decide)) (by rfl) T.g_is_between T.f_is_between.kp (b_is_between T) .nil pass0 (pa_cons (pv 1) (pa_cons (pe_glob (v := .int 2) (by rfl) i1 ⟨_, rfl⟩) (pa_cons (ClX.pe_cval (pe_glob (v := .ref (ga K "System")) (by rfl) T.g_System rfl)) pa_nil))))))
        (pss_one (ps_raise rfl (takes_of rfl rfl rfl rfl) (pmk_err T.x_BadLimit (ei_BadLimit T) (hr.mono (by decide)) (eb_BadLimit T) pass0 (by rfl) T.g_BadLimit (pv 1)))) pss_nil)
      (pss_cons (ps_if (pt_not (pt_val (pe_call (ok_is_between T) (hr.mono (by decide)) (by rfl) T.g_is_between T.f_is_between.kp (b_is_between T) .nil pass0 (pa_cons (pv 2) (pa_cons (pe_glob (v := .int 3) (by rfl) i2 ⟨_, rfl⟩) (pa_cons (ClX.pe_cval (pe_glob (v := .ref (ga K "System")) (by rfl) T.g_System rfl)) pa_nil))))))
        (pss_one (ps_raise rfl (takes_of rfl rfl rfl rfl) (pmk_err T.x_BadLimit (ei_BadLimit T) (hr.mono (by decide)) (eb_BadLimit T) pass0 (by rfl) T.g_BadLimit (pv 2)))) pss_nil)
      (pss_cons (ps_fld (pv 0) (pv 1) rfl)
      (pss_cons (ps_fld (pv 0) (pv 2) rfl)
      (pss_cons (ps_fld (pv 0) (pe_disp (pps_cons pe_int pe_dnewK pps_nil) (by rfl) (by rfl) (fun z => by cases z) (by decide)) rfl)
      (pss_cons (ps_fld (pv 0) pe_dnewK rfl)
      (pss_one (ps_fld (pv 0) pe_int rfl))))))), ?_⟩
    refine ⟨_, rfl, _, _, _, _, rfl, rd, v1, x, 2, 6, rfl, hx, _, rfl, ?_⟩
    cases c1 : betw x 2 6 with
    | false => exact iteT ⟨_, rfl, fun d hd => (q1 c1).here hd⟩
    | true =>
      refine iteF ?_
      refine ⟨_, rfl, _, _, _, _, rfl, rd, v2, y, 3, 8, rfl, hy, _, rfl, ?_⟩
      cases c2 : betw y 3 8 with
      | false => exact iteT ⟨_, rfl, fun d hd => (q2 c1 c2).here hd⟩
      | true =>
        refine iteF ?_
        obtain ⟨a, rfl, a1, a2⟩ := betw_int c1
        obtain ⟨b, rfl, b1, b2⟩ := betw_int c2
        refine ⟨_, rfl, _, rfl, p, _, dx, _, rfl, hp, T.c_System, T.n_System_process_limit, (by show 0 < 1000; decide), ?_⟩
        refine ⟨_, rfl, _, rfl, p, _, dx, _, rfl, upd_same, T.c_System, T.n_System_number_limit, (by show 1 < 1000; decide), ?_⟩
        intro tT nT tt ntt
        have nTp : tT ≠ p := fun z => by rw [z, upd_same] at nT; cases nT
        have e1 : ∀ {c : Addr}, c ≠ p → upd (upd H p (.ins (ga K "System") dx (putF "process_limit" (.int a) []))) p (.ins (ga K "System") dx (putF "number_limit" (.int b) (putF "process_limit" (.int a) []))) c = H c := fun hc => by rw [upd_ne hc, upd_ne hc]
        have ntT : tt ≠ tT := fun z => by rw [z, upd_same] at ntt; cases ntt
        have ntp : tt ≠ p := fun z => by rw [z, upd_ne (Ne.symm nTp), upd_same] at ntt; cases ntt
        refine ⟨by rw [upd_ne (Ne.symm ntT), upd_same], [(Sum.inl 0, .ref tt)], rfl, (by show 1 ≤ 15; decide), ?_⟩
        refine ⟨_, rfl, p, _, dx, putF "number_limit" (.int b) (putF "process_limit" (.int a) []), rfl, by rw [upd_ne (Ne.symm nTp), upd_ne (Ne.symm ntp), upd_ne (Ne.symm nTp), upd_same], T.c_System, T.n_System_tables, (by show 2 < 1000; decide), ?_⟩
        intro tG nG
        have nGp : tG ≠ p := fun z => by rw [z, upd_same] at nG; cases nG
        rw [upd_ne nGp] at nG
        have nGT : tG ≠ tT := fun z => by rw [z, upd_same] at nG; cases nG
        rw [upd_ne nGT] at nG
        have nGt : tG ≠ tt := fun z => by rw [z, upd_same] at nG; cases nG
        rw [upd_ne nGt, upd_ne nGT, e1 nGp] at nG
        refine ⟨_, rfl, p, _, dx, _, rfl, by rw [upd_ne (Ne.symm nGp), upd_same], T.c_System, T.n_System_things, (by show 3 < 1000; decide), ?_⟩
        refine ⟨_, rfl, p, _, dx, _, rfl, upd_same, T.c_System, T.n_System_serials_made, (by show 4 < 1000; decide), ?_⟩
        have hT0 : H tT = none := by rw [e1 nTp] at nT; exact nT
        have ht0 : H tt = none := by rw [upd_ne ntT, e1 ntp] at ntt; exact ntt
        refine q3 a b rfl rfl a1 a2 b1 b2 _ ⟨p, dx, tT, tG, a, b, 0, [(0, ⟨tt, []⟩)], []⟩ ⟨upd_same, ?_, ?_, ?_, fun t h => (nomatch h), ?_, List.nodup_nil, List.nodup_nil, List.nodup_nil⟩ rfl rfl (fun c o e hc => ?_) fun c hc => ?_
        · show _ = some (HO.dK [(Sum.inl 0, .ref tt)])
          rw [upd_ne nTp, upd_ne nTp, upd_ne (Ne.symm nGT), upd_ne nTp, upd_same]
          rfl
        · intro t ht
          cases List.mem_singleton.mp ht
          show _ = some (HO.dK [])
          rw [upd_ne ntp, upd_ne ntp, upd_ne (Ne.symm nGt), upd_ne ntp, upd_ne ntT, upd_same]
        · show _ = some (HO.dK [])
          rw [upd_ne nGp, upd_ne nGp, upd_same]
        · show ([tT, tG, tt] : List Addr).Nodup
          simp only [List.nodup_cons, List.mem_cons, List.not_mem_nil, or_false, not_or, List.nodup_nil, and_true]
          exact ⟨⟨Ne.symm nGT, Ne.symm ntT⟩, nGt, not_false⟩
        · have c1 : c ≠ tT := ne_of_none e hT0
          have c2 : c ≠ tt := ne_of_none e ht0
          have c3 : c ≠ tG := ne_of_none e nG
          rw [upd_ne hc, upd_ne hc, upd_ne c3, upd_ne hc, upd_ne c1, upd_ne c2, upd_ne c1, e1 hc]
          exact e
        · have h2 : c = p ∨ c = tT ∨ c = tG ∨ c = tt := by
            have z : c ∈ ([p, tT, tG, tt] : List Addr) := hc
            simpa using z
          rcases h2 with z | z | z | z
          · exact .inl z
          · exact .inr (z ▸ hT0)
          · exact .inr (z ▸ nG)
          · exact .inr (z ▸ ht0)
end

/-! ### looks at the limits and the processes -/
/-- a new list of data; a new tuple -/
structure NewL (K : PySem.W.Frag) (H H' : Hp) (p : Addr) (vs : List V) (ds : List PyData) : Prop where
  same : Same H H'
  new : H p = none
  at_ : H' p = some (.lst vs)
  dat : DpAll K H' vs ds
theorem NewL.dp {K : PySem.W.Frag} {H H' : Hp} {p : Addr} {vs : List V} {ds : List PyData} (n : NewL K H H' p vs ds) : Dp K H' (.ref p) (.list ds) := .lst (SqL.of n.at_) n.dat
theorem new_same {H : Hp} {p : Addr} {o : HO} (h : H p = none) : Same H (upd H p o) := fun b u e => by rw [upd_ne (ne_of_none e h)]; exact e
def sp_alive (K : PySem.W.Frag) : Sp := fun vs H Q _ => ∃ s : Sy, vs = [.ref s.p] ∧ SyAt K H s ∧ s.tabs.length < 64 ∧ ∀ p, H p = none → Q (.ref p) (upd H p (.lst ((srtI (s.tabs.map (·.1))).map V.int)))
section
variable {P : Program} {w : World} {K : PySem.W.Frag} {mg : Str → Option Value} {base : Heap}
theorem kv_keys {α : Type} (g : α → V) (l : List (Int × α)) : (kv g l).map (·.1) = (l.map (·.1)).map Sum.inl := by
  unfold kv
  rw [List.map_map, List.map_map]
  rfl
theorem sc_alive : FnScope ["self"] ["self"] (defScope s_System_alive) := ⟨rfl, rfl, rfl, by decide +kernel, rfl, by decide +kernel, by decide +kernel⟩
theorem ok_alive (T : Tx K mg) : FnOk P w K mg base CX0 1 (mA "System" "alive" K) (fdAt K (mA "System" "alive" K)) ["self"] (sp_alive K) := by
  refine FunD.ok T.f_System_alive sc_alive (fun vs H Q E h => ?_) (fun cdv A outer s H vs Q E hr h => ?_)
  · obtain ⟨x, rfl, _⟩ := h
    rfl
  · obtain ⟨S, rfl, hS, h64, q⟩ := h
    refine ⟨_, PSs.nox (pss_one (ps_ret (pe_callB (call_sortedDI rfl) (by rfl) T.free_sorted (by decide +kernel) (pa_cons (pe_fld (pv 0) rfl) pa_nil)))), ?_⟩
    refine ⟨_, rfl, _, _, _, _, _, rfl, hS.ob, T.c_System, T.n_System_tables, rfl, _, _, S.tabs.map (·.1), rfl, .inl hS.tb, kv_keys _ _, by rw [List.length_map]; exact h64, fun ys p h1 h2 np => ?_⟩
    rw [srtI_eq h1 h2]
    exact q p np
theorem b_alive (T : Tx K mg) : Binds K (fdAt K (mA "System" "alive" K)) ["self"] [] := FunD.bindsN T.f_System_alive fun _ _ _ _ _ _ us hl => match us, hl with | [_], _ => rfl
/-! ### new things -/
theorem sc_Src_init : FnScope ["self", "unread", "finished"] ["self", "unread", "finished"] (defScope s_Source___init__) := ⟨rfl, rfl, rfl, by decide +kernel, rfl, by decide +kernel, by decide +kernel⟩
theorem sc_Set_init : FnScope ["self"] ["self"] (defScope s_WaitSet___init__) := ⟨rfl, rfl, rfl, by decide +kernel, rfl, by decide +kernel, by decide +kernel⟩
end
def sp_Src_init (K : PySem.W.Frag) : Sp := fun vs H Q _ => ∃ (p dx : Addr) (u : Int) (f : Bool), vs = [.ref p, .int u, .bl f] ∧ H p = some (.ins (ga K "Source") dx []) ∧ Q .non (upd H p (.ins (ga K "Source") dx (srcF u f)))
def sp_Set_init (K : PySem.W.Frag) : Sp := fun vs H Q _ => ∃ (p dx : Addr), vs = [.ref p] ∧ H p = some (.ins (ga K "WaitSet") dx []) ∧ ∀ L R, H L = none → H R = none → L ≠ R → ∀ H', (∀ b o, H b = some o → b ≠ p → H' b = some o) → H' p = some (.ins (ga K "WaitSet") dx (setF L R)) → H' L = some (.lst []) → H' R = some (.lst []) → Q .non H'
section
variable {P : Program} {w : World} {K : PySem.W.Frag} {mg : Str → Option Value} {base : Heap}
theorem ok_Src_init (T : Tx K mg) : FnOk P w K mg base CX0 1 (mA "Source" "__init__" K) (fdAt K (mA "Source" "__init__" K)) ["self", "unread", "finished"] (sp_Src_init K) := by
  refine FunD.ok T.f_Source___init__ sc_Src_init (fun vs H Q E h => ?_) (fun cdv A outer s H vs Q E hr h => ?_)
  · obtain ⟨p, dx, u, f, rfl, _⟩ := h
    rfl
  · obtain ⟨p, dx, u, f, rfl, hp, q⟩ := h
    refine ⟨_, PSs.nox (pss_cons (ps_fld (pv 0) (pv 1) rfl) (pss_one (ps_fld (pv 0) (pv 2) rfl))), ?_⟩
    refine ⟨_, rfl, _, rfl, p, _, dx, _, rfl, hp, T.c_Source, T.n_Source_unread, (by show 0 < 1000; decide), _, rfl, _, rfl, p, _, dx, _, rfl, upd_same, T.c_Source, T.n_Source_finished, (by show 1 < 1000; decide), ?_⟩
    rw [upd_upd]
    exact q
theorem b_Src0 (T : Tx K mg) : ∃ ds, Vals [.int 0, .bl false] ds ∧ Binds K (fdAt K (mA "Source" "__init__" K)) ["self", "unread", "finished"] ds := by
  have z := FunD.binds1 (ps := ["self", "unread", "finished"]) T.f_Source___init__ 1 0 (fun z => nomatch z) rfl fun T kV doc pm an cdv ct us its l1 l2 => match us, its, l1, l2 with | [_], [_, _], _, _ => ⟨_, rfl, rfl⟩
  exact z
theorem ok_Set_init (T : Tx K mg) : FnOk P w K mg base CX0 1 (mA "WaitSet" "__init__" K) (fdAt K (mA "WaitSet" "__init__" K)) ["self"] (sp_Set_init K) := by
  refine FunD.ok T.f_WaitSet___init__ sc_Set_init (fun vs H Q E h => ?_) (fun cdv A outer s H vs Q E hr h => ?_)
  · obtain ⟨p, dx, rfl, _⟩ := h
    rfl
  · obtain ⟨p, dx, rfl, hp, q⟩ := h
    refine ⟨_, PSs.nox (pss_cons (ps_fld (pv 0) (pe_lst pa_nil) rfl) (pss_one (ps_fld (pv 0) (pe_lst pa_nil) rfl))), ?_⟩
    refine ⟨by decide, fun L nL => ?_⟩
    have pL : p ≠ L := ne_of_none hp nL
    refine ⟨_, rfl, p, _, dx, _, rfl, by rw [upd_ne pL]; exact hp, T.c_WaitSet, T.n_WaitSet_entries, (by show 0 < 1000; decide), (by decide), fun R nR => ?_⟩
    have pR : p ≠ R := fun z => by rw [← z, upd_same] at nR; cases nR
    rw [upd_ne (Ne.symm pR)] at nR
    have LR : L ≠ R := fun z => by rw [← z, upd_same] at nR; cases nR
    rw [upd_ne (Ne.symm LR)] at nR
    refine ⟨_, rfl, p, _, dx, _, rfl, by rw [upd_ne pR, upd_same], T.c_WaitSet, T.n_WaitSet_row, (by show 1 < 1000; decide), ?_⟩
    refine q L R nL nR LR _ (fun b o e hb => ?_) upd_same ?_ ?_
    · rw [upd_ne hb, upd_ne (ne_of_none e nR), upd_ne hb, upd_ne (ne_of_none e nL)]
      exact e
    · rw [upd_ne (Ne.symm pL), upd_ne LR, upd_ne (Ne.symm pL), upd_same]
    · rw [upd_ne (Ne.symm pR), upd_same]
theorem b_Set0 (T : Tx K mg) : Binds K (fdAt K (mA "WaitSet" "__init__" K)) ["self"] [] := FunD.bindsN T.f_WaitSet___init__ fun _ _ _ _ _ _ us hl => match us, hl with | [_], _ => rfl
end

/-! ### the lowest free number -/
section
variable {P : Program} {w : World} {K : PySem.W.Frag} {mg : Str → Option Value} {base : Heap}
theorem ei_Full (T : Tx K mg) : FnOk P w K mg base CX0 1 (mA "Full" "__init__" K) (fdAt K (mA "Full" "__init__" K)) ["self", "process"] (spErr (ga K "Full") "process" "Full") :=
  err_init T.x_Full T.f_Full___init__ ⟨rfl, rfl, rfl, by decide +kernel, rfl, by decide +kernel, by decide +kernel⟩ rfl ⟨by decide, by decide⟩ ⟨by decide, by decide⟩ (fun _ => ⟨rfl, rfl⟩) ⟨.inl rfl, .inl rfl⟩
theorem eb_Full (T : Tx K mg) : Binds K (fdAt K (mA "Full" "__init__" K)) ["self", "process"] [] := FunD.bindsN T.f_Full___init__ fun _ _ _ _ _ _ us hl => match us, hl with | [_, _], _ => rfl
theorem b_table_of (T : Tx K mg) : Binds K (fdAt K (mA "System" "table_of" K)) ["self", "process"] [] := FunD.bindsN T.f_System_table_of fun _ _ _ _ _ _ us hl => match us, hl with | [_, _], _ => rfl
end
theorem lowFree_some {used : List Int} {n : Int} {k : Nat} (hk : (k : Int) < n) (hb : ∀ j : Nat, j < k → (j : Int) ∈ used) (hn : (k : Int) ∉ used) : lowFree used n = some (k : Int) := by
  unfold lowFree
  rw [List.find?_map]
  have e : (List.range n.toNat).find? ((fun k : Int => decide (k ∉ used)) ∘ fun (k : Nat) => (k : Int)) = some k := by
    rw [List.find?_range_eq_some]
    refine ⟨decide_eq_true hn, List.mem_range.mpr (by omega), fun j hj => ?_⟩
    show (!decide ((j : Int) ∉ used)) = true
    rw [decide_eq_false (fun z => z (hb j hj))]
    rfl
  rw [e]
  rfl
theorem lowFree_none {used : List Int} {n : Int} (hb : ∀ j : Nat, (j : Int) < n → (j : Int) ∈ used) : lowFree used n = none := by
  unfold lowFree
  rw [List.find?_eq_none]
  intro x hx
  obtain ⟨j, hj, rfl⟩ := List.mem_map.mp hx
  have := List.mem_range.mp hj
  rw [decide_eq_false (fun z => z (hb j (by omega)))]
  exact Bool.false_ne_true
theorem lowFree_spec {used : List Int} {n k : Int} (h : lowFree used n = some k) : 0 ≤ k ∧ k < n ∧ k ∉ used := by
  unfold lowFree at h
  have h1 := List.find?_some h
  obtain ⟨j, hj, rfl⟩ := List.mem_map.mp (List.mem_of_find?_eq_some h)
  have := List.mem_range.mp hj
  exact ⟨by omega, by omega, of_decide_eq_true h1⟩
def errP (x : V) : List (Str × V) := [("process", x), ("caption", .str "NoProcess")]
def errF (x : V) : List (Str × V) := [("process", x), ("caption", .str "Full")]
/-- the first argument x: no alive process, or the process i with the table t -/
def ByProc (K : PySem.W.Frag) (s : Sy) (x : V) (H : Hp) (E : XK) (R : Int → Tb → Prop) : Prop := (∃ i t, x = .int i ∧ lk s.tabs i = some t ∧ R i t) ∨ ((∀ i, x = .int i → lk s.tabs i = none) ∧ Raised K H E "NoProcess" (errP x))
def sp_lowest_free (K : PySem.W.Frag) : Sp := fun vs H Q E => ∃ (s : Sy) (x : V), vs = [.ref s.p, x] ∧ SyAt K H s ∧ Obj' H x ∧ WF s.v ∧ ByProc K s x H E fun i t => (∀ n, lowFree (t.rows.map (·.1)) s.N = some n → Q (.int n) H) ∧ (lowFree (t.rows.map (·.1)) s.N = none → Raised K H E "Full" (errF x))
section
variable {P : Program} {w : World} {K : PySem.W.Frag} {mg : Str → Option Value} {base : Heap}
theorem sc_lowest_free : FnScope ["self", "process", "table", "number"] ["self", "process"] (defScope s_System_lowest_free) := ⟨rfl, rfl, rfl, by decide +kernel, rfl, by decide +kernel, by decide +kernel⟩
theorem ok_lowest_free (T : Tx K mg) : FnOk P w K mg base (L2.CX P w) 4 (mA "System" "lowest_free" K) (fdAt K (mA "System" "lowest_free" K)) ["self", "process"] (sp_lowest_free K) := by
  refine FunD.ok T.f_System_lowest_free sc_lowest_free (fun vs H Q E h => ?_) (fun cdv A outer s H vs Q E hr h => ?_)
  · obtain ⟨x, lo, rfl, _⟩ := h
    rfl
  · obtain ⟨S, x, rfl, hS, hx, hw, q⟩ := h
    have hu := hu_of hr
    refine ⟨_, pss_cons (ps_set (i := 2) sc_lowest_free.nd rfl (Or.inl rfl) (pe_meth (pv 0) T.c_System T.m_System_table_of (ok_table_of T) hr (b_table_of T) .nil (passes_call (takes_of rfl rfl rfl rfl) (fun _ _ _ _ h => h)) (pa_cons (pv 1) pa_nil)))
      (pss_cons (ps_for (passes_of rfl) rfl (pi_range1 (by rfl) T.free_range (pa_cons (pe_fld (pv 0) rfl) pa_nil)) (pg_name (i := 3) sc_lowest_free.nd rfl (Or.inl rfl))
        (pss_one (ps_if (pt_cmp (pc_dnotin hu (pv 3) (pv 2))) (pss_one (ps_ret (pv 3))) pss_nil)))
      (pss_one (ps_raise rfl (takes_of rfl rfl rfl rfl) (pmk_err T.x_Full (ei_Full T) (hr.mono (by decide)) (eb_Full T) pass0 (by rfl) T.g_Full (pv 1))))), ?_⟩
    refine ⟨_, rfl, S.p, S.dx, _, rfl, hS.ob, rfl, _, rfl, S, x, rfl, hS, hx, ?_⟩
    rcases q with ⟨i, t, rfl, hl, q1, q2⟩ | ⟨hn, q⟩
    · refine .inl ⟨i, t, rfl, hl, ?_⟩
      have ht := hS.tt _ (lk_mem hl)
      have hN := hw.n
      refine ⟨_, rfl, _, _, _, _, _, rfl, hS.ob, T.c_System, T.n_System_number_limit, rfl, S.N, rfl, (by have : S.v.N = S.N := rfl; omega), (by have : S.v.N = S.N := rfl; omega), ?_⟩
      refine for_range (lo := 0) (n := S.N.toNat) (fun k σ H' => H' = H ∧ (∃ v, σ = [some (.ref S.p), some (.int i), some (.ref t.ad), v]) ∧ ∀ j : Nat, j < k → (j : Int) ∈ t.rows.map (·.1)) ⟨rfl, ⟨_, rfl⟩, fun j hj => absurd hj (Nat.not_lt_zero _)⟩ ?_ ?_
      · rintro k σ H' hk ⟨rfl, ⟨v, rfl⟩, hb⟩
        have e0 : (0 : Int) + (k : Int) = (k : Int) := Int.zero_add _
        rw [e0]
        refine ⟨_, rfl, _, rfl, _, _, rfl, DGet.k (k := Sum.inl (k : Int)) ht, _, rfl, ?_⟩
        rw [val_kv, Option.isSome_map]
        cases e : lk t.rows (k : Int) with
        | none =>
          refine iteT ?_
          exact ⟨_, rfl, q1 _ (lowFree_some (by omega) hb (lk_none.mp e))⟩
        | some z =>
          refine iteF ?_
          refine ⟨rfl, ⟨_, rfl⟩, fun j hj => ?_⟩
          by_cases c : j < k
          · exact hb j c
          · have : j = k := by omega
            subst this
            exact List.mem_map.mpr ⟨_, lk_mem e, rfl⟩
      · rintro σ H' ⟨rfl, ⟨v, rfl⟩, hb⟩
        exact ⟨_, rfl, fun d hd => (q2 (lowFree_none fun j hj => hb j (by omega))).here hd⟩
    · exact .inr ⟨hn, q⟩
theorem b_lowest_free (T : Tx K mg) : Binds K (fdAt K (mA "System" "lowest_free" K)) ["self", "process"] [] := FunD.bindsN T.f_System_lowest_free fun _ _ _ _ _ _ us hl => match us, hl with | [_, _], _ => rfl
end

/-! ### things are placed in a table -/
structure Apart (s : Sy) (t : Th) : Prop where
  ad : t.ad ∉ s.foot
  ls : ∀ x ∈ t.tg.lsts, x ∉ s.foot
  en : ∀ x ∈ t.tg.ents, x ∉ s.foot
  n2 : t.tg.lsts.Nodup
  n3 : t.tg.ents.Nodup
structure Placed (K : PySem.W.Frag) (s s' : Sy) (H H' : Hp) (t : Th) (i n : Int) : Prop where
  at_ : SyAt K H' s'
  v : s'.v = s.v.place i n t.tg.v
  p : s'.p = s.p
  keep : ∀ b o, H b = some o → b ∉ s.foot → H' b = some o
  foot : ∀ b ∈ s'.foot, b ∈ s.foot ∨ b = t.ad ∨ b ∈ t.tg.lsts ∨ b ∈ t.tg.ents
def sp_placed (K : PySem.W.Frag) : Sp := fun vs H Q E => ∃ (s : Sy) (x : V) (t : Th), vs = [.ref s.p, x, .ref t.ad] ∧ SyAt K H s ∧ Obj' H x ∧ WF s.v ∧ (0 ≤ s.made ∧ s.made ≤ 1000000) ∧ TgAt K H t.ad t.tg ∧ Apart s t ∧
  ByProc K s x H E fun i tb => (∀ n, lowFree (tb.rows.map (·.1)) s.N = some n → ∀ H' s', Placed K s s' H H' t i n → Q (.int n) H') ∧ (lowFree (tb.rows.map (·.1)) s.N = none → Raised K H E "Full" (errF x))
section
variable {P : Program} {w : World} {K : PySem.W.Frag} {mg : Str → Option Value} {base : Heap}
theorem WF.fresh {s : Sy} (h : WF s.v) (hm : 0 ≤ s.made) : lk s.ths s.made = none := by
  rw [lk_none, ← Sy.sers]
  intro z
  obtain ⟨t, ht, e⟩ := List.mem_map.mp z
  have := h.rs t ht
  have e2 : s.v.made = s.made := rfl
  omega
theorem placed_of {H : Hp} {s : Sy} {t : Th} {i n : Int} {tb : Tb} (S : SyAt K H s) (hw : WF s.v) (A : Apart s t) (ht : TgAt K H t.ad t.tg) (hl : lk s.tabs i = some tb) :
    Placed K s ({ ({ ({ s with ths := s.ths ++ [(s.made, t)] } : Sy) with tabs := upAt s.tabs i (Tb.fn (· ++ [(n, s.made)])) } : Sy) with made := s.made + 1 } : Sy) H
      (upd (upd (upd H s.G (.dK (kv thV (s.ths ++ [(s.made, t)])))) tb.ad (.dK (kv V.int (tb.rows ++ [(n, s.made)])))) s.p (.ins (ga K "System") s.dx (sysF s.P s.N s.T s.G (s.made + 1)))) t i n := by
  have S1 := S.thing (n := s.made) ht A.ad A.ls A.en A.n2 A.n3
  have S2 := S1.rows (i := i) (t := tb) (f := (· ++ [(n, s.made)])) hl (by rw [← Sy.pids]; exact hw.ndp)
  have S3 := S2.count (s.made + 1)
  refine ⟨S3, ?_, rfl, fun b o e nb => ?_, fun b hb => ?_⟩
  · show (⟨s.P, s.N, s.made + 1, (upAt s.tabs i (Tb.fn (· ++ [(n, s.made)]))).map (fun t => (t.1, t.2.rows)), (s.ths ++ [(s.made, t)]).map (fun t => (t.1, t.2.tg.v))⟩ : Sv) = _
    rw [upAt_map (fun t : Tb => t.rows) (Tb.fn (· ++ [(n, s.made)])) (· ++ [(n, s.made)]) (fun _ => rfl), List.map_append]
    rfl
  · have b1 : b ≠ s.p := fun z => nb (z ▸ List.mem_cons_self)
    have b2 : b ≠ tb.ad := fun z => nb (Sy.in_dcs (z ▸ List.mem_cons_of_mem _ (List.mem_cons_of_mem _ (List.mem_map.mpr ⟨_, lk_mem hl, rfl⟩))))
    have b3 : b ≠ s.G := fun z => nb (Sy.in_dcs (z ▸ List.mem_cons_of_mem _ List.mem_cons_self))
    rw [upd_ne b1, upd_ne b2, upd_ne b3]
    exact e
  · have ads : (upAt s.tabs i (Tb.fn (· ++ [(n, s.made)]))).map (·.2.ad) = s.tabs.map (·.2.ad) := by
      unfold upAt
      rw [List.map_map]
      refine List.map_congr_left fun u _ => ?_
      show (if u.1 = i then (u.1, Tb.fn (· ++ [(n, s.made)]) u.2) else u).2.ad = u.2.ad
      split <;> rfl
    rcases Sy.foot_cases hb with z | z | z | z | z
    · exact .inl (z ▸ List.mem_cons_self)
    · have z' : b ∈ s.T :: s.G :: (upAt s.tabs i (Tb.fn (· ++ [(n, s.made)]))).map (·.2.ad) := z
      rw [ads] at z'
      exact .inl (Sy.in_dcs z')
    · have z' : b ∈ (s.ths ++ [(s.made, t)]).map (·.2.ad) := z
      rw [List.map_append] at z'
      rcases List.mem_append.mp z' with y | y
      · exact .inl (Sy.in_ths y)
      · exact .inr (.inl (List.mem_singleton.mp y))
    · have z' : b ∈ (s.ths ++ [(s.made, t)]).flatMap (·.2.tg.lsts) := z
      rw [List.flatMap_append] at z'
      rcases List.mem_append.mp z' with y | y
      · exact .inl (Sy.in_lsts y)
      · exact .inr (.inr (.inl (by simpa using y)))
    · have z' : b ∈ (s.ths ++ [(s.made, t)]).flatMap (·.2.tg.ents) := z
      rw [List.flatMap_append] at z'
      rcases List.mem_append.mp z' with y | y
      · exact .inl (Sy.in_ents y)
      · exact .inr (.inr (.inr (by simpa using y)))
theorem sc_placed : FnScope ["self", "process", "thing", "number"] ["self", "process", "thing"] (defScope s_System_placed) := ⟨rfl, rfl, rfl, by decide +kernel, rfl, by decide +kernel, by decide +kernel⟩
theorem ok_placed (T : Tx K mg) : FnOk P w K mg base (L2.CX P w) 5 (mA "System" "placed" K) (fdAt K (mA "System" "placed" K)) ["self", "process", "thing"] (sp_placed K) := by
  refine FunD.ok T.f_System_placed sc_placed (fun vs H Q E h => ?_) (fun cdv A outer s H vs Q E hr h => ?_)
  · obtain ⟨s, x, t, rfl, _⟩ := h
    rfl
  · obtain ⟨S, x, t, rfl, hS, hx, hw, hm, ht, hA, q⟩ := h
    have hu := hu_of hr
    refine ⟨_, pss_cons (ps_set (i := 3) sc_placed.nd rfl (Or.inl rfl) (pe_meth (pv 0) T.c_System T.m_System_lowest_free (ok_lowest_free T) hr (b_lowest_free T) .nil (passes_call (takes_of rfl rfl rfl rfl) (fun _ _ _ _ h => h)) (pa_cons (pv 1) pa_nil)))
      (pss_cons (ps_dput hu (pe_fld (pv 0) rfl) (pe_fld (pv 0) rfl) (pv 2) rfl)
      (pss_cons (ps_dput hu (pe_dget hu (pe_fld (pv 0) rfl) (pv 1) (fun _ _ => rfl)) (pv 3) (pe_fld (pv 0) rfl) rfl)
      (pss_cons (ps_fldaug (pv 0) pe_int in_add)
      (pss_one (ps_ret (pv 3)))))), ?_⟩
    refine ⟨_, rfl, S.p, S.dx, _, rfl, hS.ob, rfl, _, rfl, S, x, rfl, hS, hx, hw, ?_⟩
    rcases q with ⟨i, tb, rfl, hl, q1, q2⟩ | ⟨hn, q⟩
    · refine .inl ⟨i, tb, rfl, hl, fun n hn => ?_, q2⟩
      have S1 := hS.thing (n := S.made) ht hA.ad hA.ls hA.en hA.n2 hA.n3
      have hlen : S.ths.length ≤ S.made.toNat := by
        have := hw.thsM
        rw [show S.v.ths.length = S.ths.length from List.length_map ..] at this
        exact this
      have hsz : (1000001 : Nat) < sizeLine := by decide
      have g1 := DPut.k (k := Sum.inl S.made) (v := thV t) hS.gb (show (kv thV S.ths).length < sizeLine from by rw [kv_len]; omega)
      rw [put_kv thV S.made t (hw.fresh hm.1)] at g1
      refine ⟨_, rfl, _, rfl, _, _, _, _, _, rfl, hS.ob, T.c_System, T.n_System_things, rfl, _, rfl, _, _, _, _, _, rfl, hS.ob, T.c_System, T.n_System_serials_made, rfl, _, _, rfl, g1, ?_⟩
      have g2 := DGet.k (k := Sum.inl i) S1.tb
      rw [val_kv, hl] at g2
      have hf := lowFree_spec hn
      have r8 : tb.rows.length ≤ 8 := hw.rows8 (t := (i, tb.rows)) (List.mem_map.mpr ⟨_, lk_mem hl, rfl⟩)
      have g3 := DPut.k (k := Sum.inl n) (v := .int S.made) (S1.tt _ (lk_mem hl)) (by rw [kv_len]; exact Nat.lt_of_le_of_lt r8 (by decide))
      rw [put_kv V.int n S.made (lk_none.mpr hf.2.2)] at g3
      refine ⟨_, rfl, _, _, _, _, _, rfl, S1.ob, T.c_System, T.n_System_serials_made, rfl, _, rfl, _, _, _, _, _, rfl, S1.ob, T.c_System, T.n_System_tables, rfl, _, rfl, _, _, rfl, g2, _, rfl, _, _, rfl, g3, ?_⟩
      have S2 := S1.rows (i := i) (t := tb) (f := (· ++ [(n, S.made)])) hl (by rw [← Sy.pids]; exact hw.ndp)
      refine ⟨_, rfl, _, _, _, _, _, rfl, S2.ob, T.c_System, T.n_System_serials_made, rfl, _, _, rfl, rfl, _, _, S2.ob, (by show 5 < 1000; decide), _, rfl, ?_⟩
      exact q1 n hn _ _ (placed_of hS hw hA ht hl)
    · exact .inr ⟨hn, q⟩
theorem b_placed (T : Tx K mg) : Binds K (fdAt K (mA "System" "placed" K)) ["self", "process", "thing"] [] := FunD.bindsN T.f_System_placed fun _ _ _ _ _ _ us hl => match us, hl with | [_, _, _], _ => rfl
end
/-! ### new sources and sets -/
def sp_new (K : PySem.W.Frag) (tv : Tv) : Sp := fun vs H Q E => ∃ (s : Sy) (x : V), vs = [.ref s.p, x] ∧ SyAt K H s ∧ Obj' H x ∧ WF s.v ∧ (0 ≤ s.made ∧ s.made ≤ 1000000) ∧
  ByProc K s x H E fun i tb => (∀ n, lowFree (tb.rows.map (·.1)) s.N = some n → ∀ H' s', SyAt K H' s' → s'.v = s.v.place i n tv → Fr' s s' H H' → Q (.int n) H') ∧ (lowFree (tb.rows.map (·.1)) s.N = none → Raised K H E "Full" (errF x))
section
variable {P : Program} {w : World} {K : PySem.W.Frag} {mg : Str → Option Value} {base : Heap}
theorem sc_new_source : FnScope ["self", "process"] ["self", "process"] (defScope s_System_new_source) := ⟨rfl, rfl, rfl, by decide +kernel, rfl, by decide +kernel, by decide +kernel⟩
theorem ByProc.ext {s : Sy} {x : V} {H H1 : Hp} {E : XK} {R R' : Int → Tb → Prop} (e : Same H H1) (h : ByProc K s x H E R) (r : ∀ i t, lk s.tabs i = some t → R i t → R' i t) : ByProc K s x H1 E R' := by
  rcases h with ⟨i, t, rfl, hl, q⟩ | ⟨hn, q⟩
  · exact .inl ⟨i, t, rfl, hl, r i t hl q⟩
  · exact .inr ⟨hn, q.ext e⟩
/-- a thing that was made anew is placed -/
theorem new_placed {s s' : Sy} {H H1 H' : Hp} {t : Th} {i n : Int} (e : Same H H1) (n1 : H t.ad = none) (n2 : ∀ x ∈ t.tg.lsts, H x = none) (n3 : t.tg.ents = []) (P : Placed K s s' H1 H' t i n) : Fr' s s' H H' := by
  refine ⟨fun b o h nb => P.keep b o (e b o h) nb, fun b hb => ?_, P.p⟩
  rcases P.foot b hb with z | z | z | z
  · exact .inl z
  · exact .inr (z ▸ n1)
  · exact .inr (n2 b z)
  · rw [n3] at z
    cases z
theorem SyAt.notfoot {s : Sy} {H : Hp} (S : SyAt K H s) {b : Addr} (h : H b = none) : b ∉ s.foot := fun z => by
  obtain ⟨o, e⟩ := S.some_of z
  rw [h] at e
  cases e
theorem ok_new_source (T : Tx K mg) : FnOk P w K mg base (L2.CX P w) 6 (mA "System" "new_source" K) (fdAt K (mA "System" "new_source" K)) ["self", "process"] (sp_new K (.src 0 false)) := by
  refine FunD.ok T.f_System_new_source sc_new_source (fun vs H Q E h => ?_) (fun cdv A outer s H vs Q E hr h => ?_)
  · obtain ⟨s, x, rfl, _⟩ := h
    rfl
  · obtain ⟨S, x, rfl, hS, hx, hw, hm, q⟩ := h
    obtain ⟨ds, hds, hb⟩ := b_Src0 T
    refine ⟨_, pss_one (ps_ret (pe_meth (pv 0) T.c_System T.m_System_placed (ok_placed T) hr (b_placed T) .nil (passes_call (takes_of rfl rfl rfl rfl) (fun _ _ _ _ h => h)) (pa_cons (pv 1) (pa_cons (pe_make0 T.k_Source (ok_Src_init T) (hr.mono (by decide)) (by rfl) T.g_Source hb hds pass0) pa_nil)))), ?_⟩
    refine ⟨_, rfl, S.p, S.dx, _, rfl, hS.ob, rfl, _, rfl, fun a dx na nd ne => ?_⟩
    refine ⟨a, dx, 0, false, rfl, upd_same, rfl, ?_⟩
    rw [upd_upd]
    have e1 : Same H (upd (upd H dx (.own a)) a (.ins (ga K "Source") dx (srcF 0 false))) := (new_same nd).trans (new_same (by rw [upd_ne (Ne.symm ne)]; exact na))
    refine ⟨S, x, ⟨a, .src dx 0 false⟩, rfl, hS.ext e1, hx.same e1, hw, hm, upd_same, ⟨hS.notfoot na, fun x h => (nomatch h), fun x h => (nomatch h), List.nodup_nil, List.nodup_nil⟩, ?_⟩
    refine q.ext e1 fun i tb hl ⟨q1, q2⟩ => ⟨fun n hn H' s' P => q1 n hn H' s' P.at_ P.v (new_placed (t := ⟨a, .src dx 0 false⟩) e1 na (fun x h => (nomatch h)) rfl P), fun z => (q2 z).ext e1⟩
theorem b_new_source (T : Tx K mg) : Binds K (fdAt K (mA "System" "new_source" K)) ["self", "process"] [] := FunD.bindsN T.f_System_new_source fun _ _ _ _ _ _ us hl => match us, hl with | [_, _], _ => rfl
theorem sc_new_set : FnScope ["self", "process"] ["self", "process"] (defScope s_System_new_set) := ⟨rfl, rfl, rfl, by decide +kernel, rfl, by decide +kernel, by decide +kernel⟩
theorem ok_new_set (T : Tx K mg) : FnOk P w K mg base (L2.CX P w) 6 (mA "System" "new_set" K) (fdAt K (mA "System" "new_set" K)) ["self", "process"] (sp_new K (.set [] [])) := by
  refine FunD.ok T.f_System_new_set sc_new_set (fun vs H Q E h => ?_) (fun cdv A outer s H vs Q E hr h => ?_)
  · obtain ⟨s, x, rfl, _⟩ := h
    rfl
  · obtain ⟨S, x, rfl, hS, hx, hw, hm, q⟩ := h
    refine ⟨_, pss_one (ps_ret (pe_meth (pv 0) T.c_System T.m_System_placed (ok_placed T) hr (b_placed T) .nil (passes_call (takes_of rfl rfl rfl rfl) (fun _ _ _ _ h => h)) (pa_cons (pv 1) (pa_cons (pe_make0 T.k_WaitSet (ok_Set_init T) (hr.mono (by decide)) (by rfl) T.g_WaitSet (b_Set0 T) .nil pass0) pa_nil)))), ?_⟩
    refine ⟨_, rfl, S.p, S.dx, _, rfl, hS.ob, rfl, _, rfl, fun a dx na nd ne => ?_⟩
    refine ⟨a, dx, rfl, upd_same, fun L R nL nR LR H1 kp h1 h2 h3 => ⟨rfl, ?_⟩⟩
    have La : L ≠ a := fun z => by rw [z, upd_same] at nL; cases nL
    have Ra : R ≠ a := fun z => by rw [z, upd_same] at nR; cases nR
    rw [upd_ne La] at nL
    rw [upd_ne Ra] at nR
    have Ld : L ≠ dx := fun z => by rw [z, upd_same] at nL; cases nL
    have Rd : R ≠ dx := fun z => by rw [z, upd_same] at nR; cases nR
    rw [upd_ne Ld] at nL
    rw [upd_ne Rd] at nR
    have e1 : Same H H1 := fun b o e => kp b o (by rw [upd_ne (ne_of_none e na), upd_ne (ne_of_none e nd)]; exact e) (ne_of_none e na)
    have nls : ∀ x ∈ [L, R], H x = none := fun x hx => by
      rcases List.mem_cons.mp hx with z | z
      · exact z ▸ nL
      · exact (List.mem_singleton.mp z) ▸ nR
    refine ⟨S, x, ⟨a, .set dx L R [] []⟩, rfl, hS.ext e1, hx.same e1, hw, hm, ⟨h1, h2, h3, fun e he => (nomatch he)⟩, ⟨hS.notfoot na, fun x hx => hS.notfoot (nls x hx), fun x h => (nomatch h), ?_, List.nodup_nil⟩, ?_⟩
    · show [L, R].Nodup
      simp [LR]
    refine q.ext e1 fun i tb hl ⟨q1, q2⟩ => ⟨fun n hn H' s' P => q1 n hn H' s' P.at_ P.v (new_placed (t := ⟨a, .set dx L R [] []⟩) e1 na nls rfl P), fun z => (q2 z).ext e1⟩
theorem b_new_set (T : Tx K mg) : Binds K (fdAt K (mA "System" "new_set" K)) ["self", "process"] [] := FunD.bindsN T.f_System_new_set fun _ _ _ _ _ _ us hl => match us, hl with | [_, _], _ => rfl
end

/-! ### a new process -/
def errR : List (Str × V) := [("caption", .str "NoRoom")]
structure Forked (K : PySem.W.Frag) (s s' : Sy) (H H' : Hp) (c : Int) (rows : List (Int × Int)) : Prop where
  at_ : SyAt K H' s'
  v : s'.v = s.v.fork c rows
  fr : Fr' s s' H H'
def sp_fork (K : PySem.W.Frag) : Sp := fun vs H Q E => ∃ (s : Sy) (x : V), vs = [.ref s.p, x] ∧ SyAt K H s ∧ Obj' H x ∧ WF s.v ∧
  ByProc K s x H E fun i tb => (∀ c, lowFree (s.tabs.map (·.1)) s.P = some c → ∀ H' s', Forked K s s' H H' c tb.rows → Q (.int c) H') ∧ (lowFree (s.tabs.map (·.1)) s.P = none → Raised K H E "NoRoom" errR)
section
variable {P : Program} {w : World} {K : PySem.W.Frag} {mg : Str → Option Value} {base : Heap}
theorem ei_NoRoom (T : Tx K mg) : FnOk P w K mg base CX0 1 (mA "NoRoom" "__init__" K) (fdAt K (mA "NoRoom" "__init__" K)) ["self"] (spErr0 (ga K "NoRoom") "NoRoom") :=
  err_init0 T.x_NoRoom T.f_NoRoom___init__ ⟨rfl, rfl, rfl, by decide +kernel, rfl, by decide +kernel, by decide +kernel⟩ rfl (by decide) (fun _ => rfl) (.inl rfl)
theorem eb_NoRoom (T : Tx K mg) : Binds K (fdAt K (mA "NoRoom" "__init__" K)) ["self"] [] := FunD.bindsN T.f_NoRoom___init__ fun _ _ _ _ _ _ us hl => match us, hl with | [_], _ => rfl
theorem sc_fork : FnScope ["self", "process", "table", "child", "number"] ["self", "process"] (defScope s_System_fork) := ⟨rfl, rfl, rfl, by decide +kernel, rfl, by decide +kernel, by decide +kernel⟩
theorem ok_fork (T : Tx K mg) : FnOk P w K mg base (L2.CX P w) 4 (mA "System" "fork" K) (fdAt K (mA "System" "fork" K)) ["self", "process"] (sp_fork K) := by
  refine FunD.ok T.f_System_fork sc_fork (fun vs H Q E h => ?_) (fun cdv A outer s H vs Q E hr h => ?_)
  · obtain ⟨x, lo, rfl, _⟩ := h
    rfl
  · obtain ⟨S, x, rfl, hS, hx, hw, q⟩ := h
    have hu := hu_of hr
    refine ⟨_, pss_cons (ps_set (i := 2) sc_fork.nd rfl (Or.inr rfl) (pe_meth (pv 0) T.c_System T.m_System_table_of (ok_table_of T) hr (b_table_of T) .nil (passes_call (takes_of rfl rfl rfl rfl) (fun _ _ _ _ h => h)) (pa_cons (pv 1) pa_nil)))
      (pss_cons (ps_for (passes_of rfl) rfl (pi_range1 (by rfl) T.free_range (pa_cons (pe_fld (pv 0) rfl) pa_nil)) (pg_name (i := 3) sc_fork.nd rfl (Or.inl rfl))
        (pss_one (ps_if (pt_cmp (pc_dnotin hu (pv 3) (pe_fld (pv 0) rfl)))
          (pss_cons (ps_dput hu (pe_fld (pv 0) rfl) (pv 3)
            (pe_lock (pe_dc (own := [("number", 4)]) (g := gName 4) (tt := tYes) rfl sc_fork.nd (pi_keys (pv 2)) (blkOk_by (N := ["self", "process", "table", "child", "number"]) (sc := defScope s_System_fork) (by decide +kernel))
              (fun _ _ _ _ _ => pg_name (i := 4) sc_fork.nd rfl (Or.inl rfl)) (fun _ _ _ _ _ => pts_nil) (fun _ _ _ _ _ => pv 4) (fun _ _ _ _ _ => pe_dget hu (pv 2) (pv 4) (fun _ _ => rfl)))) rfl)
          (pss_one (ps_ret (pv 3)))) pss_nil)))
      (pss_one (ps_raise rfl (takes_of rfl rfl rfl rfl) (pmk_err0 T.x_NoRoom (ei_NoRoom T) (hr.mono (by decide)) (eb_NoRoom T) pass0 (by rfl) T.g_NoRoom)))), ?_⟩
    refine ⟨_, rfl, S.p, S.dx, _, rfl, hS.ob, rfl, _, rfl, S, x, rfl, hS, hx, ?_⟩
    rcases q with ⟨i, t, rfl, hl, q1, q2⟩ | ⟨hn, q⟩
    · refine .inl ⟨i, t, rfl, hl, ?_⟩
      have ht := hS.tt _ (lk_mem hl)
      have hP := hw.p
      refine ⟨_, rfl, _, _, _, _, _, rfl, hS.ob, T.c_System, T.n_System_process_limit, rfl, S.P, rfl, (by have : S.v.P = S.P := rfl; omega), (by have : S.v.P = S.P := rfl; omega), ?_⟩
      refine for_range (lo := 0) (n := S.P.toNat) (fun k σ H' => H' = H ∧ (∃ v v4, σ = [some (.ref S.p), some (.int i), some (.ref t.ad), v, v4]) ∧ ∀ j : Nat, j < k → (j : Int) ∈ S.tabs.map (·.1)) ⟨rfl, ⟨_, _, rfl⟩, fun j hj => absurd hj (Nat.not_lt_zero _)⟩ ?_ ?_
      · rintro k σ H' hk ⟨rfl, ⟨v, v4, rfl⟩, hb⟩
        have e0 : (0 : Int) + (k : Int) = (k : Int) := Int.zero_add _
        rw [e0]
        refine ⟨_, rfl, _, rfl, _, _, _, _, _, rfl, hS.ob, T.c_System, T.n_System_tables, rfl, _, _, rfl, DGet.k (k := Sum.inl (k : Int)) hS.tb, _, rfl, ?_⟩
        rw [val_kv, Option.isSome_map]
        cases e : lk S.tabs (k : Int) with
        | none =>
          refine iteT ?_
          have ef := lowFree_some (n := S.P) (by omega) hb (lk_none.mp e)
          have nd : (t.rows.map (·.1)).Nodup := hw.ndn (i, t.rows) (List.mem_map.mpr ⟨_, lk_mem hl, rfl⟩)
          refine ⟨t.ad, _, ht, True.intro, fun od => ?_⟩
          refine ⟨_, rfl, t.ad, od, rfl, .inl ⟨_, upd_same, fun D nD => ?_⟩⟩
          have nDt : D ≠ t.ad := fun z => by rw [z, upd_same] at nD; cases nD
          rw [upd_ne nDt] at nD
          have key : ∀ {H3 : Hp}, H3 = upd (upd H' t.ad (.frz od (.dK (kv V.int t.rows)))) D (.dK (kv V.int t.rows)) → upd H3 t.ad (.dK (kv V.int t.rows)) = upd H' D (.dK (kv V.int t.rows)) := fun {H3} e => by
            rw [e, upd_comm nDt, upd_upd, upd_idem ht]
          refine dc_it walk_keys (fun j H3 => H3 = upd (upd H' t.ad (.frz od (.dK (kv V.int t.rows)))) D (.dK (kv V.int (t.rows.take j)))) rfl (fun j H3 hj e => by rw [e, upd_ne (Ne.symm nDt), upd_same]) (fun j x H3 H4 hj e3 y => ?_) (fun H3 e3 => ?_)
          · obtain ⟨rfl, kk, vv, g1, rfl⟩ := y
            obtain ⟨r, hr', rfl, rfl⟩ := kv_get g1
            subst e3
            refine ⟨rfl, ?_⟩
            have lkr : lk t.rows r.1 = some r.2 := lk_of_mem nd (List.mem_of_getElem? hr')
            have dg : DGet (upd (upd H' t.ad (.frz od (.dK (kv V.int t.rows)))) D (.dK (kv V.int (t.rows.take j)))) t.ad (.int r.1) (some (.int r.2)) := .inl ⟨_, Sum.inl r.1, .inr ⟨od, by rw [upd_ne (Ne.symm nDt), upd_same]⟩, rfl, by rw [val_kv, lkr]; rfl⟩
            refine ⟨_, rfl, _, rfl, _, rfl, _, _, rfl, dg, _, Sum.inl r.1, rfl, upd_same, ?_, ?_⟩
            · rw [kv_len]
              have : (t.rows.take j).length ≤ t.rows.length := by rw [List.length_take]; exact Nat.min_le_right _ _
              have r8 : t.rows.length ≤ 8 := hw.rows8 (t := (i, t.rows)) (List.mem_map.mpr ⟨_, lk_mem hl, rfl⟩)
              exact Nat.lt_of_le_of_lt (Nat.le_trans this r8) (by decide)
            · rw [take_put nd hr', upd_upd]
          · rw [kv_len, List.take_length] at e3
            refine ⟨by rw [e3, upd_ne (Ne.symm nDt), upd_same], ?_⟩
            rw [key e3]
            have S1 := hS.ext (new_same (o := .dK (kv V.int t.rows)) nD)
            have g1 := DPut.k (k := Sum.inl (k : Int)) (v := tbV ⟨D, t.rows⟩) S1.tb (show (kv tbV S.tabs).length < sizeLine from by
              rw [kv_len]
              have := hw.tabs6
              rw [show S.v.tabs.length = S.tabs.length from List.length_map ..] at this
              exact Nat.lt_of_le_of_lt this (by decide))
            rw [put_kv tbV (k : Int) ⟨D, t.rows⟩ e] at g1
            refine ⟨_, rfl, _, _, _, _, _, rfl, S1.ob, T.c_System, T.n_System_tables, rfl, _, rfl, _, _, rfl, g1, _, rfl, ?_⟩
            have S2 := S1.proc (n := (k : Int)) (t := ⟨D, t.rows⟩) upd_same (hS.notfoot nD)
            refine q1 _ ef _ _ ⟨S2, ?_, ⟨fun b o eb nb => ?_, fun b hb => ?_, rfl⟩⟩
            · show (⟨S.P, S.N, S.made, (S.tabs ++ [((k : Int), (⟨D, t.rows⟩ : Tb))]).map (fun t : Int × Tb => (t.1, t.2.rows)), S.ths.map (fun t : Int × Th => (t.1, t.2.tg.v))⟩ : Sv) = _
              rw [List.map_append]
              rfl
            · rw [upd_ne (show b ≠ S.T from fun z => nb (z ▸ Sy.in_dcs List.mem_cons_self)), upd_ne (ne_of_none eb nD)]
              exact eb
            · rcases Sy.foot_cases hb with z | z | z | z | z
              · exact .inl (z ▸ List.mem_cons_self)
              · have z' : b ∈ S.T :: S.G :: (S.tabs ++ [((k : Int), (⟨D, t.rows⟩ : Tb))]).map (·.2.ad) := z
                rw [List.map_append] at z'
                have z2 : b ∈ S.dcs ∨ b = D := by
                  rcases List.mem_cons.mp z' with y | y
                  · exact .inl (y ▸ List.mem_cons_self)
                  · rcases List.mem_cons.mp y with y | y
                    · exact .inl (y ▸ List.mem_cons_of_mem _ List.mem_cons_self)
                    · rcases List.mem_append.mp y with y | y
                      · exact .inl (List.mem_cons_of_mem _ (List.mem_cons_of_mem _ y))
                      · exact .inr (List.mem_singleton.mp y)
                rcases z2 with y | y
                · exact .inl (Sy.in_dcs y)
                · exact .inr (y ▸ nD)
              · exact .inl (Sy.in_ths z)
              · exact .inl (Sy.in_lsts z)
              · exact .inl (Sy.in_ents z)
        | some z =>
          refine iteF ?_
          refine ⟨rfl, ⟨_, _, rfl⟩, fun j hj => ?_⟩
          by_cases c : j < k
          · exact hb j c
          · have : j = k := by omega
            subst this
            exact List.mem_map.mpr ⟨_, lk_mem e, rfl⟩
      · rintro σ H' ⟨rfl, ⟨v, v4, rfl⟩, hb⟩
        exact fun d hd => (q2 (lowFree_none fun j hj => hb j (by omega))).here hd
    · exact .inr ⟨hn, q⟩
theorem b_fork (T : Tx K mg) : Binds K (fdAt K (mA "System" "fork" K)) ["self", "process"] [] := FunD.bindsN T.f_System_fork fun _ _ _ _ _ _ us hl => match us, hl with | [_, _], _ => rfl
end

/-! ### kinds, and the numbers of a process -/
def Tv.kind : Tv → Str
  | .src _ _ => "source"
  | .set _ _ => "set"
/-- a new list of data -/
structure NewD (K : PySem.W.Frag) (H H' : Hp) (v : V) (d : PyData) : Prop where
  same : Same H H'
  dat : Dp K (frs H H') v d
theorem NewD.dp {K : PySem.W.Frag} {H H' : Hp} {v : V} {d : PyData} (n : NewD K H H' v d) : Dp K H' v d := Dp.same frs_le _ _ n.dat
section
variable {P : Program} {w : World} {K : PySem.W.Frag} {mg : Str → Option Value} {base : Heap}
/-- what stands at a thing's address -/
theorem TgAt.ins {H : Hp} {a : Addr} {tg : Tg} (h : TgAt K H a tg) : ∃ dx fs, (H a = some (.ins (ga K "Source") dx fs) ∧ ∃ d u f, tg = .src d u f) ∨ (H a = some (.ins (ga K "WaitSet") dx fs) ∧ ∃ d L R es row, tg = .set d L R es row) := by
  cases tg with
  | src dx u f => exact ⟨_, _, .inl ⟨h, _, _, _, rfl⟩⟩
  | set dx L R es row => exact ⟨_, _, .inr ⟨h.1, _, _, _, _, _, rfl⟩⟩
end

/-! ### who holds a thing -/
def hAt (tabs : List (Int × List (Int × Int))) (ser p : Int) : List (Int × Int) := match lk tabs p with
  | none => []
  | some rows => holdsIn ser p rows
theorem holds_eq (tabs : List (Int × List (Int × Int))) (ser : Int) : holds tabs ser = (srtI (tabs.map (·.1))).flatMap (hAt tabs ser) := rfl
def holdsD (l : List (Int × Int)) : List PyData := l.map fun r => .tuple [.int r.1, .int r.2]
theorem holdsIn_eq (ser p : Int) (rows : List (Int × Int)) : holdsD (holdsIn ser p rows) = ((srtI (rows.map (·.1))).filter fun n => decide (lk rows n = some ser)).map fun n => .tuple [.int p, .int n] := by
  unfold holdsD holdsIn
  rw [List.map_map]
  rfl
def sp_holders (K : PySem.W.Frag) : Sp := fun vs H Q _ => ∃ (s : Sy) (ser : Int), vs = [.ref s.p, .int ser] ∧ SyAt K H s ∧ WF0 s.v ∧ ∀ H' p, NewD K H H' (.ref p) (.list (holdsD (holds s.v.tabs ser))) → Q (.ref p) H'
theorem take_next {α : Type} {l : List α} {j : Nat} {x : α} (h : l[j]? = some x) : l.take (j + 1) = l.take j ++ [x] := by rw [List.take_succ, h]; rfl
theorem holdsIn_len {ser p : Int} {rows : List (Int × Int)} : (holdsIn ser p rows).length ≤ rows.length := by
  unfold holdsIn
  rw [List.length_map]
  refine Nat.le_trans (List.length_filter_le _ _) ?_
  rw [srtI_len, List.length_map]
  exact Nat.le_refl _
theorem WF0.hAt8 {v : Sv} (h : WF0 v) (ser p : Int) : (hAt v.tabs ser p).length ≤ 8 := by
  unfold hAt
  cases e : lk v.tabs p with
  | none => exact Nat.zero_le _
  | some rows => exact Nat.le_trans holdsIn_len (h.rows8 (lk_mem e))
theorem flat8 {l : List Int} {f : Int → List (Int × Int)} (h : ∀ p, (f p).length ≤ 8) : (l.flatMap f).length ≤ 8 * l.length := by
  induction l with
  | nil => exact Nat.zero_le _
  | cons a l ih =>
    rw [List.flatMap_cons, List.length_append, List.length_cons]
    have := h a
    omega
theorem WF0.holds48 {v : Sv} (h : WF0 v) (ser : Int) (j : Nat) : (((srtI (v.tabs.map (·.1))).take j).flatMap (hAt v.tabs ser)).length ≤ 48 := by
  have h1 := flat8 (l := (srtI (v.tabs.map (·.1))).take j) (h.hAt8 ser)
  have h2 : ((srtI (v.tabs.map (·.1))).take j).length ≤ 6 := by
    rw [List.length_take, srtI_len, List.length_map]
    exact Nat.le_trans (Nat.min_le_right _ _) h.tabs6
  omega
section
variable {P : Program} {w : World} {K : PySem.W.Frag} {mg : Str → Option Value} {base : Heap}
theorem sc_holders : FnScope ["self", "serial", "found", "process", "table", "number"] ["self", "serial"] (defScope s_System_holders) := ⟨rfl, rfl, rfl, by decide +kernel, rfl, by decide +kernel, by decide +kernel⟩
theorem ok_holders (T : Tx K mg) : FnOk P w K mg base CX0 4 (mA "System" "holders" K) (fdAt K (mA "System" "holders" K)) ["self", "serial"] (sp_holders K) := by
  refine FunD.ok T.f_System_holders sc_holders (fun vs H Q E h => ?_) (fun cdv A outer s H vs Q E hr h => ?_)
  · obtain ⟨x, lo, rfl, _⟩ := h
    rfl
  · obtain ⟨S, ser, rfl, hS, hw, q⟩ := h
    have hu := hu_of hr
    refine ⟨_, PSs.nox (pss_cons (ps_set (i := 2) sc_holders.nd rfl (Or.inl rfl) (pe_lst pa_nil))
      (pss_cons (ps_for PassesOwn.never rfl (pi_list (pe_meth0 (pv 0) T.c_System T.m_System_alive (ok_alive T) (hr.mono (by decide)) (b_alive T) .nil pass0)) (pg_name (i := 3) sc_holders.nd rfl (Or.inr rfl))
        (pss_cons (ps_set (i := 4) sc_holders.nd rfl (Or.inr rfl) (pe_dget hu (pe_fld (pv 0) rfl) (pv 3) (fun _ _ => rfl)))
        (pss_one (ps_expr (pe_bm PySem.F.plainAttrs_list PySem.F.slot_list_extend PySem.F.type_list_extend mt_extend (pv 2) (pa_cons
          (pe_lc (own := [("number", 5)]) (g := gName 5) rfl sc_holders.nd (pi_list (pe_callB (call_sortedDI rfl) (by rfl) T.free_sorted (by decide +kernel) (pa_cons (pv 4) pa_nil))) (blkOk_by (N := ["self", "serial", "found", "process", "table", "number"]) (sc := defScope s_System_holders) (by decide +kernel))
            (fun _ _ _ _ _ => pg_name (i := 5) sc_holders.nd rfl (Or.inl rfl)) (fun _ _ _ _ _ => pts_one (pt_cmpR op_eq (pe_dget hu (pv 4) (pv 5) (fun _ _ => rfl)) (pv 1) (nomark _))) (fun _ _ _ _ _ => pe_tup (pa_cons (pv 3) (pa_cons (pv 5) pa_nil)))) pa_nil))))))
      (pss_one (ps_ret (pv 2))))), ?_⟩
    refine ⟨by decide, fun F nF => ?_⟩
    have S0 := hS.ext (new_same (o := .lst []) nF)
    have h6 := hw.tabs6
    rw [show S.v.tabs.length = S.tabs.length from List.length_map ..] at h6
    refine ⟨_, rfl, S.p, S.dx, _, rfl, S0.ob, rfl, S, rfl, S0, by omega, fun pl npl => ?_⟩
    refine ⟨pl, rfl, ⟨_, SqL.of upd_same⟩, ?_⟩
    have nFl : F ≠ pl := fun z => by rw [← z, upd_same] at npl; cases npl
    have pids : S.tabs.map (·.1) = S.v.tabs.map (·.1) := (Sy.pids S).symm
    refine for_list (xs := (srtI (S.tabs.map (·.1))).map V.int) (fun j σ H3 => (∃ v3 v4 v5, σ = [some (.ref S.p), some (.int ser), some (.ref F), v3, v4, v5]) ∧ H3 pl = some (.lst ((srtI (S.tabs.map (·.1))).map V.int)) ∧ Gro K H F H3 (holdsD (((srtI (S.v.tabs.map (·.1))).take j).flatMap (hAt S.v.tabs ser))))
      ⟨⟨_, _, _, rfl⟩, upd_same, (Gro.start nF).ext (new_same npl)⟩ (fun j σ H3 hj g => SqL.of g.2.1) ?_ ?_
    · rintro j x σ H3 hx ⟨⟨v3, v4, v5, rfl⟩, hpl, g⟩
      rw [List.getElem?_map] at hx
      cases ep : (srtI (S.tabs.map (·.1)))[j]? with
      | none => rw [ep] at hx; cases hx
      | some p =>
        rw [ep] at hx
        cases hx
        obtain ⟨t, hl⟩ := lk_some_of (srtI_mem.mp (List.mem_of_getElem? ep))
        have S3 := hS.ext g.same
        have g1 := DGet.k (k := Sum.inl p) S3.tb
        rw [val_kv, hl] at g1
        have ht := S3.tt _ (lk_mem hl)
        have mem : (p, t.rows) ∈ S.v.tabs := List.mem_map.mpr ⟨_, lk_mem hl, rfl⟩
        have r8 : t.rows.length ≤ 8 := hw.rows8 mem
        have nd := hw.ndn _ mem
        obtain ⟨xs0, hF, _⟩ := g.has
        refine ⟨_, rfl, _, _, _, _, _, rfl, S3.ob, T.c_System, T.n_System_tables, rfl, _, rfl, _, _, rfl, g1, ?_⟩
        refine ⟨_, rfl, .inl ⟨rfl, _, SqL.of hF⟩, ?_⟩
        refine ⟨_, rfl, _, _, t.rows.map (·.1), rfl, .inl ht, kv_keys _ _, by rw [List.length_map]; omega, fun ys ps h1 h2 np => ?_⟩
        rw [srtI_eq h1 h2]
        refine ⟨ps, rfl, ⟨_, SqL.of upd_same⟩, fun D nD => ?_⟩
        have eH : Same H3 (upd H3 ps (.lst ((srtI (t.rows.map (·.1))).map V.int))) := new_same np
        refine lc_list (xs := (srtI (t.rows.map (·.1))).map V.int) (fun j H4 => Gro K (upd H3 ps (.lst ((srtI (t.rows.map (·.1))).map V.int))) D H4 ((((srtI (t.rows.map (·.1))).take j).filter fun n => decide (lk t.rows n = some ser)).map fun n => .tuple [.int p, .int n])) (Gro.start nD) (fun j H4 hj g => SqL.of (g.same _ _ upd_same)) (fun j x H4 hx gg => ?_) (fun H4 gg => ?_)
        · rw [List.getElem?_map] at hx
          cases en : (srtI (t.rows.map (·.1)))[j]? with
          | none => rw [en] at hx; cases hx
          | some n =>
            rw [en] at hx
            cases hx
            obtain ⟨z, hz⟩ := lk_some_of (srtI_mem.mp (List.mem_of_getElem? en))
            have S4 := S3.ext (eH.trans gg.same)
            have g2 := DGet.k (k := Sum.inl n) (S4.tt _ (lk_mem hl))
            rw [val_kv, hz] at g2
            refine ⟨rfl, _, rfl, _, rfl, _, _, rfl, g2, _, rfl, rfl, _, rfl, ?_⟩
            rw [take_next en, List.filter_append, List.map_append]
            have fl : ∀ (m : Nat), ((((srtI (t.rows.map (·.1))).take m).filter fun n => decide (lk t.rows n = some ser)).map fun n => (PyData.tuple [.int p, .int n])).length ≤ 8 := fun m => by
              rw [List.length_map]
              refine Nat.le_trans (List.length_filter_le _ _) ?_
              rw [List.length_take, srtI_len, List.length_map]
              exact Nat.le_trans (Nat.min_le_right _ _) r8
            by_cases c : z = ser
            · subst c
              rw [decide_eq_true (show V.int z = V.int z from rfl)]
              refine iteT ?_
              refine ⟨_, rfl, _, rfl, (by show 2 ≤ sizeLine; decide), fun p' np' => ?_⟩
              have d0 := gg.tup (Same.refl _) np' (vs := [.int p, .int n]) (es := [.int p, .int n]) (.cons (.int p) (.cons (.int n) .nil))
              obtain ⟨acc, a1, a2, a3⟩ := gg.add (new_same np') d0
              refine ⟨acc, a1, by rw [a2]; exact Nat.lt_of_le_of_lt (fl j) (by decide), ?_⟩
              rw [List.filter_cons, if_pos (decide_eq_true hz)]
              exact a3
            · rw [decide_eq_false (show V.int z ≠ V.int ser from fun q => c (V.int.inj q))]
              refine iteF ?_
              rw [List.filter_cons, if_neg (by rw [hz]; simpa using c), List.filter_nil, List.map_nil, List.append_nil]
              exact gg
        · rw [show ((srtI (t.rows.map (·.1))).map V.int).length = (srtI (t.rows.map (·.1))).length from List.length_map .., List.take_length, ← holdsIn_eq] at gg
          obtain ⟨xs, zs, a1, a2, a3, a4, a5⟩ := (g.ext eH).addAll gg
          refine ⟨_, _, xs, zs, rfl, rfl, a1, a2, ?_, ?_⟩
          · rw [a3, a4]
            have l1 := hw.holds48 ser j
            have l2 := holdsIn_len (ser := ser) (p := p) (rows := t.rows)
            have z1 : (holdsD (((srtI (S.v.tabs.map (·.1))).take j).flatMap (hAt S.v.tabs ser))).length = (((srtI (S.v.tabs.map (·.1))).take j).flatMap (hAt S.v.tabs ser)).length := List.length_map ..
            have z2 : (holdsD (holdsIn ser p t.rows)).length = (holdsIn ser p t.rows).length := List.length_map ..
            have z3 : (64 : Nat) ≤ sizeLine := by decide
            omega
          · have plF : pl ≠ F := Ne.symm nFl
            refine ⟨⟨_, _, _, rfl⟩, ?_, ?_⟩
            · rw [upd_ne plF]
              exact gg.same _ _ (eH _ _ hpl)
            · rw [← pids] 
              rw [take_next ep, List.flatMap_append]
              have e1 : holdsD (((srtI (S.tabs.map (·.1))).take j).flatMap (hAt S.v.tabs ser) ++ [p].flatMap (hAt S.v.tabs ser)) = holdsD (((srtI (S.v.tabs.map (·.1))).take j).flatMap (hAt S.v.tabs ser)) ++ holdsD (holdsIn ser p t.rows) := by
                unfold holdsD
                rw [List.map_append, pids]
                congr 2
                show hAt S.v.tabs ser p ++ [] = _
                rw [List.append_nil]
                unfold hAt
                rw [Sy.tabs_v, hl]
                rfl
              rw [e1]
              exact a5
    · rintro σ H3 ⟨⟨v3, v4, v5, rfl⟩, hpl, g⟩
      rw [show ((srtI (S.tabs.map (·.1))).map V.int).length = (srtI (S.v.tabs.map (·.1))).length from by rw [List.length_map, pids], List.take_length] at g
      exact ⟨_, rfl, q _ _ ⟨g.same, g.fin⟩⟩
theorem b_holders (T : Tx K mg) : Binds K (fdAt K (mA "System" "holders" K)) ["self", "serial"] [] := FunD.bindsN T.f_System_holders fun _ _ _ _ _ _ us hl => match us, hl with | [_, _], _ => rfl
end

/-! ### names, and the sets in the order of their names -/
def nameAt (v : Sv) (ser : Int) : Int × Int := (holds v.tabs ser).headD (0, 0)
def nameD (v : Sv) (ser : Int) : PyData := .tuple [.int (nameAt v ser).1, .int (nameAt v ser).2]
def sp_name_of (K : PySem.W.Frag) : Sp := fun vs H Q _ => ∃ (s : Sy) (ser : Int), vs = [.ref s.p, .int ser] ∧ SyAt K H s ∧ WF0 s.v ∧ holds s.v.tabs ser ≠ [] ∧ ∀ H' v, NewD K H H' v (nameD s.v ser) → Q v H'
def kdN (v : Sv) : V → PyData
  | .int ser => nameD v ser
  | _ => .tuple [.int 0, .int 0]
def setSers (v : Sv) : List Int := (v.ths.filter fun t => t.2.isSet).map (·.1)
def setsIn (v : Sv) : List Int := (setSers v).mergeSort fun a b => PySem.W.dataLe false (kdN v) (.int a) (.int b)
theorem setsIn_perm (v : Sv) : (setsIn v).Perm (setSers v) := List.mergeSort_perm _ _
theorem kdN_tup (v : Sv) (x : V) : ∃ a b, kdN v x = .tuple [.int a, .int b] := by
  cases x with
  | int i => exact ⟨_, _, rfl⟩
  | _ => exact ⟨0, 0, rfl⟩
theorem WF.held' {v : Sv} (h : WF v) {t : Int × Tv} (ht : t ∈ v.ths) : holds v.tabs t.1 ≠ [] := by
  obtain ⟨u, hu, r, hr, e⟩ := h.held t ht
  have l1 : lk v.tabs u.1 = some u.2 := lk_of_mem h.ndp hu
  have l2 : lk u.2 r.1 = some t.1 := by rw [lk_of_mem (h.ndn u hu) (show (r.1, r.2) ∈ u.2 from hr), e]
  intro z
  rw [holds_eq] at z
  have z1 := List.flatMap_eq_nil_iff.mp z u.1 (srtI_mem.mpr (List.mem_map.mpr ⟨u, hu, rfl⟩))
  unfold hAt at z1
  rw [l1] at z1
  unfold holdsIn at z1
  have z2 := List.map_eq_nil_iff.mp z1
  have : r.1 ∈ (srtI (u.2.map (·.1))).filter fun n => decide (lk u.2 n = some t.1) := List.mem_filter.mpr ⟨srtI_mem.mpr (List.mem_map.mpr ⟨r, hr, rfl⟩), decide_eq_true l2⟩
  rw [z2] at this
  cases this
/-- every set is held -/
def HeldS (v : Sv) : Prop := ∀ t ∈ v.ths, t.2.isSet = true → holds v.tabs t.1 ≠ []
theorem WF.heldS {v : Sv} (h : WF v) : HeldS v := fun t ht _ => h.held' ht
def sp_set_serials (K : PySem.W.Frag) : Sp := fun vs H Q _ => ∃ (s : Sy), vs = [.ref s.p] ∧ SyAt K H s ∧ WF0 s.v ∧ HeldS s.v ∧ s.made ≤ 1000000 ∧ ∀ H' p, Same H H' → H p = none → H' p = some (.lst ((setsIn s.v).map V.int)) → Q (.ref p) H'
section
variable {P : Program} {w : World} {K : PySem.W.Frag} {mg : Str → Option Value} {base : Heap}
theorem sc_name_of : FnScope ["self", "serial"] ["self", "serial"] (defScope s_System_name_of) := ⟨rfl, rfl, rfl, by decide +kernel, rfl, by decide +kernel, by decide +kernel⟩
theorem ok_name_of (T : Tx K mg) : FnOk P w K mg base CX0 5 (mA "System" "name_of" K) (fdAt K (mA "System" "name_of" K)) ["self", "serial"] (sp_name_of K) := by
  refine FunD.ok T.f_System_name_of sc_name_of (fun vs H Q E h => ?_) (fun cdv A outer s H vs Q E hr h => ?_)
  · obtain ⟨x, lo, rfl, _⟩ := h
    rfl
  · obtain ⟨S, ser, rfl, hS, hw, hn, q⟩ := h
    refine ⟨_, PSs.nox (pss_one (ps_ret (pe_ix ix_list (pe_meth (pv 0) T.c_System T.m_System_holders (ok_holders T) hr (b_holders T) .nil pass0 (pa_cons (pv 1) pa_nil)) pe_int (fun _ _ => rfl)))), ?_⟩
    refine ⟨_, rfl, S.p, S.dx, _, rfl, hS.ob, rfl, _, rfl, S, ser, rfl, hS, hw, fun H' p nd => ?_⟩
    cases e : holds S.v.tabs ser with
    | nil => exact (hn e).elim
    | cons r rest =>
      have nd' := nd.dat
      rw [e] at nd'
      generalize eV : V.ref p = vp at nd'
      cases nd' with
      | lst hs ha =>
        cases eV
        cases ha with
        | cons h1 h2 =>
          refine ⟨_, _, _, _, rfl, rfl, Same.seq frs_le hs, atI_nat (j := 0) rfl, q _ _ ⟨nd.same, ?_⟩⟩
          have : nameAt S.v ser = r := by unfold nameAt; rw [e]; rfl
          unfold nameD
          rw [this]
          exact h1
theorem b_name_of (T : Tx K mg) : Binds K (fdAt K (mA "System" "name_of" K)) ["self", "serial"] [] := FunD.bindsN T.f_System_name_of fun _ _ _ _ _ _ us hl => match us, hl with | [_, _], _ => rfl
theorem bm_name_of (T : Tx K mg) : BMeth K (ga K "System") "name_of" (mA "System" "name_of" K) := ⟨T.m_System_name_of, T.bm_System_name_of.1, T.bm_System_name_of.2.1, by decide, T.bm_System_name_of.2.2⟩
theorem sc_set_serials : FnScope ["self", "found", "serial"] ["self"] (defScope s_System_set_serials) := ⟨rfl, rfl, rfl, by decide +kernel, rfl, by decide +kernel, by decide +kernel⟩
theorem ok_set_serials (T : Tx K mg) : FnOk P w K mg base CX0 8 (mA "System" "set_serials" K) (fdAt K (mA "System" "set_serials" K)) ["self"] (sp_set_serials K) := by
  refine FunD.ok T.f_System_set_serials sc_set_serials (fun vs H Q E h => ?_) (fun cdv A outer s H vs Q E hr h => ?_)
  · obtain ⟨x, rfl, _⟩ := h
    rfl
  · obtain ⟨S, rfl, hS, hw, hld, hm, q⟩ := h
    have hu := hu_of hr
    refine ⟨_, PSs.nox (pss_cons (ps_lock (ps_setLc (i := 1) (own := [("serial", 2)]) (g := gName 2) rfl sc_set_serials.nd rfl rfl (sw_true rfl rfl rfl (by decide +kernel)) (pi_keys (pe_fld (pv 0) rfl)) (blkOk_by (N := ["self", "found", "serial"]) (sc := defScope s_System_set_serials) (by decide +kernel))
        (fun _ _ _ _ _ => pg_name (i := 2) sc_set_serials.nd rfl (Or.inl rfl)) (fun _ _ _ _ _ => pts_one (pt_val (pe_callB (call_isiK K) (by rfl) T.free_isinstance (by decide +kernel) (pa_cons (pe_dget hu (pe_fldK K (pv 0) rfl) (pv 2) (fun _ _ => rfl)) (pa_cons (pe_glob (v := .ref (ga K "WaitSet")) (by rfl) T.g_WaitSet rfl) pa_nil))))) (fun _ _ _ _ _ => pv 2)))
      (pss_one (ps_ret (pe_callBK (cr_sortMet (ok_name_of T) (hr.mono (by decide)) (b_name_of T) (fun _ _ _ _ h => h)) (by rfl) T.free_sorted (by decide +kernel) (pa_cons (pv 1) pa_nil) (pk_cons (pe_met (pv 0) T.c_System (bm_name_of T)) pk_nil))))), ?_⟩
    have nGp : S.p ≠ S.G := Ne.symm (hS.np (.inl (List.mem_cons_of_mem _ List.mem_cons_self)))
    refine ⟨S.G, _, hS.gb, True.intro, fun od => ?_⟩
    have kpO : ∀ {b : Addr} {o : HO}, b ≠ S.G → H b = some o → upd H S.G (.frz od (.dK (kv thV S.ths))) b = some o := fun h e => by rw [upd_ne h]; exact e
    refine ⟨_, rfl, _, _, _, _, _, rfl, kpO nGp hS.ob, T.c_System, T.n_System_things, rfl, S.G, od, rfl, .inl ⟨_, upd_same, fun D nD => ?_⟩⟩
    have nDG : D ≠ S.G := fun z => by rw [z, upd_same] at nD; cases nD
    have nD0 : H D = none := by rw [upd_ne nDG] at nD; exact nD
    have len : S.ths.length ≤ S.made.toNat := by
      have := hw.thsM
      rw [show S.v.ths.length = S.ths.length from List.length_map ..] at this
      exact this
    have sL : (1000000 : Nat) < sizeLine := by decide
    refine lc_it walk_keys (fun j H3 => H3 = upd (upd H S.G (.frz od (.dK (kv thV S.ths)))) D (.lst ((((S.ths.take j).filter fun t => t.2.tg.v.isSet).map (·.1)).map V.int))) rfl (fun j H3 hj e => by rw [e, upd_ne (Ne.symm nDG), upd_same]) (fun j x H3 H4 hj e3 y => ?_) (fun H3 e3 => ?_)
    · obtain ⟨rfl, kk, vv, g1, rfl⟩ := y
      obtain ⟨r, hr', rfl, rfl⟩ := kv_get g1
      subst e3
      have lkr : lk S.ths r.1 = some r.2 := lk_of_mem (by rw [← Sy.sers]; exact hw.nds) (List.mem_of_getElem? hr')
      have kp3 : ∀ {b : Addr} {o : HO}, b ≠ S.G → H b = some o → upd (upd H S.G (.frz od (.dK (kv thV S.ths)))) D (.lst ((((S.ths.take j).filter fun t => t.2.tg.v.isSet).map (·.1)).map V.int)) b = some o := fun h e => by rw [upd_ne (ne_of_none e nD0)]; exact kpO h e
      have dg : DGet (upd (upd H S.G (.frz od (.dK (kv thV S.ths)))) D (.lst ((((S.ths.take j).filter fun t => t.2.tg.v.isSet).map (·.1)).map V.int))) S.G (.int r.1) (some (thV r.2)) := .inl ⟨_, Sum.inl r.1, .inr ⟨od, by rw [upd_ne (Ne.symm nDG), upd_same]⟩, rfl, by rw [val_kv, lkr]; rfl⟩
      have mr := List.mem_of_getElem? hr'
      have ra : r.2.ad ≠ S.G := hS.dc_th (List.mem_cons_of_mem _ List.mem_cons_self) (.inl (Sy.th_in mr))
      refine ⟨rfl, _, rfl, _, _, _, _, _, rfl, kp3 nGp hS.ob, T.c_System, T.n_System_things, rfl, _, rfl, _, _, rfl, dg, ?_⟩
      rw [take_next hr', List.filter_append, List.map_append, List.map_append]
      obtain ⟨dx, fs, hi⟩ := (hS.gt _ mr).ins
      rcases hi with ⟨h1, d, u, f, etg⟩ | ⟨h1, d, L, R, es, row, etg⟩
      · refine ⟨_, _, .ref (ga K "Source"), .ref (ga K "WaitSet"), false, rfl, .own _, .base (.ins (kp3 ra h1) T.c_Source T.ci_Source (cls_get K) (cls_tak K) T.o_Source), T.q_Source_WaitSet, _, rfl, ?_⟩
        refine iteF ?_
        rw [List.filter_cons, if_neg (by rw [etg]; exact fun z => (nomatch z)), List.filter_nil, List.map_nil, List.map_nil, List.append_nil]
      · refine ⟨_, _, .ref (ga K "WaitSet"), .ref (ga K "WaitSet"), true, rfl, .own _, .base (.ins (kp3 ra h1) T.c_WaitSet T.ci_WaitSet (cls_get K) (cls_tak K) T.o_WaitSet), T.q_WaitSet_WaitSet, _, rfl, ?_⟩
        refine iteT ?_
        refine ⟨_, rfl, _, upd_same, ?_, ?_⟩
        · rw [List.length_map, List.length_map]
          have l1 := List.length_filter_le (fun t : Int × Th => t.2.tg.v.isSet) (S.ths.take j)
          rw [List.length_take] at l1
          omega
        · rw [List.filter_cons, if_pos (by rw [etg]; rfl), upd_upd]
          rfl
    · rw [kv_len, List.take_length] at e3
      refine ⟨by rw [e3, upd_ne (Ne.symm nDG), upd_same], ?_⟩
      have eH : upd H3 S.G (.dK (kv thV S.ths)) = upd H D (.lst ((setSers S.v).map V.int)) := by
        have es : (S.ths.filter fun t => t.2.tg.v.isSet).map (·.1) = setSers S.v := by
          unfold setSers
          show _ = ((S.ths.map fun t => (t.1, t.2.tg.v)).filter fun t => t.2.isSet).map (·.1)
          rw [List.filter_map, List.map_map]
          rfl
        rw [e3, es, upd_comm nDG, upd_upd, upd_idem hS.gb]
      rw [eH]
      have eD : Same H (upd H D (.lst ((setSers S.v).map V.int))) := new_same nD0
      have S1 := hS.ext eD
      refine ⟨_, rfl, _, rfl, S.p, S.dx, _, rfl, S1.ob, rfl, fun qm nq => ?_⟩
      have eq := new_same (o := .met (mA "System" "name_of" K) S.p) nq
      have kt := kdN_tup S.v
      refine ⟨D, qm, S.p, (setSers S.v).map V.int, kdN S.v, rfl, rfl, SqL.of (eq _ _ upd_same), upd_same, ?_, ?_, ?_, ?_, ?_⟩
      · exact PySem.W.AllAlike.of fun b b' => by
          obtain ⟨a1, a2, e1⟩ := kt b
          obtain ⟨b1, b2, e2⟩ := kt b'
          rw [e1, e2]
          rfl
      · exact PySem.W.Sortable.tuples fun b => by
          obtain ⟨a1, a2, e1⟩ := kt b
          exact ⟨_, _, e1⟩
      · intro x _
        obtain ⟨a1, a2, e1⟩ := kt x
        rw [e1]
        simp [PyData.depth, PyData.depthAll]
      · intro H1 x e1 hx
        obtain ⟨ser, hser, rfl⟩ := List.mem_map.mp hx
        obtain ⟨t, ht, rfl⟩ := List.mem_map.mp hser
        exact ⟨S, t.1, rfl, S1.ext (eq.trans e1), hw, hld _ (List.mem_filter.mp ht).1 (List.mem_filter.mp ht).2, fun H' v nd => ⟨nd.same, nd.dp⟩⟩
      · intro H2 p e2 np
        have e3 : Same H H2 := eD.trans (eq.trans e2)
        refine q _ _ (e3.trans (new_same np)) (e3.free np) ?_
        rw [upd_same]
        unfold setsIn
        rw [List.map_mergeSort (s := PySem.W.dataLe false (kdN S.v)) (fun a _ b _ => rfl)]
theorem b_set_serials (T : Tx K mg) : Binds K (fdAt K (mA "System" "set_serials" K)) ["self"] [] := FunD.bindsN T.f_System_set_serials fun _ _ _ _ _ _ us hl => match us, hl with | [_], _ => rfl
end

/-! ### what a number means -/
def errN (c : Str) (y : V) : List (Str × V) := [("number", y), ("caption", .str c)]
def ByNum (K : PySem.W.Frag) (t : Tb) (y : V) (H : Hp) (E : XK) (R : Int → Int → Prop) : Prop := (∃ n ser, y = .int n ∧ lk t.rows n = some ser ∧ R n ser) ∨ ((∀ n, y = .int n → lk t.rows n = none) ∧ Raised K H E "NotOpen" (errN "NotOpen" y))
def BySrc (K : PySem.W.Frag) (s : Sy) (x y : V) (H : Hp) (E : XK) (R : Int → Tb → Int → Int → Th → Prop) : Prop := ByProc K s x H E fun i t => ByNum K t y H E fun n ser => ∀ th, lk s.ths ser = some th → (th.tg.v.isSet = false → R i t n ser th) ∧ (th.tg.v.isSet = true → Raised K H E "NotASource" (errN "NotASource" y))
def BySet (K : PySem.W.Frag) (s : Sy) (x y : V) (H : Hp) (E : XK) (R : Int → Tb → Int → Int → Th → Prop) : Prop := ByProc K s x H E fun i t => ByNum K t y H E fun n ser => ∀ th, lk s.ths ser = some th → (th.tg.v.isSet = true → R i t n ser th) ∧ (th.tg.v.isSet = false → Raised K H E "NotASet" (errN "NotASet" y))
def sp_serial_at (K : PySem.W.Frag) : Sp := fun vs H Q E => ∃ (s : Sy) (x y : V), vs = [.ref s.p, x, y] ∧ SyAt K H s ∧ Obj' H x ∧ Obj' H y ∧ ByProc K s x H E fun _ t => ByNum K t y H E fun _ ser => Q (.int ser) H
def sp_source_at (K : PySem.W.Frag) : Sp := fun vs H Q E => ∃ (s : Sy) (x y : V), vs = [.ref s.p, x, y] ∧ SyAt K H s ∧ WF s.v ∧ Obj' H x ∧ Obj' H y ∧ BySrc K s x y H E fun _ _ _ ser _ => Q (.int ser) H
def sp_set_at (K : PySem.W.Frag) : Sp := fun vs H Q E => ∃ (s : Sy) (x y : V), vs = [.ref s.p, x, y] ∧ SyAt K H s ∧ WF s.v ∧ Obj' H x ∧ Obj' H y ∧ BySet K s x y H E fun _ _ _ ser _ => Q (.int ser) H
section
variable {P : Program} {w : World} {K : PySem.W.Frag} {mg : Str → Option Value} {base : Heap}
theorem ei_NotOpen (T : Tx K mg) : FnOk P w K mg base CX0 1 (mA "NotOpen" "__init__" K) (fdAt K (mA "NotOpen" "__init__" K)) ["self", "number"] (spErr (ga K "NotOpen") "number" "NotOpen") :=
  err_init T.x_NotOpen T.f_NotOpen___init__ ⟨rfl, rfl, rfl, by decide +kernel, rfl, by decide +kernel, by decide +kernel⟩ rfl ⟨by decide, by decide⟩ ⟨by decide, by decide⟩ (fun _ => ⟨rfl, rfl⟩) ⟨.inl rfl, .inl rfl⟩
theorem eb_NotOpen (T : Tx K mg) : Binds K (fdAt K (mA "NotOpen" "__init__" K)) ["self", "number"] [] := FunD.bindsN T.f_NotOpen___init__ fun _ _ _ _ _ _ us hl => match us, hl with | [_, _], _ => rfl
theorem ei_NotASource (T : Tx K mg) : FnOk P w K mg base CX0 1 (mA "NotASource" "__init__" K) (fdAt K (mA "NotASource" "__init__" K)) ["self", "number"] (spErr (ga K "NotASource") "number" "NotASource") :=
  err_init T.x_NotASource T.f_NotASource___init__ ⟨rfl, rfl, rfl, by decide +kernel, rfl, by decide +kernel, by decide +kernel⟩ rfl ⟨by decide, by decide⟩ ⟨by decide, by decide⟩ (fun _ => ⟨rfl, rfl⟩) ⟨.inl rfl, .inl rfl⟩
theorem eb_NotASource (T : Tx K mg) : Binds K (fdAt K (mA "NotASource" "__init__" K)) ["self", "number"] [] := FunD.bindsN T.f_NotASource___init__ fun _ _ _ _ _ _ us hl => match us, hl with | [_, _], _ => rfl
theorem ei_NotASet (T : Tx K mg) : FnOk P w K mg base CX0 1 (mA "NotASet" "__init__" K) (fdAt K (mA "NotASet" "__init__" K)) ["self", "number"] (spErr (ga K "NotASet") "number" "NotASet") :=
  err_init T.x_NotASet T.f_NotASet___init__ ⟨rfl, rfl, rfl, by decide +kernel, rfl, by decide +kernel, by decide +kernel⟩ rfl ⟨by decide, by decide⟩ ⟨by decide, by decide⟩ (fun _ => ⟨rfl, rfl⟩) ⟨.inl rfl, .inl rfl⟩
theorem eb_NotASet (T : Tx K mg) : Binds K (fdAt K (mA "NotASet" "__init__" K)) ["self", "number"] [] := FunD.bindsN T.f_NotASet___init__ fun _ _ _ _ _ _ us hl => match us, hl with | [_, _], _ => rfl
theorem sc_serial_at : FnScope ["self", "process", "number", "table"] ["self", "process", "number"] (defScope s_System_serial_at) := ⟨rfl, rfl, rfl, by decide +kernel, rfl, by decide +kernel, by decide +kernel⟩
theorem ok_serial_at (T : Tx K mg) : FnOk P w K mg base (L2.CX P w) 4 (mA "System" "serial_at" K) (fdAt K (mA "System" "serial_at" K)) ["self", "process", "number"] (sp_serial_at K) := by
  refine FunD.ok T.f_System_serial_at sc_serial_at (fun vs H Q E h => ?_) (fun cdv A outer s H vs Q E hr h => ?_)
  · obtain ⟨s, x, y, rfl, _⟩ := h
    rfl
  · obtain ⟨S, x, y, rfl, hS, hx, hy, q⟩ := h
    have hu := hu_of hr
    refine ⟨_, pss_cons (ps_set (i := 3) sc_serial_at.nd rfl (Or.inl rfl) (pe_meth (pv 0) T.c_System T.m_System_table_of (ok_table_of T) hr (b_table_of T) .nil (passes_call (takes_of rfl rfl rfl rfl) (fun _ _ _ _ h => h)) (pa_cons (pv 1) pa_nil)))
      (pss_cons (ps_if (PW.pt (pw_or (pt_not (pt_val (pe_call (ok_is_integer T) (hr.mono (by decide)) (by rfl) T.g_is_integer T.f_is_integer.kp (b_is_integer T) .nil pass0 (pa_cons (pv 2) pa_nil)))) (pw_or1 (pt_cmp (pc_dnotin hu (pv 2) (pv 3))))))
        (pss_one (ps_raise rfl (takes_of rfl rfl rfl rfl) (pmk_err T.x_NotOpen (ei_NotOpen T) (hr.mono (by decide)) (eb_NotOpen T) pass0 (by rfl) T.g_NotOpen (pv 2)))) pss_nil)
      (pss_one (ps_ret (pe_dget hu (pv 3) (pv 2) (fun _ _ => rfl))))), ?_⟩
    refine ⟨_, rfl, S.p, S.dx, _, rfl, hS.ob, rfl, _, rfl, S, x, rfl, hS, hx, ?_⟩
    rcases q with ⟨i, t, rfl, hl, q⟩ | ⟨hn, q⟩
    · refine .inl ⟨i, t, rfl, hl, ?_⟩
      have ht := hS.tt _ (lk_mem hl)
      refine ⟨_, rfl, y, rfl, hy, isI y, rfl, ?_⟩
      rcases q with ⟨n, ser, rfl, hs, q⟩ | ⟨hn, q⟩
      · have g := DGet.k (k := Sum.inl n) ht
        rw [val_kv, hs] at g
        refine iteF ⟨_, rfl, _, rfl, _, _, rfl, g, _, rfl, iteF ?_⟩
        exact ⟨_, rfl, _, rfl, _, _, rfl, g, q⟩
      · have er : ∃ v, ([some (V.ref S.p), some (V.int i), some y, some (V.ref t.ad)] : L2.St)[2]? = some (some v) ∧ ∀ d, H d = none → E (.ref (ga K "NotOpen")) (some d) (upd H d (.xd [("number", v), ("caption", .str "NotOpen")])) := ⟨y, rfl, fun d hd => q.here hd⟩
        cases y with
        | int n =>
          have g := DGet.k (k := Sum.inl n) ht
          rw [val_kv, hn n rfl] at g
          exact iteF ⟨_, rfl, _, rfl, _, _, rfl, g, _, rfl, iteT er⟩
        | _ => exact iteT er
    · exact .inr ⟨hn, q⟩
theorem b_serial_at (T : Tx K mg) : Binds K (fdAt K (mA "System" "serial_at" K)) ["self", "process", "number"] [] := FunD.bindsN T.f_System_serial_at fun _ _ _ _ _ _ us hl => match us, hl with | [_, _, _], _ => rfl
theorem WF.thing {s : Sy} (hw : WF s.v) {i n ser : Int} {t : Tb} (hl : lk s.tabs i = some t) (hs : lk t.rows n = some ser) : ∃ th, lk s.ths ser = some th := by
  have h := hw.th (i, t.rows) (List.mem_map.mpr ⟨_, lk_mem hl, rfl⟩) _ (lk_mem hs)
  rw [Sy.sers] at h
  exact lk_some_of h
theorem ty_src (T : Tx K mg) {H : Hp} {s : Sy} (S : SyAt K H s) {ser : Int} {th : Th} (h : lk s.ths ser = some th) : (th.tg.v.isSet = false ∧ TyX K H (.ref th.ad) (.ref (ga K "Source"))) ∨ (th.tg.v.isSet = true ∧ TyX K H (.ref th.ad) (.ref (ga K "WaitSet"))) := by
  obtain ⟨dx, fs, hi⟩ := (S.gt _ (lk_mem h)).ins
  rcases hi with ⟨h1, d, u, f, e⟩ | ⟨h1, d, L, R, es, row, e⟩
  · exact .inl ⟨by rw [show th.tg = _ from e]; rfl, .base (.ins h1 T.c_Source T.ci_Source (cls_get K) (cls_tak K) T.o_Source)⟩
  · exact .inr ⟨by rw [show th.tg = _ from e]; rfl, .base (.ins h1 T.c_WaitSet T.ci_WaitSet (cls_get K) (cls_tak K) T.o_WaitSet)⟩
theorem sc_source_at : FnScope ["self", "process", "number", "serial"] ["self", "process", "number"] (defScope s_System_source_at) := ⟨rfl, rfl, rfl, by decide +kernel, rfl, by decide +kernel, by decide +kernel⟩
theorem ok_source_at (T : Tx K mg) : FnOk P w K mg base (L2.CX P w) 5 (mA "System" "source_at" K) (fdAt K (mA "System" "source_at" K)) ["self", "process", "number"] (sp_source_at K) := by
  refine FunD.ok T.f_System_source_at sc_source_at (fun vs H Q E h => ?_) (fun cdv A outer s H vs Q E hr h => ?_)
  · obtain ⟨s, x, y, rfl, _⟩ := h
    rfl
  · obtain ⟨S, x, y, rfl, hS, hw, hx, hy, q⟩ := h
    have hu := hu_of hr
    refine ⟨_, pss_cons (ps_set (i := 3) sc_source_at.nd rfl (Or.inl rfl) (pe_meth (pv 0) T.c_System T.m_System_serial_at (ok_serial_at T) hr (b_serial_at T) .nil (passes_call (takes_of rfl rfl rfl rfl) (fun _ _ _ _ h => h)) (pa_cons (pv 1) (pa_cons (pv 2) pa_nil))))
      (pss_cons (ps_if (pt_not (pt_val (pe_callB call_isi (by rfl) T.free_isinstance (by decide +kernel) (pa_cons (pe_dget hu (pe_fld (pv 0) rfl) (pv 3) (fun _ _ => rfl)) (pa_cons (pe_glob (v := .ref (ga K "Source")) (by rfl) T.g_Source rfl) pa_nil)))))
        (pss_one (ps_raise rfl (takes_of rfl rfl rfl rfl) (pmk_err T.x_NotASource (ei_NotASource T) (hr.mono (by decide)) (eb_NotASource T) pass0 (by rfl) T.g_NotASource (pv 2)))) pss_nil)
      (pss_one (ps_ret (pv 3)))), ?_⟩
    refine ⟨_, rfl, S.p, S.dx, _, rfl, hS.ob, rfl, _, rfl, _, rfl, S, x, y, rfl, hS, hx, hy, ?_⟩
    rcases q with ⟨i, t, rfl, hl, q⟩ | ⟨hn, q⟩
    · refine .inl ⟨i, t, rfl, hl, ?_⟩
      rcases q with ⟨n, ser, rfl, hs, q⟩ | ⟨hn, q⟩
      · refine .inl ⟨n, ser, rfl, hs, ?_⟩
        obtain ⟨th, hth⟩ := hw.thing hl hs
        obtain ⟨q1, q2⟩ := q th hth
        have g := DGet.k (k := Sum.inl ser) hS.gb
        rw [val_kv, hth] at g
        refine ⟨_, rfl, _, _, _, _, _, rfl, hS.ob, T.c_System, T.n_System_things, rfl, _, rfl, _, _, rfl, g, ?_⟩
        rcases ty_src T hS hth with ⟨e, ty⟩ | ⟨e, ty⟩
        · refine ⟨_, _, _, .ref (ga K "Source"), true, rfl, .own _, ty, T.q_Source_Source, _, rfl, iteF ?_⟩
          exact ⟨_, rfl, q1 e⟩
        · refine ⟨_, _, _, .ref (ga K "Source"), false, rfl, .own _, ty, T.q_WaitSet_Source, _, rfl, iteT ?_⟩
          exact ⟨_, rfl, fun d hd => (q2 e).here hd⟩
      · exact .inr ⟨hn, q⟩
    · exact .inr ⟨hn, q⟩
theorem b_source_at (T : Tx K mg) : Binds K (fdAt K (mA "System" "source_at" K)) ["self", "process", "number"] [] := FunD.bindsN T.f_System_source_at fun _ _ _ _ _ _ us hl => match us, hl with | [_, _, _], _ => rfl
theorem sc_set_at : FnScope ["self", "process", "number", "serial"] ["self", "process", "number"] (defScope s_System_set_at) := ⟨rfl, rfl, rfl, by decide +kernel, rfl, by decide +kernel, by decide +kernel⟩
theorem ok_set_at (T : Tx K mg) : FnOk P w K mg base (L2.CX P w) 5 (mA "System" "set_at" K) (fdAt K (mA "System" "set_at" K)) ["self", "process", "number"] (sp_set_at K) := by
  refine FunD.ok T.f_System_set_at sc_set_at (fun vs H Q E h => ?_) (fun cdv A outer s H vs Q E hr h => ?_)
  · obtain ⟨s, x, y, rfl, _⟩ := h
    rfl
  · obtain ⟨S, x, y, rfl, hS, hw, hx, hy, q⟩ := h
    have hu := hu_of hr
    refine ⟨_, pss_cons (ps_set (i := 3) sc_set_at.nd rfl (Or.inl rfl) (pe_meth (pv 0) T.c_System T.m_System_serial_at (ok_serial_at T) hr (b_serial_at T) .nil (passes_call (takes_of rfl rfl rfl rfl) (fun _ _ _ _ h => h)) (pa_cons (pv 1) (pa_cons (pv 2) pa_nil))))
      (pss_cons (ps_if (pt_not (pt_val (pe_callB call_isi (by rfl) T.free_isinstance (by decide +kernel) (pa_cons (pe_dget hu (pe_fld (pv 0) rfl) (pv 3) (fun _ _ => rfl)) (pa_cons (pe_glob (v := .ref (ga K "WaitSet")) (by rfl) T.g_WaitSet rfl) pa_nil)))))
        (pss_one (ps_raise rfl (takes_of rfl rfl rfl rfl) (pmk_err T.x_NotASet (ei_NotASet T) (hr.mono (by decide)) (eb_NotASet T) pass0 (by rfl) T.g_NotASet (pv 2)))) pss_nil)
      (pss_one (ps_ret (pv 3)))), ?_⟩
    refine ⟨_, rfl, S.p, S.dx, _, rfl, hS.ob, rfl, _, rfl, _, rfl, S, x, y, rfl, hS, hx, hy, ?_⟩
    rcases q with ⟨i, t, rfl, hl, q⟩ | ⟨hn, q⟩
    · refine .inl ⟨i, t, rfl, hl, ?_⟩
      rcases q with ⟨n, ser, rfl, hs, q⟩ | ⟨hn, q⟩
      · refine .inl ⟨n, ser, rfl, hs, ?_⟩
        obtain ⟨th, hth⟩ := hw.thing hl hs
        obtain ⟨q1, q2⟩ := q th hth
        have g := DGet.k (k := Sum.inl ser) hS.gb
        rw [val_kv, hth] at g
        refine ⟨_, rfl, _, _, _, _, _, rfl, hS.ob, T.c_System, T.n_System_things, rfl, _, rfl, _, _, rfl, g, ?_⟩
        rcases ty_src T hS hth with ⟨e, ty⟩ | ⟨e, ty⟩
        · refine ⟨_, _, _, .ref (ga K "WaitSet"), false, rfl, .own _, ty, T.q_Source_WaitSet, _, rfl, iteT ?_⟩
          exact ⟨_, rfl, fun d hd => (q2 e).here hd⟩
        · refine ⟨_, _, _, .ref (ga K "WaitSet"), true, rfl, .own _, ty, T.q_WaitSet_WaitSet, _, rfl, iteF ?_⟩
          exact ⟨_, rfl, q1 e⟩
      · exact .inr ⟨hn, q⟩
    · exact .inr ⟨hn, q⟩
theorem b_set_at (T : Tx K mg) : Binds K (fdAt K (mA "System" "set_at" K)) ["self", "process", "number"] [] := FunD.bindsN T.f_System_set_at fun _ _ _ _ _ _ us hl => match us, hl with | [_, _, _], _ => rfl
end

/-! ### looks at counts and words -/
def isS : V → Bool
  | .str _ => true
  | _ => false
def words : List Str := ["level", "edge", "once"]
def isWord : V → Bool
  | .str z => decide (z ∈ words)
  | _ => false
theorem obj_str {K : PySem.W.Frag} {H : Hp} : ∀ {x : V}, Obj' H x → ∃ t b, TyX K H x t ∧ PySem.W.kitOne K t (.type "str") = some b ∧ b = isS x
  | .non, _ => ⟨.type "NoneType", false, .base .non, kit_ty (by decide +kernel), rfl⟩
  | .bl y, _ => ⟨.type "bool", false, .base (.bl y), kit_ty (by decide +kernel), rfl⟩
  | .int i, _ => ⟨.type "int", false, .base (.int i), kit_ty (by decide +kernel), rfl⟩
  | .str y, _ => ⟨.type "str", true, .base (.str y), kit_ty (by decide +kernel), rfl⟩
  | .ref a, h => by
    rcases h with ⟨xs, h⟩ | ⟨xs, h⟩
    · exact ⟨.type "list", false, .base (.lst h), kit_ty (by decide +kernel), rfl⟩
    · exact ⟨.type "tuple", false, .base (.tup h), kit_ty (by decide +kernel), rfl⟩
  | .byt _, h => h.elim
  | .flt _, h => h.elim
  | .ty _, h => h.elim
def errW (x : V) : List (Str × V) := [("word", x), ("caption", .str "BadWord")]
def sp_look_word (K : PySem.W.Frag) : Sp := fun vs H Q E => ∃ x, vs = [x] ∧ Obj' H x ∧ (isWord x = true → ∀ H', Same H H' → Q .non H') ∧ (isWord x = false → Raised K H E "BadWord" (errW x))
section
variable {P : Program} {w : World} {K : PySem.W.Frag} {mg : Str → Option Value} {base : Heap}
end
/-! ### what a source and a set do -/
def fLab (es : List En) (lab : Int) : Option En := es.find? fun e => decide (e.lab = lab)
def fKey (es : List En) (n ser : Int) : Option En := es.find? fun e => decide (e.num = n ∧ e.ser = ser)
def oRef : Option En → V
  | none => .non
  | some e => .ref e.ad
def sp_is_ready (K : PySem.W.Frag) : Sp := fun vs H Q _ => ∃ (a dx : Addr) (u : Int) (f : Bool), vs = [.ref a] ∧ H a = some (.ins (ga K "Source") dx (srcF u f)) ∧ Q (.bl (f || decide (0 < u))) H
def sp_labelled (K : PySem.W.Frag) : Sp := fun vs H Q _ => ∃ (a dx L R : Addr) (es : List En) (row : List Int) (lab : Int), vs = [.ref a, .int lab] ∧ TgAt K H a (.set dx L R es row) ∧ Q (oRef (fLab es lab)) H
def sp_keyed (K : PySem.W.Frag) : Sp := fun vs H Q _ => ∃ (a dx L R : Addr) (es : List En) (row : List Int) (n ser : Int), vs = [.ref a, .int n, .int ser] ∧ TgAt K H a (.set dx L R es row) ∧ ∀ H', Same H H' → Q (oRef (fKey es n ser)) H'
def sp_append_pending (K : PySem.W.Frag) : Sp := fun vs H Q _ => ∃ (a dx L R : Addr) (es : List En) (row : List Int) (e : En), vs = [.ref a, .ref e.ad] ∧ TgAt K H a (.set dx L R es row) ∧ EntF K ∧ H e.ad = some (.ins (ga K "Entry") e.dx (entF e)) ∧ row.length ≤ 1000000 ∧ Q .non (upd H R (.lst ((pendR row e.lab e.arm).map V.int)))
section
variable {P : Program} {w : World} {K : PySem.W.Frag} {mg : Str → Option Value} {base : Heap}
theorem sc_is_ready : FnScope ["self"] ["self"] (defScope s_Source_is_ready) := ⟨rfl, rfl, rfl, by decide +kernel, rfl, by decide +kernel, by decide +kernel⟩
theorem ok_is_ready (T : Tx K mg) : FnOk P w K mg base CX0 1 (pA "Source" "is_ready" K) (fdAt K (pA "Source" "is_ready" K)) ["self"] (sp_is_ready K) := by
  refine FunD.ok T.f_Source_is_ready sc_is_ready (fun vs H Q E h => ?_) (fun cdv A outer s H vs Q E hr h => ?_)
  · obtain ⟨a, dx, u, f, rfl, _⟩ := h
    rfl
  · obtain ⟨a, dx, u, f, rfl, ha, q⟩ := h
    refine ⟨_, PSs.nox (pss_one (ps_ret (pe_or (pe_fld (pv 0) rfl) (pe_one (pe_cmpR op_gt (pe_fld (pv 0) rfl) pe_int (nomark _)))))), ?_⟩
    refine ⟨_, rfl, _, _, _, _, _, rfl, ha, T.c_Source, T.n_Source_finished, rfl, f, rfl, ?_⟩
    cases f with
    | true => exact iteT q
    | false =>
      refine iteF ⟨_, rfl, _, _, _, _, _, rfl, ha, T.c_Source, T.n_Source_unread, rfl, _, _, rfl, rfl, ?_⟩
      exact q
theorem b_is_ready (T : Tx K mg) : Binds K (fdAt K (pA "Source" "is_ready" K)) ["self"] [] := FunD.bindsN T.f_Source_is_ready fun _ _ _ _ _ _ us hl => match us, hl with | [_], _ => rfl
theorem sc_labelled : FnScope ["self", "label", "entry"] ["self", "label"] (defScope s_WaitSet_labelled) := ⟨rfl, rfl, rfl, by decide +kernel, rfl, by decide +kernel, by decide +kernel⟩
theorem find_at {p : En → Bool} {l : List En} {k : Nat} {e : En} (h : l[k]? = some e) (hb : ∀ j < k, ∀ x, l[j]? = some x → p x = false) (hp : p e = true) : l.find? p = some e := by
  obtain ⟨hk, rfl⟩ := List.getElem?_eq_some_iff.mp h
  refine List.find?_eq_some_iff_getElem.mpr ⟨hp, k, hk, rfl, fun j hj => ?_⟩
  rw [hb j hj l[j] (List.getElem?_eq_getElem (Nat.lt_trans hj hk))]
  rfl
theorem find_no {p : En → Bool} {l : List En} (hb : ∀ j < l.length, ∀ x, l[j]? = some x → p x = false) : l.find? p = none := by
  rw [List.find?_eq_none]
  intro x hx
  obtain ⟨j, hj, e⟩ := List.mem_iff_getElem.mp hx
  rw [hb j hj x (by rw [List.getElem?_eq_getElem hj, e])]
  exact Bool.false_ne_true
theorem ok_labelled (T : Tx K mg) : FnOk P w K mg base CX0 1 (mA "WaitSet" "labelled" K) (fdAt K (mA "WaitSet" "labelled" K)) ["self", "label"] (sp_labelled K) := by
  refine FunD.ok T.f_WaitSet_labelled sc_labelled (fun vs H Q E h => ?_) (fun cdv A outer s H vs Q E hr h => ?_)
  · obtain ⟨a, dx, L, R, es, row, lab, rfl, _⟩ := h
    rfl
  · obtain ⟨a, dx, L, R, es, row, lab, rfl, ⟨h1, h2, h3, h4⟩, q⟩ := h
    refine ⟨_, PSs.nox (pss_cons (ps_for PassesOwn.never rfl (pi_list (pe_fld (pv 0) rfl)) (pg_name (i := 2) sc_labelled.nd rfl (Or.inl rfl))
        (pss_one (ps_if (pt_cmpR op_eq (pe_fld (pv 2) rfl) (pv 1) (nomark _)) (pss_one (ps_ret (pv 2))) pss_nil)))
      (pss_one (ps_ret pe_non))), ?_⟩
    refine ⟨_, rfl, _, _, _, _, _, rfl, h1, T.c_WaitSet, T.n_WaitSet_entries, rfl, L, rfl, ⟨_, SqL.of h2⟩, ?_⟩
    refine for_list (xs := es.map fun e => V.ref e.ad) (fun k σ H' => H' = H ∧ (∃ v, σ = [some (.ref a), some (.int lab), v]) ∧ ∀ j < k, ∀ x, es[j]? = some x → decide (x.lab = lab) = false) ⟨rfl, ⟨_, rfl⟩, fun j hj => absurd hj (Nat.not_lt_zero _)⟩ (fun k σ H' hk g => by rw [g.1]; exact SqL.of h2) ?_ ?_
    · rintro k x σ H' hx ⟨rfl, ⟨v, rfl⟩, hb⟩
      rw [List.getElem?_map] at hx
      cases en : es[k]? with
      | none => rw [en] at hx; cases hx
      | some e =>
        rw [en] at hx
        cases hx
        refine ⟨_, rfl, _, _, _, _, _, rfl, h4 e (List.mem_of_getElem? en), T.c_Entry, T.n_Entry_label, rfl, _, rfl, rfl, _, rfl, ?_⟩
        by_cases c : e.lab = lab
        · rw [decide_eq_true (show V.int e.lab = V.int lab from by rw [c])]
          refine iteT ⟨_, rfl, ?_⟩
          have : fLab es lab = some e := find_at en hb (decide_eq_true c)
          rw [this] at q
          exact q
        · rw [decide_eq_false (show V.int e.lab ≠ V.int lab from fun z => c (V.int.inj z))]
          refine iteF ⟨rfl, ⟨_, rfl⟩, fun j hj x hx => ?_⟩
          by_cases cj : j < k
          · exact hb j cj x hx
          · have : j = k := by omega
            subst this
            rw [en] at hx
            cases hx
            exact decide_eq_false c
    · rintro σ H' ⟨rfl, ⟨v, rfl⟩, hb⟩
      rw [List.length_map] at hb
      have : fLab es lab = none := find_no hb
      rw [this] at q
      exact q
theorem b_labelled (T : Tx K mg) : Binds K (fdAt K (mA "WaitSet" "labelled" K)) ["self", "label"] [] := FunD.bindsN T.f_WaitSet_labelled fun _ _ _ _ _ _ us hl => match us, hl with | [_, _], _ => rfl
end

section
variable {P : Program} {w : World} {K : PySem.W.Frag} {mg : Str → Option Value} {base : Heap}
theorem eqv_pair (a b c d : Int) : PyData.eqv (.tuple [.int a, .int b]) (.tuple [.int c, .int d]) = decide (a = c ∧ b = d) := by
  rw [Bool.eq_iff_iff]
  simp [PyData.eqv, PyData.eqvAll]
theorem shaped_pair (a b : Int) : SeqAt.shaped (.tuple [.int a, .int b]) = true := by simp [SeqAt.shaped, PyData.canLay0, PyData.canLayAll0, PyData.depth, PyData.depthAll]
theorem sc_keyed : FnScope ["self", "number", "serial", "entry"] ["self", "number", "serial"] (defScope s_WaitSet_keyed) := ⟨rfl, rfl, rfl, by decide +kernel, rfl, by decide +kernel, by decide +kernel⟩
theorem ok_keyed (T : Tx K mg) : FnOk P w K mg base CX0 1 (mA "WaitSet" "keyed" K) (fdAt K (mA "WaitSet" "keyed" K)) ["self", "number", "serial"] (sp_keyed K) := by
  refine FunD.ok T.f_WaitSet_keyed sc_keyed (fun vs H Q E h => ?_) (fun cdv A outer s H vs Q E hr h => ?_)
  · obtain ⟨a, dx, L, R, es, row, n, ser, rfl, _⟩ := h
    rfl
  · obtain ⟨a, dx, L, R, es, row, n, ser, rfl, ⟨h1, h2, h3, h4⟩, q⟩ := h
    have hu := hr.units
    refine ⟨_, PSs.nox (pss_cons (ps_for PassesOwn.never rfl (pi_list (pe_fld (pv 0) rfl)) (pg_name (i := 3) sc_keyed.nd rfl (Or.inl rfl))
        (pss_one (ps_if (pt_cmpR (op_eqD hu) (pe_tup (pa_cons (pe_fld (pv 3) rfl) (pa_cons (pe_fld (pv 3) rfl) pa_nil))) (pe_tup (pa_cons (pv 1) (pa_cons (pv 2) pa_nil))) (nomark _)) (pss_one (ps_ret (pv 3))) pss_nil)))
      (pss_one (ps_ret pe_non))), ?_⟩
    refine ⟨_, rfl, _, _, _, _, _, rfl, h1, T.c_WaitSet, T.n_WaitSet_entries, rfl, L, rfl, ⟨_, SqL.of h2⟩, ?_⟩
    refine for_list (xs := es.map fun e => V.ref e.ad) (fun k σ H' => Same H H' ∧ (∃ v, σ = [some (.ref a), some (.int n), some (.int ser), v]) ∧ ∀ j < k, ∀ x, es[j]? = some x → decide (x.num = n ∧ x.ser = ser) = false) ⟨Same.refl _, ⟨_, rfl⟩, fun j hj => absurd hj (Nat.not_lt_zero _)⟩ (fun k σ H' hk g => SqL.of (g.1 _ _ h2)) ?_ ?_
    · rintro k x σ H' hx ⟨e', ⟨v, rfl⟩, hb⟩
      rw [List.getElem?_map] at hx
      cases en : es[k]? with
      | none => rw [en] at hx; cases hx
      | some e =>
        rw [en] at hx
        cases hx
        have he := e' _ _ (h4 e (List.mem_of_getElem? en))
        refine ⟨_, rfl, _, _, _, _, _, rfl, he, T.c_Entry, T.n_Entry_number, rfl, _, rfl, _, _, _, _, _, rfl, he, T.c_Entry, T.n_Entry_serial, rfl, (by show 2 ≤ sizeLine; decide), fun t1 n1 => ⟨_, rfl, _, rfl, (by show 2 ≤ sizeLine; decide), fun t2 n2 => ?_⟩⟩
        have e2 := (new_same (o := .tup [.int e.num, .int e.ser]) n1).trans (new_same (o := .tup [.int n, .int ser]) n2)
        refine ⟨.tuple [.int e.num, .int e.ser], .tuple [.int n, .int ser], .tup (SqT.of (new_same n2 _ _ upd_same)) (.cons (.int _) (.cons (.int _) .nil)), .tup (SqT.of upd_same) (.cons (.int _) (.cons (.int _) .nil)), shaped_pair _ _, shaped_pair _ _, _, rfl, ?_⟩
        rw [eqv_pair]
        by_cases c : e.num = n ∧ e.ser = ser
        · rw [decide_eq_true c]
          refine iteT ⟨_, rfl, ?_⟩
          have : fKey es n ser = some e := find_at en hb (decide_eq_true c)
          have z := q _ (e'.trans e2)
          rw [this] at z
          exact z
        · rw [decide_eq_false c]
          refine iteF ⟨e'.trans e2, ⟨_, rfl⟩, fun j hj x hx => ?_⟩
          by_cases cj : j < k
          · exact hb j cj x hx
          · have : j = k := by omega
            subst this
            rw [en] at hx
            cases hx
            exact decide_eq_false c
    · rintro σ H' ⟨e', ⟨v, rfl⟩, hb⟩
      rw [List.length_map] at hb
      have : fKey es n ser = none := find_no hb
      have z := q _ e'
      rw [this] at z
      exact z
theorem b_keyed (T : Tx K mg) : Binds K (fdAt K (mA "WaitSet" "keyed" K)) ["self", "number", "serial"] [] := FunD.bindsN T.f_WaitSet_keyed fun _ _ _ _ _ _ us hl => match us, hl with | [_, _, _], _ => rfl
theorem inV_ints (x : Int) (l : List Int) : inV (.int x) (l.map V.int) = decide (x ∈ l) := by
  unfold inV
  rw [Bool.eq_iff_iff, List.any_map, List.any_eq_true, decide_eq_true_eq]
  constructor
  · rintro ⟨y, hy, e⟩
    have : y = x := by simpa [eqV] using e
    exact this ▸ hy
  · intro h
    exact ⟨x, h, by simp [eqV]⟩
theorem flat_ints (l : List Int) : (l.map V.int).all flatV = true := by
  rw [List.all_eq_true]
  intro x hx
  obtain ⟨y, _, rfl⟩ := List.mem_map.mp hx
  rfl
theorem sc_append_pending : FnScope ["self", "entry"] ["self", "entry"] (defScope s_WaitSet_append_pending) := ⟨rfl, rfl, rfl, by decide +kernel, rfl, by decide +kernel, by decide +kernel⟩
theorem ok_append_pending (T : Tx K mg) : FnOk P w K mg base CX0 1 (mA "WaitSet" "append_pending" K) (fdAt K (mA "WaitSet" "append_pending" K)) ["self", "entry"] (sp_append_pending K) := by
  refine FunD.ok T.f_WaitSet_append_pending sc_append_pending (fun vs H Q E h => ?_) (fun cdv A outer s H vs Q E hr h => ?_)
  · obtain ⟨a, dx, L, R, es, row, e, rfl, _⟩ := h
    rfl
  · obtain ⟨a, dx, L, R, es, row, e, rfl, ⟨h1, h2, h3, h4⟩, hE, he, hz, q⟩ := h
    refine ⟨_, PSs.nox (pss_one (ps_if (PW.pt (pw_and (pt_val (pe_fld (pv 1) rfl)) (pw_and1 (pt_cmpR op_notIn_seq (pe_fld (pv 1) rfl) (pe_fld (pv 0) rfl) (by rfl)))))
        (pss_one (ps_expr (pe_bm PySem.F.plainAttrs_list PySem.F.slot_list_append PySem.F.type_list_append mt_append (pe_fld (pv 0) rfl) (pa_cons (pe_fld (pv 1) rfl) pa_nil)))) pss_nil)), ?_⟩
    refine ⟨_, rfl, _, _, _, _, _, rfl, he, hE.c, hE.armed, rfl, e.arm, rfl, ?_⟩
    have same : pendR row e.lab e.arm = row → Q .non H := fun z => by
      rw [z, upd_idem h3] at q
      exact q
    cases ea : e.arm with
    | false =>
      refine iteF ?_
      exact same (by unfold pendR; rw [ea]; rfl)
    | true =>
      refine iteT ⟨_, rfl, _, _, _, _, _, rfl, he, hE.c, hE.label, rfl, _, rfl, _, _, _, _, _, rfl, h1, T.c_WaitSet, T.n_WaitSet_row, rfl, R, _, rfl, .inl (SqL.of h3), rfl, flat_ints row, _, rfl, ?_⟩
      rw [if_pos rfl, inV_ints]
      by_cases c : e.lab ∈ row
      · rw [decide_eq_true c]
        refine iteF ?_
        exact same (by unfold pendR; rw [if_neg (fun z => z.2 c)])
      · rw [decide_eq_false c]
        have er : pendR row e.lab e.arm = row ++ [e.lab] := by unfold pendR; rw [if_pos ⟨ea, c⟩]
        refine iteT ⟨_, rfl, _, _, _, _, _, rfl, h1, T.c_WaitSet, T.n_WaitSet_row, rfl, .inl ⟨rfl, _, SqL.of h3⟩, _, rfl, _, _, _, _, _, rfl, he, hE.c, hE.label, rfl, R, _, _, rfl, rfl, h3, ?_, ?_⟩
        · rw [List.length_map]
          exact Nat.lt_of_le_of_lt hz (by decide)
        · rw [er, List.map_append] at q
          exact q
theorem b_append_pending (T : Tx K mg) : Binds K (fdAt K (mA "WaitSet" "append_pending" K)) ["self", "entry"] [] := FunD.bindsN T.f_WaitSet_append_pending fun _ _ _ _ _ _ us hl => match us, hl with | [_, _], _ => rfl
end

/-! ### pending of all sets -/
theorem nodup_part {α β : Type} {f : α → List β} : ∀ {l : List α} {x : α}, (l.flatMap f).Nodup → x ∈ l → (f x).Nodup
  | a :: l, x, h, hx => by
    rw [List.flatMap_cons] at h
    obtain ⟨d1, d2, _⟩ := List.nodup_append.mp h
    rcases List.mem_cons.mp hx with z | z
    · exact z ▸ d1
    · exact nodup_part d2 z
theorem setSers_mem {s : Sy} {n : Int} (h : n ∈ setSers s.v) : ∃ t, (n, t) ∈ s.ths ∧ t.tg.v.isSet = true := by
  unfold setSers at h
  obtain ⟨u, hu, rfl⟩ := List.mem_map.mp h
  obtain ⟨h1, h2⟩ := List.mem_filter.mp hu
  obtain ⟨t, ht, rfl⟩ := List.mem_map.mp (show u ∈ s.ths.map fun t => (t.1, t.2.tg.v) from h1)
  exact ⟨t.2, ht, h2⟩
theorem setSers_nodup {v : Sv} (h : WF0 v) : (setSers v).Nodup := by
  unfold setSers
  exact (h.nds.sublist ((List.filter_sublist (l := v.ths)).map (·.1)))
section
variable {P : Program} {w : World} {K : PySem.W.Frag} {mg : Str → Option Value} {base : Heap}
end

/-! ### units arrive, units are read -/
theorem WF.re {v : Sv} (h : WF v) {n : Int} {tv tv' : Tv} (hl : lk v.ths n = some tv) (hk : tv'.isSet = tv.isSet) (hs : ∀ es row, tv' = .set es row → SetOk v es row) : WF (v.re n tv') := by
  rw [Sv.re_map]
  refine h.mapT (fun t ht => ?_) (fun t ht es row e => ?_)
  · by_cases c : t.1 = n
    · have z := lk_of_mem h.nds (show (t.1, t.2) ∈ v.ths from ht)
      rw [c, hl] at z
      cases z
      show (if t.1 = n then tv' else t.2).isSet = _
      rw [if_pos c]
      exact hk
    · show (if t.1 = n then tv' else t.2).isSet = _
      rw [if_neg c]
  · by_cases c : t.1 = n
    · rw [show (if t.1 = n then tv' else t.2) = tv' from if_pos c] at e
      exact hs es row e
    · rw [show (if t.1 = n then tv' else t.2) = t.2 from if_neg c] at e
      exact h.ok t ht es row e
theorem src_of {tg : Tg} (h : tg.v.isSet = false) : ∃ dx u f, tg = .src dx u f := by
  cases tg with
  | src dx u f => exact ⟨_, _, _, rfl⟩
  | set dx L R es row => cases h
theorem set_of {tg : Tg} (h : tg.v.isSet = true) : ∃ dx L R es row, tg = .set dx L R es row := by
  cases tg with
  | src dx u f => cases h
  | set dx L R es row => exact ⟨_, _, _, _, _, rfl⟩
/-- a source's units are changed -/
theorem SyAt.units {K : PySem.W.Frag} {H : Hp} {s : Sy} (S : SyAt K H s) (hw : WF s.v) {n : Int} {th : Th} {dx : Addr} {u : Int} {f : Bool} (hl : lk s.ths n = some th) (ht : th.tg = .src dx u f) (u' : Int) (f' : Bool) :
    SyAt K (upd H th.ad (.ins (ga K "Source") dx (srcF u' f'))) (s.re n th.ad (.src dx u' f')) ∧ (s.re n th.ad (.src dx u' f')).v = s.v.re n (.src u' f') ∧ WF (s.v.re n (.src u' f')) ∧ Fr' s (s.re n th.ad (.src dx u' f')) H (upd H th.ad (.ins (ga K "Source") dx (srcF u' f'))) := by
  have nds : (s.ths.map (·.1)).Nodup := by rw [← Sy.sers]; exact hw.nds
  refine ⟨S.re hl nds (fun b hb n1 n2 n3 => by rw [upd_ne n1]) upd_same (fun x hx => (nomatch hx)) (fun x hx => (nomatch hx)) List.nodup_nil List.nodup_nil, Sy.re_v .., hw.re (tv := .src u f) (by rw [Sy.ths_v, hl, Option.map_some, ht]; rfl) rfl (fun es row e => (nomatch e)), ⟨fun b o h nb => ?_, fun b hb => ?_, rfl⟩⟩
  · rw [upd_ne (show b ≠ th.ad from fun z => nb (z ▸ Sy.in_ths (Sy.th_in (lk_mem hl))))]
    exact h
  · rcases Sy.re_foot hl nds hb with z | z | z
    · exact .inl z
    · cases z
    · cases z
section
variable {P : Program} {w : World} {K : PySem.W.Frag} {mg : Str → Option Value} {base : Heap}
end

section
variable {P : Program} {w : World} {K : PySem.W.Frag} {mg : Str → Option Value} {base : Heap}
end

/-! ### row_of -/
section
variable {P : Program} {w : World} {K : PySem.W.Frag} {mg : Str → Option Value} {base : Heap}
end

/-! ### a registration is added -/
theorem inV_strs (x : Str) (l : List Str) : inV (.str x) (l.map V.str) = decide (x ∈ l) := by
  unfold inV
  rw [Bool.eq_iff_iff, List.any_map, List.any_eq_true, decide_eq_true_eq]
  constructor
  · rintro ⟨y, hy, e⟩
    have : y = x := by simpa [eqV] using e
    exact this ▸ hy
  · intro h
    exact ⟨x, h, by simp [eqV]⟩
def errL (c : Str) (y : V) : List (Str × V) := [("label", y), ("caption", .str c)]
def sp_Ent_init (K : PySem.W.Frag) : Sp := fun vs H Q _ => ∃ (p dx : Addr) (n ser lab : Int) (wd : Str) (arm : Bool), vs = [.ref p, .int n, .int ser, .int lab, .str wd, .bl arm] ∧ H p = some (.ins (ga K "Entry") dx []) ∧ Q .non (upd H p (.ins (ga K "Entry") dx (entF ⟨p, dx, n, ser, lab, wd, arm⟩)))
def addV (es : List Ev) (row : List Int) (n ser lab : Int) (wd : Str) (rdy : Bool) : Tv := .set (es ++ [⟨n, ser, lab, wd, true⟩]) (if rdy then pendR row lab true else row)
def sp_add (K : PySem.W.Frag) : Sp := fun vs H Q E => ∃ (s : Sy) (x y z l wd : V), vs = [.ref s.p, x, y, z, l, wd] ∧ SyAt K H s ∧ WF s.v ∧ Obj' H x ∧ Obj' H y ∧ Obj' H z ∧ Obj' H l ∧ Obj' H wd ∧ BySet K s x y H E fun _ t _ ser1 th1 => ByNum K t z H E fun n ser => ∀ th, lk s.ths ser = some th →
  (th.tg.v.isSet = true → Raised K H E "NotASource" (errN "NotASource" z)) ∧ ∀ u f, th.tg.v = .src u f → (betw l 0 999999 = false → Raised K H E "BadLabel" (errL "BadLabel" l)) ∧ ∀ lab, l = .int lab → 0 ≤ lab → lab ≤ 999999 → (isWord wd = false → Raised K H E "BadWord" (errW wd)) ∧ ∀ wz es row, wd = .str wz → wz ∈ words → th1.tg.v = .set es row →
    ((∃ e ∈ es, e.num = n ∧ e.ser = ser) → Raised K H E "Registered" (errN "Registered" z)) ∧ ((¬ ∃ e ∈ es, e.num = n ∧ e.ser = ser) → ((∃ e ∈ es, e.lab = lab) → Raised K H E "Taken" (errL "Taken" l)) ∧ ((¬ ∃ e ∈ es, e.lab = lab) →
      es.length < 1000000 ∧ ∀ H' s', SyAt K H' s' → s'.v = s.v.re ser1 (addV es row n ser lab wz (f || decide (0 < u))) → WF s'.v → Fr' s s' H H' → Q .non H'))
theorem fKey_none {es : List En} {n ser : Int} : fKey es n ser = none ↔ ¬ ∃ e ∈ es.map En.v, e.num = n ∧ e.ser = ser := by
  unfold fKey
  rw [List.find?_eq_none]
  constructor
  · rintro h ⟨e, he, q⟩
    obtain ⟨x, hx, rfl⟩ := List.mem_map.mp he
    exact h x hx (decide_eq_true q)
  · intro h x hx q
    exact h ⟨x.v, List.mem_map.mpr ⟨x, hx, rfl⟩, of_decide_eq_true q⟩
theorem fLab_none {es : List En} {lab : Int} : fLab es lab = none ↔ ¬ ∃ e ∈ es.map En.v, e.lab = lab := by
  unfold fLab
  rw [List.find?_eq_none]
  constructor
  · rintro h ⟨e, he, q⟩
    obtain ⟨x, hx, rfl⟩ := List.mem_map.mp he
    exact h x hx (decide_eq_true q)
  · intro h x hx q
    exact h ⟨x.v, List.mem_map.mpr ⟨x, hx, rfl⟩, of_decide_eq_true q⟩
section
variable {P : Program} {w : World} {K : PySem.W.Frag} {mg : Str → Option Value} {base : Heap}
theorem ei_BadWord (T : Tx K mg) : FnOk P w K mg base CX0 1 (mA "BadWord" "__init__" K) (fdAt K (mA "BadWord" "__init__" K)) ["self", "word"] (spErr (ga K "BadWord") "word" "BadWord") :=
  err_init T.x_BadWord T.f_BadWord___init__ ⟨rfl, rfl, rfl, by decide +kernel, rfl, by decide +kernel, by decide +kernel⟩ rfl ⟨by decide, by decide⟩ ⟨by decide, by decide⟩ (fun _ => ⟨rfl, rfl⟩) ⟨.inl rfl, .inl rfl⟩
theorem eb_BadWord (T : Tx K mg) : Binds K (fdAt K (mA "BadWord" "__init__" K)) ["self", "word"] [] := FunD.bindsN T.f_BadWord___init__ fun _ _ _ _ _ _ us hl => match us, hl with | [_, _], _ => rfl
theorem ei_BadLabel (T : Tx K mg) : FnOk P w K mg base CX0 1 (mA "BadLabel" "__init__" K) (fdAt K (mA "BadLabel" "__init__" K)) ["self", "label"] (spErr (ga K "BadLabel") "label" "BadLabel") :=
  err_init T.x_BadLabel T.f_BadLabel___init__ ⟨rfl, rfl, rfl, by decide +kernel, rfl, by decide +kernel, by decide +kernel⟩ rfl ⟨by decide, by decide⟩ ⟨by decide, by decide⟩ (fun _ => ⟨rfl, rfl⟩) ⟨.inl rfl, .inl rfl⟩
theorem eb_BadLabel (T : Tx K mg) : Binds K (fdAt K (mA "BadLabel" "__init__" K)) ["self", "label"] [] := FunD.bindsN T.f_BadLabel___init__ fun _ _ _ _ _ _ us hl => match us, hl with | [_, _], _ => rfl
theorem ei_Registered (T : Tx K mg) : FnOk P w K mg base CX0 1 (mA "Registered" "__init__" K) (fdAt K (mA "Registered" "__init__" K)) ["self", "number"] (spErr (ga K "Registered") "number" "Registered") :=
  err_init T.x_Registered T.f_Registered___init__ ⟨rfl, rfl, rfl, by decide +kernel, rfl, by decide +kernel, by decide +kernel⟩ rfl ⟨by decide, by decide⟩ ⟨by decide, by decide⟩ (fun _ => ⟨rfl, rfl⟩) ⟨.inl rfl, .inl rfl⟩
theorem eb_Registered (T : Tx K mg) : Binds K (fdAt K (mA "Registered" "__init__" K)) ["self", "number"] [] := FunD.bindsN T.f_Registered___init__ fun _ _ _ _ _ _ us hl => match us, hl with | [_, _], _ => rfl
theorem ei_Taken (T : Tx K mg) : FnOk P w K mg base CX0 1 (mA "Taken" "__init__" K) (fdAt K (mA "Taken" "__init__" K)) ["self", "label"] (spErr (ga K "Taken") "label" "Taken") :=
  err_init T.x_Taken T.f_Taken___init__ ⟨rfl, rfl, rfl, by decide +kernel, rfl, by decide +kernel, by decide +kernel⟩ rfl ⟨by decide, by decide⟩ ⟨by decide, by decide⟩ (fun _ => ⟨rfl, rfl⟩) ⟨.inl rfl, .inl rfl⟩
theorem eb_Taken (T : Tx K mg) : Binds K (fdAt K (mA "Taken" "__init__" K)) ["self", "label"] [] := FunD.bindsN T.f_Taken___init__ fun _ _ _ _ _ _ us hl => match us, hl with | [_, _], _ => rfl
theorem sc_look_word : FnScope ["thing"] ["thing"] (defScope s_look_word) := ⟨rfl, rfl, rfl, by decide +kernel, rfl, by decide +kernel, by decide +kernel⟩
theorem ok_look_word (T : Tx K mg) : FnOk P w K mg base (L2.CX P w) 3 (gA "look_word" K) (fdAt K (gA "look_word" K)) ["thing"] (sp_look_word K) := by
  refine FunD.ok T.f_look_word sc_look_word (fun vs H Q E h => ?_) (fun cdv A outer s H vs Q E hr h => ?_)
  · obtain ⟨x, rfl, _⟩ := h
    rfl
  · obtain ⟨x, rfl, hx, q1, q2⟩ := h
    obtain ⟨t1, i1⟩ := T.t_LEVEL
    obtain ⟨t2, i2⟩ := T.t_EDGE
    obtain ⟨t3, i3⟩ := T.t_ONCE
    refine ⟨_, pss_one (ps_if (PW.pt (pw_or (pt_not (pt_val (pe_callB call_isi (by rfl) T.free_isinstance (by decide +kernel) (pa_cons (pv 0) (pa_cons (pe_bltn (v := .ty "str") (by rfl) T.free_str (by decide +kernel) rfl) pa_nil)))))
        (pw_or1 (pt_cmpR op_notIn_seq (pv 0) (pe_tup (pa_cons (pe_glob (v := .str "level") (by rfl) i1 ⟨_, rfl⟩) (pa_cons (pe_glob (v := .str "edge") (by rfl) i2 ⟨_, rfl⟩) (pa_cons (pe_glob (v := .str "once") (by rfl) i3 ⟨_, rfl⟩) pa_nil)))) (by rfl)))))
        (pss_one (ps_raise rfl (takes_of rfl rfl rfl rfl) (pmk_err T.x_BadWord (ei_BadWord T) hr (eb_BadWord T) pass0 (by rfl) T.g_BadWord (pv 0)))) pss_nil), ?_⟩
    obtain ⟨t, b, ty, hk, hb⟩ := obj_str (K := K) hx
    refine ⟨_, rfl, _, _, t, .type "str", b, rfl, .ty "str", ty, hk, b, rfl, ?_⟩
    cases x with
    | str z =>
      cases (show b = true from hb)
      refine iteF ⟨_, rfl, (by show 3 ≤ sizeLine; decide), fun p np => ⟨p, _, rfl, .inr (SqT.of upd_same), rfl, rfl, _, rfl, ?_⟩⟩
      rw [if_pos rfl]
      have e : inV (.str z) [.str "level", .str "edge", .str "once"] = decide (z ∈ words) := inV_strs z words
      rw [e]
      by_cases c : z ∈ words
      · rw [decide_eq_true c]
        exact iteF (q1 (decide_eq_true c) _ (new_same np))
      · rw [decide_eq_false c]
        exact iteT ⟨_, rfl, fun d hd => ((q2 (decide_eq_false c)).ext (new_same np)).here hd⟩
    | _ =>
      cases (show b = false from hb)
      exact iteT ⟨_, rfl, fun d hd => (q2 rfl).here hd⟩
theorem b_look_word (T : Tx K mg) : Binds K (fdAt K (gA "look_word" K)) ["thing"] [] := FunD.bindsN T.f_look_word fun _ _ _ _ _ _ us hl => match us, hl with | [_], _ => rfl
theorem sc_Ent_init : FnScope ["self", "number", "serial", "label", "word", "armed"] ["self", "number", "serial", "label", "word", "armed"] (defScope s_Entry___init__) := ⟨rfl, rfl, rfl, by decide +kernel, rfl, by decide +kernel, by decide +kernel⟩
theorem ok_Ent_init (T : Tx K mg) : FnOk P w K mg base CX0 1 (mA "Entry" "__init__" K) (fdAt K (mA "Entry" "__init__" K)) ["self", "number", "serial", "label", "word", "armed"] (sp_Ent_init K) := by
  refine FunD.ok T.f_Entry___init__ sc_Ent_init (fun vs H Q E h => ?_) (fun cdv A outer s H vs Q E hr h => ?_)
  · obtain ⟨p, dx, n, ser, lab, wd, arm, rfl, _⟩ := h
    rfl
  · obtain ⟨p, dx, n, ser, lab, wd, arm, rfl, hp, q⟩ := h
    refine ⟨_, PSs.nox (pss_cons (ps_fld (pv 0) (pv 1) rfl) (pss_cons (ps_fld (pv 0) (pv 2) rfl) (pss_cons (ps_fld (pv 0) (pv 3) rfl) (pss_cons (ps_fld (pv 0) (pv 4) rfl) (pss_one (ps_fld (pv 0) (pv 5) rfl)))))), ?_⟩
    refine ⟨_, rfl, _, rfl, p, _, dx, _, rfl, hp, T.c_Entry, T.n_Entry_number, (by show 0 < 1000; decide), _, rfl, _, rfl, p, _, dx, _, rfl, upd_same, T.c_Entry, T.n_Entry_serial, (by show 1 < 1000; decide), _, rfl, _, rfl, p, _, dx, _, rfl, upd_same, T.c_Entry, T.n_Entry_label, (by show 2 < 1000; decide), _, rfl, _, rfl, p, _, dx, _, rfl, upd_same, T.c_Entry, T.n_Entry_word, (by show 3 < 1000; decide), _, rfl, _, rfl, p, _, dx, _, rfl, upd_same, T.c_Entry, T.n_Entry_armed, (by show 4 < 1000; decide), ?_⟩
    rw [upd_upd, upd_upd, upd_upd, upd_upd]
    exact q
theorem b_Ent (T : Tx K mg) : ∃ ds, Vals [.bl true] ds ∧ Binds K (fdAt K (mA "Entry" "__init__" K)) ["self", "number", "serial", "label", "word", "armed"] ds := by
  have z := FunD.binds1 (ps := ["self", "number", "serial", "label", "word", "armed"]) T.f_Entry___init__ 5 0 (fun z => nomatch z) rfl fun T kV doc pm an cdv ct us its l1 l2 => match us, its, l1, l2 with | [_, _, _, _, _], [_], _, _ => ⟨_, rfl, rfl⟩
  exact z
end

section
variable {P : Program} {w : World} {K : PySem.W.Frag} {mg : Str → Option Value} {base : Heap}
theorem SyAt.setLR {H : Hp} {s : Sy} (S : SyAt K H s) {ser : Int} {th : Th} {dx L R : Addr} {es : List En} {row : List Int} (hl : lk s.ths ser = some th) (et : th.tg = .set dx L R es row) : L ≠ R ∧ (es.map (·.ad)).Nodup := by
  constructor
  · have z := nodup_part (f := fun t : Int × Th => t.2.tg.lsts) S.nl (lk_mem hl)
    rw [show ((ser, th) : Int × Th).2.tg.lsts = [L, R] from by rw [show ((ser, th) : Int × Th).2.tg = _ from et]; rfl] at z
    simp at z
    exact z
  · have z := nodup_part (f := fun t : Int × Th => t.2.tg.ents) S.ne (lk_mem hl)
    rw [show ((ser, th) : Int × Th).2.tg.ents = es.map (·.ad) from by rw [show ((ser, th) : Int × Th).2.tg = _ from et]; rfl] at z
    exact z
theorem sc_add : FnScope ["self", "process", "set_number", "number", "label", "word", "waiting", "serial", "entry"] ["self", "process", "set_number", "number", "label", "word"] (defScope s_System_add) := ⟨rfl, rfl, rfl, by decide +kernel, rfl, by decide +kernel, by decide +kernel⟩
theorem ok_add (T : Tx K mg) : FnOk P w K mg base (L2.CX P w) 6 (mA "System" "add" K) (fdAt K (mA "System" "add" K)) ["self", "process", "set_number", "number", "label", "word"] (sp_add K) := by
  refine FunD.ok T.f_System_add sc_add (fun vs H Q E h => ?_) (fun cdv A outer s H vs Q E hr h => ?_)
  · obtain ⟨s, x, y, z, l, wd, rfl, _⟩ := h
    rfl
  · obtain ⟨S, x, y, z, l, wd, rfl, hS, hw, hx, hy, hz, hlb, hwd, q⟩ := h
    have hu := hu_of hr
    obtain ⟨tl, il⟩ := T.i_MOST_LABEL
    obtain ⟨ds, hds, hbE⟩ := b_Ent T
    refine ⟨_, pss_cons (ps_set (i := 6) sc_add.nd rfl (Or.inl rfl) (pe_dget hu (pe_fld (pv 0) rfl) (pe_meth (pv 0) T.c_System T.m_System_set_at (ok_set_at T) hr (b_set_at T) .nil (passes_call (takes_of rfl rfl rfl rfl) (fun _ _ _ _ h => h)) (pa_cons (pv 1) (pa_cons (pv 2) pa_nil))) (fun _ _ => rfl)))
      (pss_cons (ps_set (i := 7) sc_add.nd rfl (Or.inl rfl) (pe_meth (pv 0) T.c_System T.m_System_source_at (ok_source_at T) hr (b_source_at T) .nil (passes_call (takes_of rfl rfl rfl rfl) (fun _ _ _ _ h => h)) (pa_cons (pv 1) (pa_cons (pv 3) pa_nil))))
      (pss_cons (ps_if (pt_not (pt_val (pe_call (ok_is_between T) (hr.mono (by decide)) (by rfl) T.g_is_between T.f_is_between.kp (b_is_between T) .nil pass0 (pa_cons (pv 4) (pa_cons pe_int (pa_cons (pe_glob (v := .int 999999) (by rfl) il ⟨_, rfl⟩) pa_nil))))))
        (pss_one (ps_raise rfl (takes_of rfl rfl rfl rfl) (pmk_err T.x_BadLabel (ei_BadLabel T) (hr.mono (by decide)) (eb_BadLabel T) pass0 (by rfl) T.g_BadLabel (pv 4)))) pss_nil)
      (pss_cons (ps_expr (pe_call (ok_look_word T) (hr.mono (by decide)) (by rfl) T.g_look_word T.f_look_word.kp (b_look_word T) .nil (passes_call (takes_of rfl rfl rfl rfl) (fun _ _ _ _ h => h)) (pa_cons (pv 5) pa_nil)))
      (pss_cons (ps_if (pt_cmpR op_notN (pe_meth (pv 6) T.c_WaitSet T.m_WaitSet_keyed (ok_keyed T) (hr.mono (by decide)) (b_keyed T) .nil pass0 (pa_cons (pv 3) (pa_cons (pv 7) pa_nil))) pe_non (nomark _))
        (pss_one (ps_raise rfl (takes_of rfl rfl rfl rfl) (pmk_err T.x_Registered (ei_Registered T) (hr.mono (by decide)) (eb_Registered T) pass0 (by rfl) T.g_Registered (pv 3)))) pss_nil)
      (pss_cons (ps_if (pt_cmpR op_notN (pe_meth (pv 6) T.c_WaitSet T.m_WaitSet_labelled (ok_labelled T) (hr.mono (by decide)) (b_labelled T) .nil pass0 (pa_cons (pv 4) pa_nil)) pe_non (nomark _))
        (pss_one (ps_raise rfl (takes_of rfl rfl rfl rfl) (pmk_err T.x_Taken (ei_Taken T) (hr.mono (by decide)) (eb_Taken T) pass0 (by rfl) T.g_Taken (pv 4)))) pss_nil)
      (pss_cons (ps_set (i := 8) sc_add.nd rfl (Or.inl rfl) (pe_make T.k_Entry (ok_Ent_init T) (hr.mono (by decide)) (by rfl) T.g_Entry hbE hds pass0 (pa_cons (pv 3) (pa_cons (pv 7) (pa_cons (pv 4) (pa_cons (pv 5) pa_nil))))))
      (pss_cons (ps_expr (pe_bm PySem.F.plainAttrs_list PySem.F.slot_list_append PySem.F.type_list_append mt_append (pe_fld (pv 6) rfl) (pa_cons (pv 8) pa_nil)))
      (pss_one (ps_if (pt_val (pe_prop (pe_dget hu (pe_fld (pv 0) rfl) (pv 7) (fun _ _ => rfl)) T.c_Source T.p_Source_is_ready (ok_is_ready T) (hr.mono (by decide)) (b_is_ready T) .nil pass0 rfl))
        (pss_one (ps_expr (pe_meth (pv 6) T.c_WaitSet T.m_WaitSet_append_pending (ok_append_pending T) (hr.mono (by decide)) (b_append_pending T) .nil pass0 (pa_cons (pv 8) pa_nil)))) pss_nil))))))))), ?_⟩
    refine ⟨_, rfl, _, _, _, _, _, rfl, hS.ob, T.c_System, T.n_System_things, rfl, _, rfl, S.p, S.dx, _, rfl, hS.ob, rfl, _, rfl, _, rfl, S, x, y, rfl, hS, hw, hx, hy, ?_⟩
    rcases q with ⟨i, t, rfl, hl, q⟩ | ⟨hn, q⟩
    rotate_left
    · exact .inr ⟨hn, q⟩
    refine .inl ⟨i, t, rfl, hl, ?_⟩
    rcases q with ⟨n1, ser1, rfl, hs1, q⟩ | ⟨hn, q⟩
    rotate_left
    · exact .inr ⟨hn, q⟩
    refine .inl ⟨n1, ser1, rfl, hs1, fun th1 hth1 => ⟨fun e1 => ?_, (q th1 hth1).2⟩⟩
    have q := (q th1 hth1).1 e1
    obtain ⟨dx, L, R, es, row, et1⟩ := set_of e1
    have g1 := DGet.k (k := Sum.inl ser1) hS.gb
    rw [val_kv, hth1] at g1
    have ht1 := hS.gt _ (lk_mem hth1)
    rw [show ((ser1, th1) : Int × Th).2.tg = .set dx L R es row from et1] at ht1
    obtain ⟨nLR, nde⟩ := hS.setLR hth1 et1
    refine ⟨_, _, rfl, g1, _, rfl, S.p, S.dx, _, rfl, hS.ob, rfl, _, rfl, _, rfl, S, .int i, z, rfl, hS, hw, hx, hz, .inl ⟨i, t, rfl, hl, ?_⟩⟩
    rcases q with ⟨n, ser, rfl, hs, q⟩ | ⟨hn, q⟩
    rotate_left
    · exact .inr ⟨hn, q⟩
    refine .inl ⟨n, ser, rfl, hs, fun th hth => ⟨fun e => ?_, (q th hth).1⟩⟩
    obtain ⟨dx0, u, f, et⟩ := src_of e
    obtain ⟨qa, qb⟩ := (q th hth).2 u f (by rw [et]; rfl)
    refine ⟨_, rfl, l, 0, 999999, rfl, hlb, _, rfl, ?_⟩
    cases c : betw l 0 999999 with
    | false => exact iteT ⟨_, rfl, fun d hd => (qa c).here hd⟩
    | true =>
      obtain ⟨lab, rfl, b1, b2⟩ := betw_int c
      obtain ⟨qc, qd⟩ := qb lab rfl b1 b2
      refine iteF ⟨_, rfl, wd, rfl, hwd, fun cw H2 e2 => ?_, qc⟩
      obtain ⟨wz, rfl, hwz⟩ : ∃ wz, wd = .str wz ∧ wz ∈ words := by
        cases wd with
        | str wz => exact ⟨wz, rfl, of_decide_eq_true cw⟩
        | _ => cases cw
      obtain ⟨qe, qf⟩ := qd wz _ _ rfl hwz (by rw [et1]; rfl)
      have S2 := hS.ext e2
      have t2 : TgAt K H2 th1.ad (.set dx L R es row) := by
        have z := S2.gt _ (lk_mem hth1)
        rw [show ((ser1, th1) : Int × Th).2.tg = .set dx L R es row from et1] at z
        exact z
      refine ⟨_, rfl, th1.ad, dx, _, rfl, t2.1, rfl, _, rfl, _, rfl, th1.ad, dx, L, R, es, row, n, ser, rfl, t2, fun H3 e3 => ⟨rfl, _, rfl, ?_⟩⟩
      by_cases ck : ∃ e ∈ es.map En.v, e.num = n ∧ e.ser = ser
      · have nk : fKey es n ser ≠ none := fun z => fKey_none.mp z ck
        cases ek : fKey es n ser with
        | none => exact (nk ek).elim
        | some ee => exact iteT ⟨_, rfl, fun d hd => ((qe ck).ext (e2.trans e3)).here hd⟩
      · rw [fKey_none.mpr ck]
        refine iteF ?_
        obtain ⟨qg, qh⟩ := qf ck
        have t3 : TgAt K H3 th1.ad (.set dx L R es row) := ⟨e3 _ _ t2.1, e3 _ _ t2.2.1, e3 _ _ t2.2.2.1, fun x hx => e3 _ _ (t2.2.2.2 x hx)⟩
        refine ⟨_, rfl, th1.ad, dx, _, rfl, t3.1, rfl, _, rfl, th1.ad, dx, L, R, es, row, lab, rfl, t3, rfl, _, rfl, ?_⟩
        by_cases cl : ∃ e ∈ es.map En.v, e.lab = lab
        · have nk : fLab es lab ≠ none := fun z => fLab_none.mp z cl
          cases ek : fLab es lab with
          | none => exact (nk ek).elim
          | some ee => exact iteT ⟨_, rfl, fun d hd => ((qg cl).ext (e2.trans e3)).here hd⟩
        · rw [fLab_none.mpr cl]
          refine iteF ?_
          obtain ⟨hz6, qi⟩ := qh cl
          have E3 := e2.trans e3
          have S3 := hS.ext E3
          refine ⟨_, rfl, _, rfl, _, rfl, _, rfl, fun p dp np nd ne => ⟨p, dp, n, ser, lab, wz, true, rfl, upd_same, rfl, ?_⟩⟩
          rw [upd_upd]
          let H4 : Hp := upd (upd H3 dp (.own p)) p (.ins (ga K "Entry") dp (entF ⟨p, dp, n, ser, lab, wz, true⟩))
          have e4 : Same H3 H4 := (new_same nd).trans (new_same (by rw [upd_ne (Ne.symm ne)]; exact np))
          have hp4 : H4 p = some (.ins (ga K "Entry") dp (entF ⟨p, dp, n, ser, lab, wz, true⟩)) := upd_same
          have t4 : TgAt K H4 th1.ad (.set dx L R es row) := ⟨e4 _ _ t3.1, e4 _ _ t3.2.1, e4 _ _ t3.2.2.1, fun x hx => e4 _ _ (t3.2.2.2 x hx)⟩
          refine ⟨_, rfl, _, _, _, _, _, rfl, t4.1, T.c_WaitSet, T.n_WaitSet_entries, rfl, .inl ⟨rfl, _, SqL.of t4.2.1⟩, _, rfl, L, _, _, rfl, rfl, t4.2.1, by rw [List.length_map]; exact Nat.lt_trans (by rw [List.length_map] at hz6; exact hz6) (by decide), ?_⟩
          have nL : ∀ {b : Addr} {o : HO}, H4 b = some o → (∀ xs, o ≠ .lst xs) → upd H4 L (.lst ((es.map fun e => V.ref e.ad) ++ [.ref p])) b = some o := fun {b o} h k => by rw [upd_ne (ne_of h t4.2.1 (k _))]; exact h
          have S4 := S3.ext e4
          have g4 := DGet.k (k := Sum.inl ser) S4.gb
          rw [val_kv, hth] at g4
          have hta4 := S4.gt _ (lk_mem hth)
          rw [show ((ser, th) : Int × Th).2.tg = .src dx0 u f from et] at hta4
          have g5 : DGet (upd H4 L (.lst ((es.map fun e => V.ref e.ad) ++ [.ref p]))) S.G (.int ser) (some (thV th)) := .inl ⟨_, Sum.inl ser, .inl (nL S4.gb fun _ z => nomatch z), rfl, by rw [val_kv, hth]; rfl⟩
          refine ⟨_, rfl, _, _, _, _, _, rfl, nL S4.ob (fun _ z => nomatch z), T.c_System, T.n_System_things, rfl, _, rfl, _, _, rfl, g5, th.ad, dx0, _, rfl, nL hta4 (fun _ z => nomatch z), th.ad, dx0, u, f, rfl, nL hta4 (fun _ z => nomatch z), _, rfl, ?_⟩
          have t5 : TgAt K (upd H4 L (.lst ((es.map fun e => V.ref e.ad) ++ [.ref p]))) th1.ad (.set dx L R (es ++ [⟨p, dp, n, ser, lab, wz, true⟩]) row) := by
            refine ⟨nL t4.1 (fun _ z => nomatch z), by rw [upd_same, List.map_append]; rfl, by rw [upd_ne (Ne.symm nLR)]; exact t4.2.2.1, fun x hx => ?_⟩
            rcases List.mem_append.mp hx with z | z
            · exact nL (t4.2.2.2 x z) (fun _ z => nomatch z)
            · cases List.mem_singleton.mp z
              exact nL hp4 (fun _ z => nomatch z)
          have so : SetOk S.v (es.map En.v) row := hw.ok (ser1, th1.tg.v) (List.mem_map.mpr ⟨(ser1, th1), lk_mem hth1, rfl⟩) _ _ (by show th1.tg.v = _; rw [et1]; rfl)
          have nds : (S.ths.map (·.1)).Nodup := by rw [← Sy.sers]; exact hw.nds
          have pf : p ∉ S.foot := S3.notfoot np
          have fin : ∀ (row' : List Int) (H6 : Hp), H6 = upd (upd H4 L (.lst ((es.map fun e => V.ref e.ad) ++ [.ref p]))) R (.lst (row'.map V.int)) → RowOk (es.map En.v ++ [⟨n, ser, lab, wz, true⟩]) row' → row' = (if (f || decide (0 < u)) then pendR row lab true else row) → Q .non H6 := fun row' H6 e6 ro er => by
            have t6 : TgAt K H6 th1.ad (.set dx L R (es ++ [⟨p, dp, n, ser, lab, wz, true⟩]) row') := by
              rw [e6]
              refine ⟨by rw [upd_ne (ne_of t5.1 t5.2.2.1 fun z => nomatch z)]; exact t5.1, by rw [upd_ne nLR]; exact t5.2.1, upd_same, fun x hx => by rw [upd_ne (ne_of (t5.2.2.2 x hx) t5.2.2.1 fun z => nomatch z)]; exact t5.2.2.2 x hx⟩
            have kp6 : ∀ b o, H b = some o → b ≠ L → b ≠ R → H6 b = some o := fun b o h n1 n2 => by
              rw [e6, upd_ne n2, upd_ne n1]
              exact e4 _ _ (E3 _ _ h)
            have S6 : SyAt K H6 (S.re ser1 th1.ad (.set dx L R (es ++ [⟨p, dp, n, ser, lab, wz, true⟩]) row')) := by
              refine hS.re hth1 nds (fun b hb n1 n2 n3 => ?_) t6 (fun x hx => .inl ?_) (fun x hx => ?_) ?_ ?_
              · obtain ⟨o, ho⟩ := hS.some_of hb
                rw [ho]
                exact kp6 b o ho (fun z => n2 (by rw [et1, z]; simp [Tg.lsts])) (fun z => n2 (by rw [et1, z]; simp [Tg.lsts]))
              · rw [et1]
                exact hx
              · obtain ⟨y, hy, rfl⟩ := List.mem_map.mp hx
                rcases List.mem_append.mp hy with z | z
                · exact .inl (by rw [et1]; exact List.mem_map.mpr ⟨y, z, rfl⟩)
                · cases List.mem_singleton.mp z
                  exact .inr pf
              · show [L, R].Nodup
                simp [nLR]
              · show ((es ++ [(⟨p, dp, n, ser, lab, wz, true⟩ : En)]).map (·.ad)).Nodup
                rw [List.map_append]
                refine List.nodup_append.mpr ⟨nde, by simp, fun a ha b hb z => ?_⟩
                have zb : b = p := List.mem_singleton.mp hb
                exact pf (by rw [← zb, ← z]; exact Sy.in_ents (Sy.en_in (lk_mem hth1) (by rw [show ((ser1, th1) : Int × Th).2.tg = _ from et1]; exact ha)))
            have ev : (S.re ser1 th1.ad (.set dx L R (es ++ [⟨p, dp, n, ser, lab, wz, true⟩]) row')).v = S.v.re ser1 (addV (es.map En.v) row n ser lab wz (f || decide (0 < u))) := by
              rw [Sy.re_v]
              show S.v.re ser1 (.set ((es ++ [(⟨p, dp, n, ser, lab, wz, true⟩ : En)]).map En.v) row') = _
              unfold addV
              rw [List.map_append, ← er]
              rfl
            refine qi _ _ S6 ev ?_ ⟨fun b o h nb => kp6 b o h (fun z => nb ?_) (fun z => nb ?_), fun b hb => ?_, rfl⟩
            · rw [ev]
              refine hw.re (tv := .set (es.map En.v) row) (by rw [Sy.ths_v, hth1, Option.map_some, et1]; rfl) rfl fun es' row2 ee => ?_
              unfold addV at ee
              cases ee
              rw [← er]
              refine ⟨?_, ?_, ro.1, ro.2, fun x hx => ?_, by rw [List.length_append]; exact hz6⟩
              · rw [List.map_append]
                exact nd_snoc so.1 fun z => cl (by
                  obtain ⟨x, hx, q⟩ := List.mem_map.mp z
                  exact ⟨x, hx, q⟩)
              · rw [List.map_append]
                refine List.nodup_append.mpr ⟨so.2.1, by simp, fun a ha b hb z => ?_⟩
                obtain ⟨x, hx, q⟩ := List.mem_map.mp ha
                have zb : b = (n, ser) := List.mem_singleton.mp hb
                rw [zb, ← q] at z
                cases z
                exact ck ⟨x, hx, rfl, rfl⟩
              · rcases List.mem_append.mp hx with z | z
                · exact so.2.2.2.2.1 x z
                · cases List.mem_singleton.mp z
                  exact ⟨u, f, by rw [Sy.ths_v, hth, Option.map_some, et]; rfl⟩
            · rw [z]
              exact Sy.in_lsts (Sy.ls_in (lk_mem hth1) (by rw [show ((ser1, th1) : Int × Th).2.tg = _ from et1]; simp [Tg.lsts]))
            · rw [z]
              exact Sy.in_lsts (Sy.ls_in (lk_mem hth1) (by rw [show ((ser1, th1) : Int × Th).2.tg = _ from et1]; simp [Tg.lsts]))
            · rcases Sy.re_foot hth1 nds hb with z | z | z
              · exact .inl z
              · exact .inl (Sy.in_lsts (Sy.ls_in (lk_mem hth1) (by rw [show ((ser1, th1) : Int × Th).2.tg = _ from et1]; exact z)))
              · obtain ⟨y, hy, rfl⟩ := List.mem_map.mp (show b ∈ (es ++ [(⟨p, dp, n, ser, lab, wz, true⟩ : En)]).map (·.ad) from z)
                rcases List.mem_append.mp hy with z | z
                · exact .inl (Sy.in_ents (Sy.en_in (lk_mem hth1) (by rw [show ((ser1, th1) : Int × Th).2.tg = _ from et1]; exact List.mem_map.mpr ⟨y, z, rfl⟩)))
                · cases List.mem_singleton.mp z
                  exact .inr (E3.free np)
          have ro0 : RowOk (es.map En.v ++ [⟨n, ser, lab, wz, true⟩]) row := ⟨so.row.1, fun x hx => by
            obtain ⟨e, he, q⟩ := so.row.2 x hx
            exact ⟨e, List.mem_append_left _ he, q⟩⟩
          have rl : row.length ≤ 1000000 := Nat.le_trans so.row.len so.2.2.2.2.2
          cases hr0 : (f || decide (0 < u)) with
          | true =>
            refine iteT ⟨_, rfl, th1.ad, dx, _, rfl, t5.1, rfl, _, rfl, th1.ad, dx, L, R, es ++ [(⟨p, dp, n, ser, lab, wz, true⟩ : En)], row, (⟨p, dp, n, ser, lab, wz, true⟩ : En), rfl, t5, entT T, nL hp4 (fun _ z => nomatch z), rl, ?_⟩
            exact fin _ _ rfl (pendR_ok (e := ⟨n, ser, lab, wz, true⟩) ro0 (List.mem_append_right _ (List.mem_singleton.mpr rfl))) (by rw [hr0]; rfl)
          | false =>
            refine iteF ?_
            exact fin row _ (upd_idem t5.2.2.1).symm ro0 (by rw [hr0]; rfl)
end

/-! ### a wait, plainly -/
/-- registrations that are alike but for their arms -/
structure Alike (es0 es : List En) : Prop where
  ads : es.map (·.ad) = es0.map (·.ad)
  lab : (es.map En.v).map (·.lab) = (es0.map En.v).map (·.lab)
  key : (es.map En.v).map (fun e => (e.num, e.ser)) = (es0.map En.v).map fun e => (e.num, e.ser)
theorem Alike.refl (es : List En) : Alike es es := ⟨rfl, rfl, rfl⟩
/-- a list of data that grows while the heap changes -/
structure Gd (K : PySem.W.Frag) (H1 : Hp) (D : Addr) (H' : Hp) (ds : List PyData) : Prop where
  new : H1 D = none
  has : ∃ xs, H' D = some (.lst xs) ∧ DpAll K (frs H1 (off D H')) xs ds
theorem Gd.start {K : PySem.W.Frag} {H1 : Hp} {D : Addr} (h : H1 D = none) : Gd K H1 D (upd H1 D (.lst [])) [] := ⟨h, [], upd_same, .nil⟩
theorem frs_keep {H1 H' H'' : Hp} {D : Addr} (k : ∀ b o, H1 b = none → b ≠ D → H' b = some o → H'' b = some o) : Same (frs H1 (off D H')) (frs H1 (off D H'')) := fun b o h => by
  have hb : H1 b = none := by
    cases q : H1 b with
    | none => rfl
    | some _ => unfold frs at h; rw [q] at h; cases h
  rw [frs_new hb] at h ⊢
  have ne : b ≠ D := fun z => by unfold off at h; rw [if_pos z] at h; cases h
  rw [off_ne ne] at h ⊢
  exact k b o hb ne h
theorem Gd.keep {K : PySem.W.Frag} {H1 H' H'' : Hp} {D : Addr} {ds : List PyData} (g : Gd K H1 D H' ds) (k : ∀ b o, H1 b = none → H' b = some o → H'' b = some o) : Gd K H1 D H'' ds := by
  obtain ⟨xs, h1, h2⟩ := g.has
  exact ⟨g.new, xs, k D _ g.new h1, DpAll.same (frs_keep fun b o hb _ h => k b o hb h) _ _ h2⟩
theorem Gd.add {K : PySem.W.Frag} {H1 H' : Hp} {D p : Addr} {ds es : List PyData} {vs : List V} (g : Gd K H1 D H' ds) (hp : H' p = none) (hp1 : H1 p = none) (hd : ∀ H, DpAll K H vs es) : ∃ xs, upd H' p (.tup vs) D = some (.lst xs) ∧ xs.length = ds.length ∧ Gd K H1 D (upd (upd H' p (.tup vs)) D (.lst (xs ++ [.ref p]))) (ds ++ [.tuple es]) := by
  obtain ⟨xs, h1, h2⟩ := g.has
  have ne : D ≠ p := fun z => by rw [← z, h1] at hp; cases hp
  refine ⟨xs, by rw [upd_ne ne]; exact h1, dpLen h2, g.new, _, upd_same, dpApp (DpAll.same (frs_keep fun b o hb n h => ?_) _ _ h2) (.cons (.tup (SqT.of ?_) (hd _)) .nil)⟩
  · rw [upd_ne n, upd_ne (ne_of_none h hp)]
    exact h
  · rw [frs_new hp1, off_ne (Ne.symm ne), upd_ne (Ne.symm ne), upd_same]
theorem Gd.fin {K : PySem.W.Frag} {H1 H' : Hp} {D : Addr} {ds : List PyData} (g : Gd K H1 D H' ds) : Dp K (frs H1 H') (.ref D) (.list ds) := by
  obtain ⟨xs, h1, h2⟩ := g.has
  exact .lst (SqL.of (by rw [frs_new g.new]; exact h1)) (DpAll.same (frs_mono off_le) _ _ h2)
section
variable {P : Program} {w : World} {K : PySem.W.Frag} {mg : Str → Option Value} {base : Heap}
theorem ad_inj {es : List En} (nd : (es.map (·.ad)).Nodup) {x y : En} (hx : x ∈ es) (hy : y ∈ es) (e : x.ad = y.ad) : x = y := by
  induction es with
  | nil => cases hx
  | cons a l ih =>
    obtain ⟨n1, n2⟩ := List.nodup_cons.mp (show (a.ad :: l.map (·.ad)).Nodup from nd)
    rcases List.mem_cons.mp hx with zx | zx
    · rcases List.mem_cons.mp hy with zy | zy
      · rw [zx, zy]
      · subst zx
        exact (n1 (e ▸ List.mem_map.mpr ⟨_, zy, rfl⟩)).elim
    · rcases List.mem_cons.mp hy with zy | zy
      · subst zy
        exact (n1 (e ▸ List.mem_map.mpr ⟨_, zx, rfl⟩)).elim
      · exact ih n2 zx zy
end

/-! ### registrations by their keys; changes -/
section
variable {P : Program} {w : World} {K : PySem.W.Frag} {mg : Str → Option Value} {base : Heap}
theorem SyAt.resets {H H' : Hp} {S : Sy} (hS : SyAt K H S) {ser : Int} {th : Th} {dx L R : Addr} {es : List En} {row : List Int} (hth : lk S.ths ser = some th) (et : th.tg = .set dx L R es row) (nds : (S.ths.map (·.1)).Nodup) {dx' L' R' : Addr} {es' : List En} {row' : List Int}
    (t : TgAt K H' th.ad (.set dx' L' R' es' row')) (kp : ∀ b o, H b = some o → b ≠ th.ad → b ≠ L → b ≠ R → b ∉ es.map (·.ad) → H' b = some o) (hL : L' = L ∨ H L' = none) (hR : R' = R ∨ H R' = none) (nLR : L' ≠ R') (hE : ∀ a ∈ es'.map (·.ad), a ∈ es.map (·.ad) ∨ H a = none) (nde : (es'.map (·.ad)).Nodup) :
    SyAt K H' (S.re ser th.ad (.set dx' L' R' es' row')) ∧ Fr' S (S.re ser th.ad (.set dx' L' R' es' row')) H H' := by
  have tm := lk_mem hth
  have inT : th.ad ∈ S.foot := Sy.in_ths (Sy.th_in tm)
  have inL : ∀ x ∈ [L, R], x ∈ S.foot := fun x hx => Sy.in_lsts (Sy.ls_in tm (by rw [show ((ser, th) : Int × Th).2.tg = _ from et]; exact hx))
  have inE : ∀ x ∈ es.map (·.ad), x ∈ S.foot := fun x hx => Sy.in_ents (Sy.en_in tm (by rw [show ((ser, th) : Int × Th).2.tg = _ from et]; exact hx))
  have cl : ∀ x ∈ [L', R'], x ∈ [L, R] ∨ H x = none := fun x hx => by
    simp only [List.mem_cons, List.not_mem_nil, or_false] at hx ⊢
    rcases hx with z | z
    · rcases hL with q | q
      · exact .inl (.inl (z.trans q))
      · exact .inr (by rw [z]; exact q)
    · rcases hR with q | q
      · exact .inl (.inr (z.trans q))
      · exact .inr (by rw [z]; exact q)
  refine ⟨hS.re hth nds (fun b hb n1 n2 n3 => ?_) t (fun x hx => ?_) (fun x hx => ?_) ?_ nde, ⟨fun b o h nb => ?_, fun b hb => ?_, rfl⟩⟩
  · obtain ⟨o, ho⟩ := hS.some_of hb
    rw [ho]
    exact kp b o ho n1 (fun z => n2 (by rw [et, z]; simp [Tg.lsts])) (fun z => n2 (by rw [et, z]; simp [Tg.lsts])) (fun z => n3 (by rw [et]; exact z))
  · rcases cl x hx with z | z
    · exact .inl (by rw [et]; exact z)
    · exact .inr (hS.notfoot z)
  · rcases hE x hx with z | z
    · exact .inl (by rw [et]; exact z)
    · exact .inr (hS.notfoot z)
  · show [L', R'].Nodup
    simp [nLR]
  · exact kp b o h (fun z => nb (z ▸ inT)) (fun z => nb (z ▸ inL L (by simp))) (fun z => nb (z ▸ inL R (by simp))) (fun z => nb (inE b z))
  · rcases Sy.re_foot hth nds hb with z | z | z
    · exact .inl z
    · rcases cl b z with q | q
      · exact .inl (inL b q)
      · exact .inr q
    · rcases hE b z with q | q
      · exact .inl (inE b q)
      · exact .inr q
def sp_keyed_entry (K : PySem.W.Frag) : Sp := fun vs H Q E => ∃ (s : Sy) (x y z : V), vs = [.ref s.p, x, y, z] ∧ SyAt K H s ∧ WF s.v ∧ Obj' H x ∧ Obj' H y ∧ Obj' H z ∧ BySet K s x y H E fun _ t _ ser1 th1 => ByNum K t z H E fun n ser => ∀ th, lk s.ths ser = some th →
  (th.tg.v.isSet = false → ∀ dx L R es row, th1.tg = .set dx L R es row → ∀ H', Same H H' → Q (oRef (fKey es n ser)) H') ∧ (th.tg.v.isSet = true → Raised K H E "NotASource" (errN "NotASource" z))
theorem sc_keyed_entry : FnScope ["self", "process", "set_number", "number", "waiting"] ["self", "process", "set_number", "number"] (defScope s_System_keyed_entry) := ⟨rfl, rfl, rfl, by decide +kernel, rfl, by decide +kernel, by decide +kernel⟩
theorem ok_keyed_entry (T : Tx K mg) : FnOk P w K mg base (L2.CX P w) 6 (mA "System" "keyed_entry" K) (fdAt K (mA "System" "keyed_entry" K)) ["self", "process", "set_number", "number"] (sp_keyed_entry K) := by
  refine FunD.ok T.f_System_keyed_entry sc_keyed_entry (fun vs H Q E h => ?_) (fun cdv A outer s H vs Q E hr h => ?_)
  · obtain ⟨s, x, y, z, rfl, _⟩ := h
    rfl
  · obtain ⟨S, x, y, z, rfl, hS, hw, hx, hy, hz, q⟩ := h
    have hu := hu_of hr
    refine ⟨_, pss_cons (ps_set (i := 4) sc_keyed_entry.nd rfl (Or.inl rfl) (pe_dget hu (pe_fld (pv 0) rfl) (pe_meth (pv 0) T.c_System T.m_System_set_at (ok_set_at T) hr (b_set_at T) .nil (passes_call (takes_of rfl rfl rfl rfl) (fun _ _ _ _ h => h)) (pa_cons (pv 1) (pa_cons (pv 2) pa_nil))) (fun _ _ => rfl)))
      (pss_one (ps_ret (pe_meth (pv 4) T.c_WaitSet T.m_WaitSet_keyed (ok_keyed T) (hr.mono (by decide)) (b_keyed T) .nil pass0 (pa_cons (pv 3) (pa_cons (pe_meth (pv 0) T.c_System T.m_System_source_at (ok_source_at T) hr (b_source_at T) .nil (passes_call (takes_of rfl rfl rfl rfl) (fun _ _ _ _ h => h)) (pa_cons (pv 1) (pa_cons (pv 3) pa_nil))) pa_nil))))), ?_⟩
    refine ⟨_, rfl, _, _, _, _, _, rfl, hS.ob, T.c_System, T.n_System_things, rfl, _, rfl, S.p, S.dx, _, rfl, hS.ob, rfl, _, rfl, _, rfl, S, x, y, rfl, hS, hw, hx, hy, ?_⟩
    rcases q with ⟨i, t, rfl, hl, q⟩ | ⟨hn, q⟩
    rotate_left
    · exact .inr ⟨hn, q⟩
    refine .inl ⟨i, t, rfl, hl, ?_⟩
    rcases q with ⟨n1, ser1, rfl, hs1, q⟩ | ⟨hn, q⟩
    rotate_left
    · exact .inr ⟨hn, q⟩
    refine .inl ⟨n1, ser1, rfl, hs1, fun th1 hth1 => ⟨fun e1 => ?_, (q th1 hth1).2⟩⟩
    have q := (q th1 hth1).1 e1
    obtain ⟨dx, L, R, es, row, et1⟩ := set_of e1
    have g1 := DGet.k (k := Sum.inl ser1) hS.gb
    rw [val_kv, hth1] at g1
    have ht1 := hS.gt _ (lk_mem hth1)
    rw [show ((ser1, th1) : Int × Th).2.tg = .set dx L R es row from et1] at ht1
    refine ⟨_, _, rfl, g1, _, rfl, th1.ad, dx, _, rfl, ht1.1, rfl, _, rfl, _, rfl, S.p, S.dx, _, rfl, hS.ob, rfl, _, rfl, _, rfl, S, .int i, z, rfl, hS, hw, hx, hz, .inl ⟨i, t, rfl, hl, ?_⟩⟩
    rcases q with ⟨n, ser, rfl, hs, q⟩ | ⟨hn, q⟩
    rotate_left
    · exact .inr ⟨hn, q⟩
    refine .inl ⟨n, ser, rfl, hs, fun th hth => ⟨fun e => ?_, (q th hth).2⟩⟩
    exact ⟨th1.ad, dx, L, R, es, row, n, ser, rfl, ht1, fun H' e' => (q th hth).1 e dx L R es row et1 H' e'⟩
theorem b_keyed_entry (T : Tx K mg) : Binds K (fdAt K (mA "System" "keyed_entry" K)) ["self", "process", "set_number", "number"] [] := FunD.bindsN T.f_System_keyed_entry fun _ _ _ _ _ _ us hl => match us, hl with | [_, _, _, _], _ => rfl
theorem ei_NotRegistered (T : Tx K mg) : FnOk P w K mg base CX0 1 (mA "NotRegistered" "__init__" K) (fdAt K (mA "NotRegistered" "__init__" K)) ["self", "number"] (spErr (ga K "NotRegistered") "number" "NotRegistered") :=
  err_init T.x_NotRegistered T.f_NotRegistered___init__ ⟨rfl, rfl, rfl, by decide +kernel, rfl, by decide +kernel, by decide +kernel⟩ rfl ⟨by decide, by decide⟩ ⟨by decide, by decide⟩ (fun _ => ⟨rfl, rfl⟩) ⟨.inl rfl, .inl rfl⟩
theorem eb_NotRegistered (T : Tx K mg) : Binds K (fdAt K (mA "NotRegistered" "__init__" K)) ["self", "number"] [] := FunD.bindsN T.f_NotRegistered___init__ fun _ _ _ _ _ _ us hl => match us, hl with | [_, _], _ => rfl
end

/-! ### change -/
def chgE (n ser : Int) (wz : Str) (es : List Ev) : List Ev := es.map fun e => if e.num = n ∧ e.ser = ser then { e with wrd := wz, arm := true } else e
def chgV (es : List Ev) (row : List Int) (n ser lab : Int) (wz : Str) (rdy : Bool) : Tv := .set (chgE n ser wz es) (if rdy then pendR row lab true else row)
def chgN (n ser : Int) (wz : Str) (es : List En) : List En := es.map fun e => if e.num = n ∧ e.ser = ser then { e with wrd := wz, arm := true } else e
theorem chgN_v (n ser : Int) (wz : Str) (es : List En) : (chgN n ser wz es).map En.v = chgE n ser wz (es.map En.v) := by
  unfold chgN chgE
  rw [List.map_map, List.map_map]
  refine List.map_congr_left fun e _ => ?_
  show En.v (if e.num = n ∧ e.ser = ser then { e with wrd := wz, arm := true } else e) = if e.v.num = n ∧ e.v.ser = ser then { e.v with wrd := wz, arm := true } else e.v
  by_cases c : e.num = n ∧ e.ser = ser
  · rw [if_pos c, if_pos (show e.v.num = n ∧ e.v.ser = ser from c)]
    rfl
  · rw [if_neg c, if_neg (show ¬ (e.v.num = n ∧ e.v.ser = ser) from c)]
theorem chgN_ad (n ser : Int) (wz : Str) (es : List En) : (chgN n ser wz es).map (·.ad) = es.map (·.ad) := by
  unfold chgN
  rw [List.map_map]
  refine List.map_congr_left fun e _ => ?_
  show (if e.num = n ∧ e.ser = ser then { e with wrd := wz, arm := true } else e).ad = e.ad
  split <;> rfl
theorem chgE_lab (n ser : Int) (wz : Str) (es : List Ev) : (chgE n ser wz es).map (·.lab) = es.map (·.lab) ∧ (chgE n ser wz es).map (fun e => (e.num, e.ser)) = es.map fun e => (e.num, e.ser) := by
  unfold chgE
  rw [List.map_map, List.map_map]
  constructor
  · refine List.map_congr_left fun e _ => ?_
    show (if e.num = n ∧ e.ser = ser then { e with wrd := wz, arm := true } else e).lab = e.lab
    split <;> rfl
  · refine List.map_congr_left fun e _ => ?_
    show ((if e.num = n ∧ e.ser = ser then { e with wrd := wz, arm := true } else e).num, (if e.num = n ∧ e.ser = ser then { e with wrd := wz, arm := true } else e).ser) = (e.num, e.ser)
    split <;> rfl
theorem chgE_mem {n ser : Int} {wz : Str} {es : List Ev} {e : Ev} (h : e ∈ chgE n ser wz es) : ∃ e0 ∈ es, e.num = e0.num ∧ e.ser = e0.ser ∧ e.lab = e0.lab ∧ (e0.arm = true → e.arm = true) := by
  obtain ⟨e0, h0, rfl⟩ := List.mem_map.mp h
  refine ⟨e0, h0, ?_⟩
  split <;> simp
theorem chgE_arm {n ser : Int} {wz : Str} {es : List Ev} {x : Int} (h : ∃ e ∈ es, e.lab = x ∧ e.arm = true) : ∃ e ∈ chgE n ser wz es, e.lab = x ∧ e.arm = true := by
  obtain ⟨e, he, h1, h2⟩ := h
  refine ⟨_, List.mem_map.mpr ⟨e, he, rfl⟩, ?_⟩
  split
  · exact ⟨h1, rfl⟩
  · exact ⟨h1, h2⟩
theorem chg_setOk {v : Sv} {es : List Ev} {row row' : List Int} {n ser : Int} {wz : Str} (so : SetOk v es row) (ro : RowOk (chgE n ser wz es) row') : SetOk v (chgE n ser wz es) row' := by
  obtain ⟨k1, k2, k3, k4, k5, k6⟩ := so
  obtain ⟨l1, l2⟩ := chgE_lab n ser wz es
  refine ⟨by rw [l1]; exact k1, by rw [l2]; exact k2, ro.1, ro.2, fun e he => ?_, ?_⟩
  · obtain ⟨e0, h0, _, h2, _⟩ := chgE_mem he
    rw [h2]
    exact k5 e0 h0
  · unfold chgE
    rw [List.length_map]
    exact k6
def sp_change (K : PySem.W.Frag) : Sp := fun vs H Q E => ∃ (s : Sy) (x y z wd : V), vs = [.ref s.p, x, y, z, wd] ∧ SyAt K H s ∧ WF s.v ∧ Obj' H x ∧ Obj' H y ∧ Obj' H z ∧ Obj' H wd ∧ BySet K s x y H E fun _ t _ ser1 th1 => ByNum K t z H E fun n ser => ∀ th, lk s.ths ser = some th →
  (th.tg.v.isSet = true → Raised K H E "NotASource" (errN "NotASource" z)) ∧ ∀ u f, th.tg.v = .src u f → (isWord wd = false → Raised K H E "BadWord" (errW wd)) ∧ ∀ wz es row, wd = .str wz → wz ∈ words → th1.tg.v = .set es row →
    ((¬ ∃ e ∈ es, e.num = n ∧ e.ser = ser) → Raised K H E "NotRegistered" (errN "NotRegistered" z)) ∧ ∀ e ∈ es, e.num = n → e.ser = ser → ∀ H' s', SyAt K H' s' → s'.v = s.v.re ser1 (chgV es row n ser e.lab wz (f || decide (0 < u))) → WF s'.v → Fr' s s' H H' → Q .non H'
section
variable {P : Program} {w : World} {K : PySem.W.Frag} {mg : Str → Option Value} {base : Heap}
theorem sc_change : FnScope ["self", "process", "set_number", "number", "word", "entry"] ["self", "process", "set_number", "number", "word"] (defScope s_System_change) := ⟨rfl, rfl, rfl, by decide +kernel, rfl, by decide +kernel, by decide +kernel⟩
theorem key_inj {es : List En} (nd : ((es.map En.v).map fun e => (e.num, e.ser)).Nodup) {x y : En} (hx : x ∈ es) (hy : y ∈ es) (e1 : x.num = y.num) (e2 : x.ser = y.ser) : x = y := by
  rw [List.map_map] at nd
  induction es with
  | nil => cases hx
  | cons a l ih =>
    obtain ⟨n1, n2⟩ := List.nodup_cons.mp (show ((a.num, a.ser) :: l.map ((fun e => (e.num, e.ser)) ∘ En.v)).Nodup from nd)
    rcases List.mem_cons.mp hx with zx | zx
    · rcases List.mem_cons.mp hy with zy | zy
      · rw [zx, zy]
      · subst zx
        exact (n1 (List.mem_map.mpr ⟨y, zy, by show (y.num, y.ser) = (x.num, x.ser); rw [e1, e2]⟩)).elim
    · rcases List.mem_cons.mp hy with zy | zy
      · subst zy
        exact (n1 (List.mem_map.mpr ⟨x, zx, by show (x.num, x.ser) = (y.num, y.ser); rw [e1, e2]⟩)).elim
      · exact ih n2 zx zy
theorem ok_change (T : Tx K mg) : FnOk P w K mg base (L2.CX P w) 7 (mA "System" "change" K) (fdAt K (mA "System" "change" K)) ["self", "process", "set_number", "number", "word"] (sp_change K) := by
  refine FunD.ok T.f_System_change sc_change (fun vs H Q E h => ?_) (fun cdv A outer s H vs Q E hr h => ?_)
  · obtain ⟨s, x, y, z, wd, rfl, _⟩ := h
    rfl
  · obtain ⟨S, x, y, z, wd, rfl, hS, hw, hx, hy, hz, hwd, q⟩ := h
    have hu := hu_of hr
    refine ⟨_, pss_cons (ps_set (i := 5) sc_change.nd rfl (Or.inl rfl) (pe_meth (pv 0) T.c_System T.m_System_keyed_entry (ok_keyed_entry T) hr (b_keyed_entry T) .nil (passes_call (takes_of rfl rfl rfl rfl) (fun _ _ _ _ h => h)) (pa_cons (pv 1) (pa_cons (pv 2) (pa_cons (pv 3) pa_nil)))))
      (pss_cons (ps_expr (pe_call (ok_look_word T) (hr.mono (by decide)) (by rfl) T.g_look_word T.f_look_word.kp (b_look_word T) .nil (passes_call (takes_of rfl rfl rfl rfl) (fun _ _ _ _ h => h)) (pa_cons (pv 4) pa_nil)))
      (pss_cons (ps_if (pt_cmpR op_isN (pv 5) pe_non (nomark _)) (pss_one (ps_raise rfl (takes_of rfl rfl rfl rfl) (pmk_err T.x_NotRegistered (ei_NotRegistered T) (hr.mono (by decide)) (eb_NotRegistered T) pass0 (by rfl) T.g_NotRegistered (pv 3)))) pss_nil)
      (pss_cons (ps_fld (pv 5) (pv 4) rfl)
      (pss_cons (ps_fld (pv 5) pe_bl rfl)
      (pss_one (ps_if (pt_val (pe_prop (pe_dget hu (pe_fld (pv 0) rfl) (pe_fld (pv 5) rfl) (fun _ _ => rfl)) T.c_Source T.p_Source_is_ready (ok_is_ready T) (hr.mono (by decide)) (b_is_ready T) .nil pass0 rfl))
        (pss_one (ps_expr (pe_meth (pe_dget hu (pe_fld (pv 0) rfl) (pe_meth (pv 0) T.c_System T.m_System_set_at (ok_set_at T) (hr.mono (by decide)) (b_set_at T) .nil (passes_call (takes_of rfl rfl rfl rfl) (fun _ _ _ _ h => h)) (pa_cons (pv 1) (pa_cons (pv 2) pa_nil))) (fun _ _ => rfl)) T.c_WaitSet T.m_WaitSet_append_pending (ok_append_pending T) (hr.mono (by decide)) (b_append_pending T) .nil pass0 (pa_cons (pv 5) pa_nil)))) pss_nil)))))), ?_⟩
    refine ⟨_, rfl, S.p, S.dx, _, rfl, hS.ob, rfl, _, rfl, _, rfl, _, rfl, S, x, y, z, rfl, hS, hw, hx, hy, hz, ?_⟩
    rcases q with ⟨i, t, rfl, hl, q⟩ | ⟨hn, q⟩
    rotate_left
    · exact .inr ⟨hn, q⟩
    refine .inl ⟨i, t, rfl, hl, ?_⟩
    rcases q with ⟨n1, ser1, rfl, hs1, q⟩ | ⟨hn, q⟩
    rotate_left
    · exact .inr ⟨hn, q⟩
    refine .inl ⟨n1, ser1, rfl, hs1, fun th1 hth1 => ⟨fun e1 => ?_, (q th1 hth1).2⟩⟩
    have q := (q th1 hth1).1 e1
    rcases q with ⟨n, ser, rfl, hs, q⟩ | ⟨hn, q⟩
    rotate_left
    · exact .inr ⟨hn, q⟩
    refine .inl ⟨n, ser, rfl, hs, fun th hth => ⟨fun e => ?_, (q th hth).1⟩⟩
    intro dx L R es row et1 H2 e2
    obtain ⟨dx0, u, f, et⟩ := src_of e
    obtain ⟨qa, qb⟩ := (q th hth).2 u f (by rw [et]; rfl)
    refine ⟨_, rfl, wd, rfl, ?_, fun cw H3 e3 => ?_, fun c => (qa c).ext e2⟩
    · exact hwd.same e2
    obtain ⟨wz, rfl, hwz⟩ : ∃ wz, wd = .str wz ∧ wz ∈ words := by
      cases wd with
      | str wz => exact ⟨wz, rfl, of_decide_eq_true cw⟩
      | _ => cases cw
    obtain ⟨qe, qf⟩ := qb wz _ _ rfl hwz (by rw [et1]; rfl)
    refine ⟨_, rfl, rfl, _, rfl, ?_⟩
    cases ek : fKey es n ser with
    | none =>
      refine iteT ⟨_, rfl, fun d hd => ((qe (fKey_none.mp ek)).ext (e2.trans e3)).here hd⟩
    | some ee =>
      refine iteF ?_
      have eM : ee ∈ es := List.mem_of_find?_eq_some ek
      have eK : ee.num = n ∧ ee.ser = ser := of_decide_eq_true (p := ee.num = n ∧ ee.ser = ser) (List.find?_some (p := fun e : En => decide (e.num = n ∧ e.ser = ser)) ek)
      have E3 := e2.trans e3
      have S3 := hS.ext E3
      have ht1 := S3.gt _ (lk_mem hth1)
      rw [show ((ser1, th1) : Int × Th).2.tg = .set dx L R es row from et1] at ht1
      obtain ⟨nLR, nde⟩ := hS.setLR hth1 et1
      have so : SetOk S.v (es.map En.v) row := hw.ok (ser1, th1.tg.v) (List.mem_map.mpr ⟨(ser1, th1), lk_mem hth1, rfl⟩) _ _ (by show th1.tg.v = _; rw [et1]; rfl)
      have nds : (S.ths.map (·.1)).Nodup := by rw [← Sy.sers]; exact hw.nds
      refine ⟨_, rfl, _, rfl, ee.ad, _, ee.dx, _, rfl, ht1.2.2.2 ee eM, T.c_Entry, T.n_Entry_word, (by show 5 < 1000; decide), ?_⟩
      refine ⟨_, rfl, ee.ad, _, ee.dx, _, rfl, upd_same, T.c_Entry, T.n_Entry_armed, (by show 5 < 1000; decide), ?_⟩
      rw [upd_upd]
      let ee2 : En := { ee with wrd := wz, arm := true }
      let es2 : List En := chgN n ser wz es
      let H4 : Hp := upd H3 ee.ad (.ins (ga K "Entry") ee.dx (entF ee2))
      have up4 : ∀ b o, H3 b = some o → b ≠ ee.ad → H4 b = some o := fun b o h nb => by
        show upd H3 ee.ad _ b = some o
        rw [upd_ne nb]
        exact h
      have en4 : H4 ee.ad = some (.ins (ga K "Entry") ee.dx (entF ee2)) := upd_same
      have nE : ∀ {b : Addr} {o : HO}, H3 b = some o → (∀ x : En, o ≠ HO.ins (ga K "Entry") x.dx (entF x)) → H4 b = some o := fun {b o} h k => up4 b o h (fun z => by
        rw [z, ht1.2.2.2 ee eM] at h
        cases h
        exact k ee rfl)
      have em2 : ee2 ∈ es2 := List.mem_map.mpr ⟨ee, eM, if_pos eK⟩
      have t4 : TgAt K H4 th1.ad (.set dx L R es2 row) := by
        have r4 : H4 R = some (.lst (row.map V.int)) := nE ht1.2.2.1 (fun x z => nomatch z)
        refine ⟨nE ht1.1 (fun x => ins_ne "label" (fun z => nomatch z)), ?_, r4, fun x hx => ?_⟩
        · have z : es2.map (fun e => V.ref e.ad) = es.map fun e => V.ref e.ad := by
            have := congrArg (List.map V.ref) (chgN_ad n ser wz es)
            simpa [List.map_map, Function.comp_def] using this
          rw [z]
          exact nE ht1.2.1 (fun x z => nomatch z)
        · obtain ⟨y, hy, rfl⟩ := List.mem_map.mp hx
          by_cases cy : y.num = n ∧ y.ser = ser
          · have yl : y = ee := key_inj so.2.1 hy eM (by rw [cy.1, eK.1]) (by rw [cy.2, eK.2])
            subst yl
            rw [if_pos cy]
            exact en4
          · rw [if_neg cy]
            exact up4 _ _ (ht1.2.2.2 y hy) (fun z => cy (by rw [ad_inj nde hy eM z]; exact eK))
      have kp4 : ∀ b o, H b = some o → b ≠ th1.ad → b ≠ L → b ≠ R → b ∉ es.map (·.ad) → H4 b = some o := fun b o h _ _ _ ne => up4 b o (E3 _ _ h) (fun z => ne (z ▸ List.mem_map.mpr ⟨ee, eM, rfl⟩))
      have hads : ∀ a ∈ es2.map (·.ad), a ∈ es.map (·.ad) ∨ H a = none := fun a ha => .inl (by rw [← chgN_ad n ser wz es]; exact ha)
      have nde2 : (es2.map (·.ad)).Nodup := by rw [show es2.map (·.ad) = es.map (·.ad) from chgN_ad n ser wz es]; exact nde
      have fin : ∀ (H5 : Hp) (row' : List Int), TgAt K H5 th1.ad (.set dx L R es2 row') → (∀ b o, H b = some o → b ≠ th1.ad → b ≠ L → b ≠ R → b ∉ es.map (·.ad) → H5 b = some o) → RowOk (chgE n ser wz (es.map En.v)) row' → row' = (if (f || decide (0 < u)) then pendR row ee.lab true else row) → Q .non H5 := fun H5 row' t5 kp5 ro er => by
        obtain ⟨s5, f5⟩ := hS.resets hth1 et1 nds t5 kp5 (.inl rfl) (.inl rfl) nLR hads nde2
        have ev : (S.re ser1 th1.ad (.set dx L R es2 row')).v = S.v.re ser1 (chgV (es.map En.v) row n ser ee.v.lab wz (f || decide (0 < u))) := by
          rw [Sy.re_v]
          show S.v.re ser1 (.set (es2.map En.v) row') = _
          unfold chgV
          rw [show es2.map En.v = chgE n ser wz (es.map En.v) from chgN_v n ser wz es, er]
          rfl
        refine qf ee.v (List.mem_map.mpr ⟨ee, eM, rfl⟩) eK.1 eK.2 H5 _ s5 ev ?_ f5
        rw [ev]
        refine hw.re (tv := .set (es.map En.v) row) (by rw [Sy.ths_v, hth1, Option.map_some, et1]; rfl) rfl fun es' row2 ee' => ?_
        unfold chgV at ee'
        cases ee'
        rw [show ee.v.lab = ee.lab from rfl, ← er]
        exact chg_setOk so ro
      have ro0 : RowOk (chgE n ser wz (es.map En.v)) row := ⟨so.row.1, fun x hx => chgE_arm (so.row.2 x hx)⟩
      have rl : row.length ≤ 1000000 := Nat.le_trans so.row.len so.2.2.2.2.2
      have obS : H4 S.p = some _ := nE S3.ob fun x => ins_ne "label" (fun z => nomatch z)
      have gbS : H4 S.G = some _ := nE S3.gb fun x z => nomatch z
      have hts := S3.gt _ (lk_mem hth)
      rw [show ((ser, th) : Int × Th).2.tg = .src dx0 u f from et] at hts
      have srS := nE hts fun x => ins_ne "label" (fun z => nomatch z)
      have g4 : DGet H4 S.G (.int ee2.ser) (some (thV th)) := .inl ⟨_, Sum.inl ee2.ser, .inl gbS, rfl, by rw [val_kv, show ee2.ser = ser from eK.2, hth]; rfl⟩
      refine ⟨_, rfl, _, _, _, _, _, rfl, obS, T.c_System, T.n_System_things, rfl, _, rfl, _, _, _, _, _, rfl, en4, T.c_Entry, T.n_Entry_serial, rfl, _, _, rfl, g4, th.ad, dx0, _, rfl, srS, th.ad, dx0, u, f, rfl, srS, _, rfl, ?_⟩
      cases hr0 : (f || decide (0 < u)) with
      | false => exact iteF (fin H4 row t4 kp4 ro0 (by rw [hr0]; rfl))
      | true =>
        refine iteT ?_
        obtain ⟨s4, f4⟩ := hS.resets hth1 et1 nds t4 kp4 (.inl rfl) (.inl rfl) nLR hads nde2
        have lk4 : lk (S.re ser1 th1.ad (.set dx L R es2 row)).ths ser1 = some ⟨th1.ad, .set dx L R es2 row⟩ := by
          show lk (upAt S.ths ser1 fun _ => ⟨th1.ad, .set dx L R es2 row⟩) ser1 = _
          rw [upAt_lk, if_pos rfl, hth1]
          rfl
        have wf4 : WF (S.re ser1 th1.ad (.set dx L R es2 row)).v := by
          rw [Sy.re_v]
          refine hw.re (tv := .set (es.map En.v) row) (by rw [Sy.ths_v, hth1, Option.map_some, et1]; rfl) rfl fun es' row2 ee' => ?_
          have ee' : Tv.set (es2.map En.v) row = .set es' row2 := ee'
          cases ee'
          rw [show es2.map En.v = chgE n ser wz (es.map En.v) from chgN_v n ser wz es]
          exact chg_setOk so ro0
        have g5 : DGet H4 S.G (.int ser1) (some (thV th1)) := .inl ⟨_, Sum.inl ser1, .inl gbS, rfl, by rw [val_kv, hth1]; rfl⟩
        refine ⟨_, rfl, _, _, _, _, _, rfl, obS, T.c_System, T.n_System_things, rfl, _, rfl, S.p, S.dx, _, rfl, obS, rfl, _, rfl, _, rfl, S.re ser1 th1.ad (.set dx L R es2 row), .int i, .int n1, rfl, s4, wf4, trivial, trivial, .inl ⟨i, t, rfl, hl, .inl ⟨n1, ser1, rfl, hs1, fun th' hth' => ?_⟩⟩⟩
        rw [lk4] at hth'
        cases hth'
        refine ⟨fun _ => ⟨_, _, rfl, g5, th1.ad, dx, _, rfl, t4.1, rfl, _, rfl, th1.ad, dx, L, R, es2, row, ee2, rfl, t4, entT T, en4, rl, ?_⟩, fun z => (by cases z)⟩
        refine fin _ _ ⟨by rw [upd_ne (ne_of t4.1 t4.2.2.1 fun z => nomatch z)]; exact t4.1, by rw [upd_ne nLR]; exact t4.2.1, upd_same, fun x hx => by rw [upd_ne (ne_of (t4.2.2.2 x hx) t4.2.2.1 fun z => nomatch z)]; exact t4.2.2.2 x hx⟩ (fun b o h n1 n2 n3 n4 => by rw [upd_ne n3]; exact kp4 b o h n1 n2 n3 n4) ?_ (by rw [hr0]; rfl)
        exact pendR_ok (e := ee2.v) ro0 (by rw [← chgN_v]; exact List.mem_map.mpr ⟨ee2, em2, rfl⟩)
theorem kbindsN {x qual : Str} {params : Arguments} {body : List Stmt} {scope : Scope} {f : Addr} {fd : FuncData} {ps : List Str} (F : FunD K x qual params body scope [] [] f fd) (n : Nat) (ks : List Str) (g : {α : Type} → List α → List α → List α)
    (hrel : ∀ {vs zs : List V} {us ws : List Value}, Vals vs us → Vals zs ws → Vals (g vs zs) (g us ws))
    (h : ∀ (kV doc pm : Value) (an : Option Addr) (cdv ct : Value) (us ws : List Value), us.length = n → ws.length = ks.length → bindArgs (PySem.W.fnOf x qual params body scope .none kV doc pm an cdv ct) ⟨us, ks.zip ws⟩ = pure (ps.zip (g us ws))) :
    KBn K fd ps n ks (fun us ws => g us ws) (fun vs zs => g vs zs) := by
  obtain ⟨oc, od, dV, kV, doc, pm, an, cdv, ct, osl, rfl, lk, hcd, hD, hK⟩ := F.ex
  rcases hD with ⟨_, rfl⟩ | ⟨e, _⟩
  · exact ⟨fun s us ws X l1 l2 => .of_eq (h kV doc pm an cdv ct us ws l1 l2), fun r1 r2 => hrel r1 r2⟩
  · exact absurd rfl e
theorem b_changeW (T : Tx K mg) : KBn K (fdAt K (mA "System" "change" K)) ["self", "process", "set_number", "number", "word"] 4 ["word"] (fun us ws => us ++ ws) (fun vs zs => vs ++ zs) :=
  kbindsN T.f_System_change 4 ["word"] (fun a b => a ++ b) (fun r1 r2 => r1.append r2) fun kV doc pm an cdv ct us ws l1 l2 => match us, ws, l1, l2 with | [_, _, _, _], [_], _, _ => rfl
theorem b_addW (T : Tx K mg) : ∃ mv, KBn K (fdAt K (mA "System" "add" K)) ["self", "process", "set_number", "number", "label", "word"] 5 ["word"] (fun us ws => us ++ (ws ++ mv)) (fun vs zs => vs ++ (zs ++ [])) :=
  FunD.kbinds0 T.f_System_add 5 ["word"] [] (fun a b c => a ++ (c ++ b)) (fun z => nomatch z) (fun q hq => nomatch hq) (fun r1 r2 r3 => r1.append (r3.append r2)) fun D doc pm an cdv ct us mv ws l1 l2 l3 => match us, mv, ws, l1, l2, l3 with | [_, _, _, _, _], [], [_], _, _, _ => rfl
end

/-! ### drop, remove -/
def dropE (lab : Int) (es : List Ev) : List Ev := es.filter fun e => decide (e.lab ≠ lab)
def dropR (lab : Int) (row : List Int) : List Int := row.filter fun x => decide (x ≠ lab)
def dropN (lab : Int) (es : List En) : List En := es.filter fun e => decide (e.lab ≠ lab)
theorem dropN_v (lab : Int) (es : List En) : (dropN lab es).map En.v = dropE lab (es.map En.v) := by
  unfold dropN dropE
  rw [List.filter_map]
  rfl
theorem drop_setOk {v : Sv} {es : List Ev} {row : List Int} {lab : Int} (so : SetOk v es row) : SetOk v (dropE lab es) (dropR lab row) := by
  obtain ⟨k1, k2, k3, k4, k5, k6⟩ := so
  have sub : (dropE lab es).Sublist es := List.filter_sublist
  refine ⟨List.Nodup.sublist (sub.map _) k1, List.Nodup.sublist (sub.map _) k2, List.Nodup.sublist List.filter_sublist k3, fun x hx => ?_, fun e he => k5 e (sub.subset he), Nat.le_trans sub.length_le k6⟩
  obtain ⟨h1, h2⟩ := List.mem_filter.mp hx
  obtain ⟨e, he, q1, q2⟩ := k4 x h1
  exact ⟨e, List.mem_filter.mpr ⟨he, by rw [q1]; exact h2⟩, q1, q2⟩
def sp_drop (K : PySem.W.Frag) : Sp := fun vs H Q _ => ∃ (a dx L R : Addr) (es : List En) (row : List Int) (e : En), vs = [.ref a, .ref e.ad] ∧ TgAt K H a (.set dx L R es row) ∧ EntF K ∧ H e.ad = some (.ins (ga K "Entry") e.dx (entF e)) ∧ es.length ≤ 1000000 ∧ row.length ≤ 1000000 ∧
  ∀ H' L' R', H L' = none → H R' = none → L' ≠ R' → H' a = some (.ins (ga K "WaitSet") dx (setF L' R')) → H' L' = some (.lst ((dropN e.lab es).map fun e => .ref e.ad)) → H' R' = some (.lst ((dropR e.lab row).map V.int)) → (∀ b o, H b = some o → b ≠ a → H' b = some o) → Q .non H'
section
variable {P : Program} {w : World} {K : PySem.W.Frag} {mg : Str → Option Value} {base : Heap}
theorem sc_drop : FnScope ["self", "entry", "one", "label"] ["self", "entry"] (defScope s_WaitSet_drop) := ⟨rfl, rfl, rfl, by decide +kernel, rfl, by decide +kernel, by decide +kernel⟩
theorem filter_take {α : Type} {p : α → Bool} {l : List α} {i : Nat} {x : α} (h : l[i]? = some x) : (l.take (i + 1)).filter p = (l.take i).filter p ++ if p x then [x] else [] := by
  rw [List.take_succ, h, List.filter_append]
  cases c : p x <;> simp [c]
theorem ok_drop (T : Tx K mg) : FnOk P w K mg base CX0 1 (mA "WaitSet" "drop" K) (fdAt K (mA "WaitSet" "drop" K)) ["self", "entry"] (sp_drop K) := by
  refine FunD.ok T.f_WaitSet_drop sc_drop (fun vs H Q E h => ?_) (fun cdv A outer s H vs Q E hr h => ?_)
  · obtain ⟨a, dx, L, R, es, row, e, rfl, _⟩ := h
    rfl
  · obtain ⟨a, dx, L, R, es, row, e, rfl, ht, hE, he, z1, z2, q⟩ := h
    refine ⟨_, PSs.nox (pss_cons (ps_fld (pv 0) (pe_lc (own := [("one", 2)]) (g := gName 2) rfl sc_drop.nd (pi_list (pe_fld (pv 0) rfl)) (blkOk_by (N := ["self", "entry", "one", "label"]) (sc := defScope s_WaitSet_drop) (by decide +kernel))
        (fun _ _ _ _ _ => pg_name (i := 2) sc_drop.nd rfl (Or.inl rfl)) (fun _ _ _ _ _ => pts_one (pt_cmpR op_ne (pe_fldK K (pv 2) rfl) (pe_fldK K (pv 1) rfl) (nomark _))) (fun _ _ _ _ _ => pv 2)) rfl)
      (pss_one (ps_fld (pv 0) (pe_lc (own := [("label", 3)]) (g := gName 3) rfl sc_drop.nd (pi_list (pe_fld (pv 0) rfl)) (blkOk_by (N := ["self", "entry", "one", "label"]) (sc := defScope s_WaitSet_drop) (by decide +kernel))
        (fun _ _ _ _ _ => pg_name (i := 3) sc_drop.nd rfl (Or.inl rfl)) (fun _ _ _ _ _ => pts_one (pt_cmpR op_ne (pv 3) (pe_fldK K (pv 1) rfl) (nomark _))) (fun _ _ _ _ _ => pv 3)) rfl))), ?_⟩
    refine ⟨_, rfl, _, _, _, _, _, rfl, ht.1, T.c_WaitSet, T.n_WaitSet_entries, rfl, L, rfl, ⟨_, SqL.of ht.2.1⟩, fun D nD => ?_⟩
    refine lc_list (xs := es.map fun x => V.ref x.ad) (fun j H3 => Same H H3 ∧ H3 D = some (.lst (((es.take j).filter fun x => decide (x.lab ≠ e.lab)).map fun x => V.ref x.ad))) ⟨new_same nD, upd_same⟩ (fun j H3 _ g => SqL.of (g.1 _ _ ht.2.1)) ?_ ?_
    · rintro j x H3 hx ⟨s3, hD⟩
      rw [List.getElem?_map] at hx
      obtain ⟨x0, hx0, rfl⟩ := Option.map_eq_some_iff.mp hx
      have m0 : x0 ∈ es := List.mem_of_getElem? hx0
      refine ⟨rfl, ?_⟩
      refine ⟨_, rfl, _, _, _, _, _, rfl, s3 _ _ (ht.2.2.2 x0 m0), hE.c, hE.label, rfl, _, rfl, _, _, _, _, _, rfl, s3 _ _ he, hE.c, hE.label, rfl, rfl, _, rfl, ?_⟩
      by_cases c : x0.lab = e.lab
      · rw [decide_eq_true (show V.int x0.lab = V.int e.lab from by rw [c])]
        refine iteF ⟨s3, ?_⟩
        rw [filter_take hx0, if_neg (by simp [c]), List.append_nil]
        exact hD
      · rw [decide_eq_false (show V.int x0.lab ≠ V.int e.lab from fun z => c (V.int.inj z))]
        refine iteT ⟨_, rfl, _, hD, ?_, ?_, ?_⟩
        · rw [List.length_map]
          have l1 := List.length_filter_le (fun x : En => decide (x.lab ≠ e.lab)) (es.take j)
          rw [List.length_take] at l1
          have : (1000001 : Nat) < sizeLine := by decide
          omega
        · exact fun b o h => by rw [upd_ne (ne_of_none h nD)]; exact s3 _ _ h
        · rw [upd_same, filter_take hx0, if_pos (by simp [c]), List.map_append]
          rfl
    · rintro H3 ⟨s3, hD⟩
      rw [List.length_map, List.take_length] at hD
      refine ⟨_, rfl, a, _, dx, _, rfl, s3 _ _ ht.1, T.c_WaitSet, T.n_WaitSet_entries, (by show 2 < 1000; decide), ?_⟩
      have aD : a ≠ D := ne_of_none ht.1 nD
      have aR : a ≠ R := ne_of ht.1 ht.2.2.1 fun z => nomatch z
      have ea : e.ad ≠ a := ne_of he ht.1 (Ne.symm (ins_ne "label" (fun z => nomatch z)))
      have RD : R ≠ D := ne_of_none ht.2.2.1 nD
      let H4 : Hp := upd H3 a (.ins (ga K "WaitSet") dx (setF D R))
      have up4 : ∀ b o, H3 b = some o → b ≠ a → H4 b = some o := fun b o h nb => by
        show upd H3 a _ b = some o
        rw [upd_ne nb]
        exact h
      have a4 : H4 a = some (.ins (ga K "WaitSet") dx (setF D R)) := upd_same
      have R4 : H4 R = some (.lst (row.map V.int)) := up4 _ _ (s3 _ _ ht.2.2.1) (Ne.symm aR)
      have e4 := up4 _ _ (s3 _ _ he) ea
      refine ⟨_, rfl, _, _, _, _, _, rfl, a4, T.c_WaitSet, T.n_WaitSet_row, rfl, R, rfl, ⟨_, SqL.of R4⟩, fun D2 nD2 => ?_⟩
      have nD2 : H4 D2 = none := nD2
      have D2a : D2 ≠ a := fun z => by rw [z, a4] at nD2; cases nD2
      have D2D : D2 ≠ D := fun z => by rw [z, up4 _ _ hD (Ne.symm aD)] at nD2; cases nD2
      have nD2H : H D2 = none := by
        cases z : H D2 with
        | none => rfl
        | some o => rw [up4 _ _ (s3 _ _ z) D2a] at nD2; cases nD2
      refine lc_list (xs := row.map V.int) (fun j H5 => Same H4 H5 ∧ H5 D2 = some (.lst (((row.take j).filter fun x => decide (x ≠ e.lab)).map V.int))) ⟨new_same nD2, upd_same⟩ (fun j H5 _ g => SqL.of (g.1 _ _ R4)) ?_ ?_
      · rintro j x H5 hx ⟨s5, hD2⟩
        rw [List.getElem?_map] at hx
        obtain ⟨x0, hx0, rfl⟩ := Option.map_eq_some_iff.mp hx
        refine ⟨rfl, ?_⟩
        refine ⟨_, rfl, _, rfl, _, _, _, _, _, rfl, s5 _ _ e4, hE.c, hE.label, rfl, rfl, _, rfl, ?_⟩
        by_cases c : x0 = e.lab
        · rw [decide_eq_true (show V.int x0 = V.int e.lab from by rw [c])]
          refine iteF ⟨s5, ?_⟩
          rw [filter_take hx0, if_neg (by simp [c]), List.append_nil]
          exact hD2
        · rw [decide_eq_false (show V.int x0 ≠ V.int e.lab from fun z => c (V.int.inj z))]
          refine iteT ⟨_, rfl, _, hD2, ?_, ?_, ?_⟩
          · rw [List.length_map]
            have l1 := List.length_filter_le (fun x : Int => decide (x ≠ e.lab)) (row.take j)
            rw [List.length_take] at l1
            have : (1000001 : Nat) < sizeLine := by decide
            omega
          · exact fun b o h => by rw [upd_ne (ne_of_none h nD2)]; exact s5 _ _ h
          · rw [upd_same, filter_take hx0, if_pos (by simp [c]), List.map_append]
            rfl
      · rintro H5 ⟨s5, hD2⟩
        rw [List.length_map, List.take_length] at hD2
        refine ⟨_, rfl, a, _, dx, _, rfl, s5 _ _ a4, T.c_WaitSet, T.n_WaitSet_row, (by show 2 < 1000; decide), ?_⟩
        refine q _ D D2 nD nD2H (Ne.symm D2D) upd_same ?_ ?_ fun b o h nb => ?_
        · rw [upd_ne (Ne.symm aD)]
          exact s5 _ _ (up4 _ _ hD (Ne.symm aD))
        · rw [upd_ne D2a]
          exact hD2
        · rw [upd_ne nb]
          exact s5 _ _ (up4 _ _ (s3 _ _ h) nb)
theorem b_drop (T : Tx K mg) : Binds K (fdAt K (mA "WaitSet" "drop" K)) ["self", "entry"] [] := FunD.bindsN T.f_WaitSet_drop fun _ _ _ _ _ _ us hl => match us, hl with | [_, _], _ => rfl
end

def sp_remove (K : PySem.W.Frag) : Sp := fun vs H Q E => ∃ (s : Sy) (x y z : V), vs = [.ref s.p, x, y, z] ∧ SyAt K H s ∧ WF s.v ∧ Obj' H x ∧ Obj' H y ∧ Obj' H z ∧ BySet K s x y H E fun _ t _ ser1 th1 => ByNum K t z H E fun n ser => ∀ th, lk s.ths ser = some th →
  (th.tg.v.isSet = true → Raised K H E "NotASource" (errN "NotASource" z)) ∧ (th.tg.v.isSet = false → ∀ es row, th1.tg.v = .set es row →
    ((¬ ∃ e ∈ es, e.num = n ∧ e.ser = ser) → Raised K H E "NotRegistered" (errN "NotRegistered" z)) ∧ ∀ e ∈ es, e.num = n → e.ser = ser → ∀ H' s', SyAt K H' s' → s'.v = s.v.re ser1 (.set (dropE e.lab es) (dropR e.lab row)) → WF s'.v → Fr' s s' H H' → Q .non H')
section
variable {P : Program} {w : World} {K : PySem.W.Frag} {mg : Str → Option Value} {base : Heap}
theorem sc_remove : FnScope ["self", "process", "set_number", "number", "entry"] ["self", "process", "set_number", "number"] (defScope s_System_remove) := ⟨rfl, rfl, rfl, by decide +kernel, rfl, by decide +kernel, by decide +kernel⟩
theorem ok_remove (T : Tx K mg) : FnOk P w K mg base (L2.CX P w) 7 (mA "System" "remove" K) (fdAt K (mA "System" "remove" K)) ["self", "process", "set_number", "number"] (sp_remove K) := by
  refine FunD.ok T.f_System_remove sc_remove (fun vs H Q E h => ?_) (fun cdv A outer s H vs Q E hr h => ?_)
  · obtain ⟨s, x, y, z, rfl, _⟩ := h
    rfl
  · obtain ⟨S, x, y, z, rfl, hS, hw, hx, hy, hz, q⟩ := h
    have hu := hu_of hr
    refine ⟨_, pss_cons (ps_set (i := 4) sc_remove.nd rfl (Or.inl rfl) (pe_meth (pv 0) T.c_System T.m_System_keyed_entry (ok_keyed_entry T) hr (b_keyed_entry T) .nil (passes_call (takes_of rfl rfl rfl rfl) (fun _ _ _ _ h => h)) (pa_cons (pv 1) (pa_cons (pv 2) (pa_cons (pv 3) pa_nil)))))
      (pss_cons (ps_if (pt_cmpR op_isN (pv 4) pe_non (nomark _)) (pss_one (ps_raise rfl (takes_of rfl rfl rfl rfl) (pmk_err T.x_NotRegistered (ei_NotRegistered T) (hr.mono (by decide)) (eb_NotRegistered T) pass0 (by rfl) T.g_NotRegistered (pv 3)))) pss_nil)
      (pss_one (ps_expr (pe_meth (pe_dget hu (pe_fld (pv 0) rfl) (pe_meth (pv 0) T.c_System T.m_System_set_at (ok_set_at T) (hr.mono (by decide)) (b_set_at T) .nil (passes_call (takes_of rfl rfl rfl rfl) (fun _ _ _ _ h => h)) (pa_cons (pv 1) (pa_cons (pv 2) pa_nil))) (fun _ _ => rfl)) T.c_WaitSet T.m_WaitSet_drop (ok_drop T) (hr.mono (by decide)) (b_drop T) .nil pass0 (pa_cons (pv 4) pa_nil))))), ?_⟩
    refine ⟨_, rfl, S.p, S.dx, _, rfl, hS.ob, rfl, _, rfl, _, rfl, _, rfl, S, x, y, z, rfl, hS, hw, hx, hy, hz, ?_⟩
    rcases q with ⟨i, t, rfl, hl, q⟩ | ⟨hn, q⟩
    rotate_left
    · exact .inr ⟨hn, q⟩
    refine .inl ⟨i, t, rfl, hl, ?_⟩
    rcases q with ⟨n1, ser1, rfl, hs1, q⟩ | ⟨hn, q⟩
    rotate_left
    · exact .inr ⟨hn, q⟩
    refine .inl ⟨n1, ser1, rfl, hs1, fun th1 hth1 => ⟨fun e1 => ?_, (q th1 hth1).2⟩⟩
    have q := (q th1 hth1).1 e1
    rcases q with ⟨n, ser, rfl, hs, q⟩ | ⟨hn, q⟩
    rotate_left
    · exact .inr ⟨hn, q⟩
    refine .inl ⟨n, ser, rfl, hs, fun th hth => ⟨fun e => ?_, (q th hth).1⟩⟩
    intro dx L R es row et1 H2 e2
    obtain ⟨qe, qf⟩ := (q th hth).2 e _ _ (show th1.tg.v = .set (es.map En.v) row by rw [et1]; rfl)
    refine ⟨_, rfl, rfl, _, rfl, ?_⟩
    cases ek : fKey es n ser with
    | none => exact iteT ⟨_, rfl, fun d hd => ((qe (fKey_none.mp ek)).ext e2).here hd⟩
    | some ee =>
      refine iteF ?_
      have eM : ee ∈ es := List.mem_of_find?_eq_some ek
      have eK : ee.num = n ∧ ee.ser = ser := of_decide_eq_true (p := ee.num = n ∧ ee.ser = ser) (List.find?_some (p := fun e : En => decide (e.num = n ∧ e.ser = ser)) ek)
      have S2 := hS.ext e2
      have ht1 := S2.gt _ (lk_mem hth1)
      rw [show ((ser1, th1) : Int × Th).2.tg = .set dx L R es row from et1] at ht1
      obtain ⟨nLR, nde⟩ := hS.setLR hth1 et1
      have so : SetOk S.v (es.map En.v) row := hw.ok (ser1, th1.tg.v) (List.mem_map.mpr ⟨(ser1, th1), lk_mem hth1, rfl⟩) _ _ (by show th1.tg.v = _; rw [et1]; rfl)
      have nds : (S.ths.map (·.1)).Nodup := by rw [← Sy.sers]; exact hw.nds
      have g5 : DGet H2 S.G (.int ser1) (some (thV th1)) := .inl ⟨_, Sum.inl ser1, .inl S2.gb, rfl, by rw [val_kv, hth1]; rfl⟩
      refine ⟨_, rfl, _, _, _, _, _, rfl, S2.ob, T.c_System, T.n_System_things, rfl, _, rfl, S.p, S.dx, _, rfl, S2.ob, rfl, _, rfl, _, rfl, S, .int i, .int n1, rfl, S2, hw, trivial, trivial, .inl ⟨i, t, rfl, hl, .inl ⟨n1, ser1, rfl, hs1, fun th' hth' => ?_⟩⟩⟩
      rw [hth1] at hth'
      cases hth'
      have zl : es.length ≤ 1000000 := by have := so.2.2.2.2.2; rw [List.length_map] at this; exact this
      refine ⟨fun _ => ⟨_, _, rfl, g5, th1.ad, dx, _, rfl, ht1.1, rfl, _, rfl, th1.ad, dx, L, R, es, row, ee, rfl, ht1, entT T, ht1.2.2.2 ee eM, zl, Nat.le_trans so.row.len so.2.2.2.2.2, fun H3 L' R' nL nR nn a3 l3 r3 k3 => ?_⟩, fun z => by rw [e1] at z; cases z⟩
      have sub : (dropN ee.lab es).Sublist es := List.filter_sublist
      obtain ⟨s5, f5⟩ := hS.resets hth1 et1 nds (H' := H3) (dx' := dx) (L' := L') (R' := R') (es' := dropN ee.lab es) (row' := dropR ee.lab row) ⟨a3, l3, r3, fun y hy => k3 _ _ (ht1.2.2.2 y (sub.subset hy)) (ne_of (ht1.2.2.2 y (sub.subset hy)) ht1.1 (Ne.symm (ins_ne "label" (fun z => nomatch z))))⟩ (fun b o h nb _ _ _ => k3 b o (e2 _ _ h) nb) (.inr (e2.free nL)) (.inr (e2.free nR)) nn (fun a ha => .inl ((sub.map _).subset ha)) (List.Nodup.sublist (sub.map _) nde)
      have ev : (S.re ser1 th1.ad (.set dx L' R' (dropN ee.lab es) (dropR ee.lab row))).v = S.v.re ser1 (.set (dropE ee.v.lab (es.map En.v)) (dropR ee.v.lab row)) := by
        rw [Sy.re_v]
        show S.v.re ser1 (.set ((dropN ee.lab es).map En.v) (dropR ee.lab row)) = _
        rw [dropN_v]
        rfl
      refine qf ee.v (List.mem_map.mpr ⟨ee, eM, rfl⟩) eK.1 eK.2 H3 _ s5 ev ?_ f5
      rw [ev]
      refine hw.re (tv := .set (es.map En.v) row) (by rw [Sy.ths_v, hth1, Option.map_some, et1]; rfl) rfl fun es' row2 ee' => ?_
      cases ee'
      exact drop_setOk so
theorem b_remove (T : Tx K mg) : Binds K (fdAt K (mA "System" "remove" K)) ["self", "process", "set_number", "number"] [] := FunD.bindsN T.f_System_remove fun _ _ _ _ _ _ us hl => match us, hl with | [_, _, _, _], _ => rfl
end

/-! ### registrations of a thing that is gone -/
def offE (ls : List Int) (es : List Ev) : List Ev := es.filter fun e => decide (e.lab ∉ ls)
def offN (ls : List Int) (es : List En) : List En := es.filter fun e => decide (e.lab ∉ ls)
def offR (ls row : List Int) : List Int := row.filter fun x => decide (x ∉ ls)
def labsE (ser : Int) (es : List Ev) : List Int := (es.filter fun e => decide (e.ser = ser)).map (·.lab)
def labsN (ser : Int) (es : List En) : List Int := (es.filter fun e => decide (e.ser = ser)).map (·.lab)
theorem offN_v (ls : List Int) (es : List En) : (offN ls es).map En.v = offE ls (es.map En.v) := by
  unfold offN offE
  rw [List.filter_map]
  rfl
theorem labsN_v (ser : Int) (es : List En) : labsN ser es = labsE ser (es.map En.v) := by
  unfold labsN labsE
  rw [List.filter_map, List.map_map]
  rfl
theorem off_step {α : Type} (f : α → Int) (ls : List Int) (l : Int) (es : List α) : (es.filter fun e => decide (f e ∉ ls)).filter (fun e => decide (f e ≠ l)) = es.filter fun e => decide (f e ∉ ls ++ [l]) := by
  rw [List.filter_filter]
  refine List.filter_congr fun e _ => ?_
  by_cases c1 : f e ∈ ls <;> by_cases c2 : f e = l <;> simp [c1, c2]
theorem offN_drop (ls : List Int) (l : Int) (es : List En) : dropN l (offN ls es) = offN (ls ++ [l]) es := off_step (fun e : En => e.lab) ls l es
theorem offR_drop (ls : List Int) (l : Int) (row : List Int) : dropR l (offR ls row) = offR (ls ++ [l]) row := off_step (fun x : Int => x) ls l row
theorem offN_nil (es : List En) : offN [] es = es := List.filter_eq_self.mpr fun _ _ => by simp
theorem offR_nil (row : List Int) : offR [] row = row := List.filter_eq_self.mpr fun _ _ => by simp
def sp_forget (K : PySem.W.Frag) : Sp := fun vs H Q _ => ∃ (a dx L R : Addr) (es : List En) (row : List Int) (ser : Int), vs = [.ref a, .int ser] ∧ TgAt K H a (.set dx L R es row) ∧ L ≠ R ∧ es.length ≤ mostE ∧ row.length ≤ 1000000 ∧
  ∀ H' L' R', (L' = L ∨ H L' = none) → (R' = R ∨ H R' = none) → L' ≠ R' → H' a = some (.ins (ga K "WaitSet") dx (setF L' R')) → H' L' = some (.lst ((offN (labsN ser es) es).map fun e => .ref e.ad)) → H' R' = some (.lst ((offR (labsN ser es) row).map V.int)) → (∀ b o, H b = some o → b ≠ a → H' b = some o) → Q .non H'
section
variable {P : Program} {w : World} {K : PySem.W.Frag} {mg : Str → Option Value} {base : Heap}
theorem sc_forget : FnScope ["self", "serial", "entry", "one"] ["self", "serial"] (defScope s_WaitSet_forget) := ⟨rfl, rfl, rfl, by decide +kernel, rfl, by decide +kernel, by decide +kernel⟩
theorem ok_forget (T : Tx K mg) : FnOk P w K mg base CX0 2 (mA "WaitSet" "forget" K) (fdAt K (mA "WaitSet" "forget" K)) ["self", "serial"] (sp_forget K) := by
  refine FunD.ok T.f_WaitSet_forget sc_forget (fun vs H Q E h => ?_) (fun cdv A outer s H vs Q E hr h => ?_)
  · obtain ⟨a, dx, L, R, es, row, ser, rfl, _⟩ := h
    rfl
  · obtain ⟨a, dx, L, R, es, row, ser, rfl, ht, nLR, z1, z2, q⟩ := h
    refine ⟨_, PSs.nox (pss_one (ps_for PassesOwn.never rfl (pi_list (pe_lc (own := [("one", 3)]) (g := gName 3) rfl sc_forget.nd (pi_list (pe_fld (pv 0) rfl)) (blkOk_by (N := ["self", "serial", "entry", "one"]) (sc := defScope s_WaitSet_forget) (by decide +kernel))
        (fun _ _ _ _ _ => pg_name (i := 3) sc_forget.nd rfl (Or.inl rfl)) (fun _ _ _ _ _ => pts_one (pt_cmpR op_eq (pe_fldK K (pv 3) rfl) (pv 1) (nomark _))) (fun _ _ _ _ _ => pv 3))) (pg_name (i := 2) sc_forget.nd rfl (Or.inl rfl))
      (pss_one (ps_expr (pe_meth (pv 0) T.c_WaitSet T.m_WaitSet_drop (ok_drop T) hr (b_drop T) .nil pass0 (pa_cons (pv 2) pa_nil)))))), ?_⟩
    refine ⟨_, rfl, _, _, _, _, _, rfl, ht.1, T.c_WaitSet, T.n_WaitSet_entries, rfl, L, rfl, ⟨_, SqL.of ht.2.1⟩, fun D nD => ?_⟩
    refine lc_list (xs := es.map fun x => V.ref x.ad) (fun j H3 => Same H H3 ∧ H3 D = some (.lst (((es.take j).filter fun x => decide (x.ser = ser)).map fun x => V.ref x.ad))) ⟨new_same nD, upd_same⟩ (fun j H3 _ g => SqL.of (g.1 _ _ ht.2.1)) ?_ ?_
    · rintro j x H3 hx ⟨s3, hD⟩
      rw [List.getElem?_map] at hx
      obtain ⟨x0, hx0, rfl⟩ := Option.map_eq_some_iff.mp hx
      have m0 : x0 ∈ es := List.mem_of_getElem? hx0
      refine ⟨rfl, ?_⟩
      refine ⟨_, rfl, _, _, _, _, _, rfl, s3 _ _ (ht.2.2.2 x0 m0), (ent_of T m0 z1).c, (ent_of T m0 z1).serial, rfl, _, rfl, rfl, _, rfl, ?_⟩
      by_cases c : x0.ser = ser
      · rw [decide_eq_true (show V.int x0.ser = V.int ser from by rw [c])]
        refine iteT ⟨_, rfl, _, hD, ?_, ?_, ?_⟩
        · rw [List.length_map]
          have l1 := List.length_filter_le (fun x : En => decide (x.ser = ser)) (es.take j)
          rw [List.length_take] at l1
          have : (1000001 : Nat) < sizeLine := by decide
          have := Nat.le_trans z1 mostE_le
          omega
        · exact fun b o h => by rw [upd_ne (ne_of_none h nD)]; exact s3 _ _ h
        · rw [upd_same, filter_take hx0, if_pos (by simp [c]), List.map_append]
          rfl
      · rw [decide_eq_false (show V.int x0.ser ≠ V.int ser from fun z => c (V.int.inj z))]
        refine iteF ⟨s3, ?_⟩
        rw [filter_take hx0, if_neg (by simp [c]), List.append_nil]
        exact hD
    · rintro H3 ⟨s3, hD⟩
      rw [List.length_map, List.take_length] at hD
      have aD : a ≠ D := ne_of_none ht.1 nD
      have el : labsN ser es = (es.filter fun x => decide (x.ser = ser)).map (·.lab) := rfl
      generalize hX : (es.filter fun x => decide (x.ser = ser)) = X at hD el
      have XM : ∀ x ∈ X, x ∈ es := fun x hx => by rw [← hX] at hx; exact (List.mem_filter.mp hx).1
      refine ⟨D, rfl, ⟨_, SqL.of hD⟩, ?_⟩
      refine for_list (xs := X.map fun x => V.ref x.ad) (fun j σ H4 => (∃ v2 v3, σ = [some (.ref a), some (.int ser), v2, v3]) ∧ ∃ L' R', (L' = L ∨ H L' = none) ∧ (R' = R ∨ H R' = none) ∧ L' ≠ R' ∧ H4 a = some (.ins (ga K "WaitSet") dx (setF L' R')) ∧ H4 L' = some (.lst ((offN ((X.take j).map (·.lab)) es).map fun e => .ref e.ad)) ∧ H4 R' = some (.lst ((offR ((X.take j).map (·.lab)) row).map V.int)) ∧ (∀ b o, H3 b = some o → b ≠ a → H4 b = some o)) ⟨⟨_, _, rfl⟩, L, R, .inl rfl, .inl rfl, nLR, s3 _ _ ht.1, ?_, ?_, fun b o h _ => h⟩ (fun j σ H4 _ g => ?_) ?_ ?_
      · rw [List.take_zero, List.map_nil, offN_nil]
        exact s3 _ _ ht.2.1
      · rw [List.take_zero, List.map_nil, offR_nil]
        exact s3 _ _ ht.2.2.1
      · obtain ⟨_, L', R', _, _, _, _, _, _, kp⟩ := g
        exact SqL.of (kp _ _ hD (Ne.symm aD))
      · rintro j x σ H4 hx ⟨⟨v2, v3, rfl⟩, L', R', hL', hR', nn, h1, h2, h3, kp⟩
        rw [List.getElem?_map] at hx
        obtain ⟨x0, hx0, rfl⟩ := Option.map_eq_some_iff.mp hx
        have m0 : x0 ∈ es := XM x0 (List.mem_of_getElem? hx0)
        have nea : ∀ y ∈ es, y.ad ≠ a := fun y hy => ne_of (ht.2.2.2 y hy) ht.1 (Ne.symm (ins_ne "label" (fun z => nomatch z)))
        have hE : ∀ y ∈ es, H4 y.ad = some (.ins (ga K "Entry") y.dx (entF y)) := fun y hy => kp _ _ (s3 _ _ (ht.2.2.2 y hy)) (nea y hy)
        have subE : ∀ y ∈ offN ((X.take j).map (·.lab)) es, y ∈ es := fun y hy => (List.mem_filter.mp hy).1
        refine ⟨_, rfl, a, dx, _, rfl, h1, rfl, _, rfl, a, dx, L', R', offN ((X.take j).map (·.lab)) es, offR ((X.take j).map (·.lab)) row, x0, rfl, ⟨h1, h2, h3, fun y hy => hE y (subE y hy)⟩, ent_of T m0 z1, hE x0 m0, Nat.le_trans (List.length_filter_le _ _) (Nat.le_trans z1 mostE_le), Nat.le_trans (List.length_filter_le _ _) z2, fun H5 L2 R2 nL2 nR2 n2 a5 l5 r5 k5 => ?_⟩
        have back : ∀ b, H4 b = none → H b = none := fun b hb => by
          cases z : H b with
          | none => rfl
          | some o =>
            by_cases c : b = a
            · rw [c, h1] at hb
              cases hb
            · rw [kp _ _ (s3 _ _ z) c] at hb
              cases hb
        have tk : (X.take (j + 1)).map (·.lab) = (X.take j).map (·.lab) ++ [x0.lab] := by rw [take_next hx0, List.map_append]; rfl
        refine ⟨⟨_, _, rfl⟩, L2, R2, .inr (back _ nL2), .inr (back _ nR2), n2, a5, ?_, ?_, fun b o h nb => k5 b o (kp b o h nb) nb⟩
        · rw [tk, ← offN_drop]
          exact l5
        · rw [tk, ← offR_drop]
          exact r5
      · rintro σ H4 ⟨⟨v2, v3, rfl⟩, L', R', hL', hR', nn, h1, h2, h3, kp⟩
        rw [List.length_map, List.take_length, ← el] at h2 h3
        exact q H4 L' R' hL' hR' nn h1 h2 h3 fun b o h nb => kp b o (s3 _ _ h) nb
theorem b_forget (T : Tx K mg) : Binds K (fdAt K (mA "WaitSet" "forget" K)) ["self", "serial"] [] := FunD.bindsN T.f_WaitSet_forget fun _ _ _ _ _ _ us hl => match us, hl with | [_, _], _ => rfl
end

/-! ### a number closed, plainly -/
def fgtT (ser : Int) : Tv → Tv
  | .src u f => .src u f
  | .set es row => .set (offE (labsE ser es) es) (offR (labsE ser es) row)
def Sv.fgtK (v : Sv) (ser : Int) (ks : List Int) : Sv := v.mapT fun k t => if k ∈ ks then fgtT ser t else t
def Sv.fgt (v : Sv) (ser : Int) : Sv := v.mapT fun _ t => fgtT ser t
def Sv.cut (v : Sv) (i n : Int) : Sv := { v with tabs := upAt v.tabs i (fun r => dr r n) }
def Sv.gone (v : Sv) (ser : Int) : Sv := { v with ths := dr v.ths ser }
def closeV (v : Sv) (i n ser : Int) : Sv := if holds (v.cut i n).tabs ser = [] then ((v.cut i n).gone ser).fgt ser else v.cut i n
theorem dr_sub {α : Type} (l : List (Int × α)) (n : Int) : (dr l n).Sublist l := List.filter_sublist
theorem dr_mem {α : Type} {l : List (Int × α)} {n : Int} {t : Int × α} : t ∈ dr l n ↔ t ∈ l ∧ t.1 ≠ n := by
  unfold dr
  rw [List.mem_filter, decide_eq_true_eq]
theorem cut_mem {v : Sv} {i n : Int} {t : Int × List (Int × Int)} (h : t ∈ (v.cut i n).tabs) : ∃ u ∈ v.tabs, u.1 = t.1 ∧ (t.2 = u.2 ∨ t.2 = dr u.2 n) := by
  rcases upAt_mem (show t ∈ upAt v.tabs i (fun r => dr r n) from h) with ⟨_, z⟩ | ⟨x, hx, rfl⟩
  · exact ⟨t, z, rfl, .inl rfl⟩
  · exact ⟨(i, x), hx, rfl, .inr rfl⟩
theorem cut_row {v : Sv} {i n : Int} {t : Int × List (Int × Int)} (h : t ∈ (v.cut i n).tabs) : ∃ u ∈ v.tabs, u.1 = t.1 ∧ ∀ r ∈ t.2, r ∈ u.2 := by
  obtain ⟨u, hu, e, z | z⟩ := cut_mem h
  · exact ⟨u, hu, e, fun r hr => z ▸ hr⟩
  · refine ⟨u, hu, e, fun r hr => ?_⟩
    rw [z] at hr
    exact (dr_mem.mp hr).1
theorem WF.cut0 {v : Sv} (h : WF v) (i n : Int) : WF0 (v.cut i n) := by
  refine ⟨h.p, h.n, ?_, fun t ht => ?_, fun t ht => ?_, fun t ht r hr => ?_, h.nds, h.rs⟩
  · show ((upAt v.tabs i (fun r => dr r n)).map (·.1)).Nodup
    rw [upAt_keys]
    exact h.ndp
  · obtain ⟨u, hu, e, _⟩ := cut_mem ht
    rw [← e]
    exact h.rp u hu
  · obtain ⟨u, hu, e, z | z⟩ := cut_mem ht
    · rw [z]
      exact h.ndn u hu
    · rw [z]
      exact List.Nodup.sublist ((dr_sub _ _).map _) (h.ndn u hu)
  · obtain ⟨u, hu, e, z⟩ := cut_row ht
    exact h.rn u hu r (z r hr)
theorem WF0.gone {v : Sv} (h : WF0 v) (ser : Int) : WF0 (v.gone ser) := ⟨h.p, h.n, h.ndp, h.rp, h.ndn, h.rn, List.Nodup.sublist ((dr_sub _ _).map _) h.nds, fun t ht => h.rs t (dr_mem.mp ht).1⟩
/-- held: by a row, by a number -/
theorem holds_of {v : Sv} (h : WF0 v) {ser : Int} (z : ∃ u ∈ v.tabs, ∃ r ∈ u.2, r.2 = ser) : holds v.tabs ser ≠ [] := by
  obtain ⟨u, hu, r, hr, e⟩ := z
  have l1 : lk v.tabs u.1 = some u.2 := lk_of_mem h.ndp hu
  have l2 : lk u.2 r.1 = some ser := by rw [lk_of_mem (h.ndn u hu) (show (r.1, r.2) ∈ u.2 from hr), e]
  intro z
  rw [holds_eq] at z
  have z1 := List.flatMap_eq_nil_iff.mp z u.1 (srtI_mem.mpr (List.mem_map.mpr ⟨u, hu, rfl⟩))
  unfold hAt at z1
  rw [l1] at z1
  unfold holdsIn at z1
  have z2 := List.map_eq_nil_iff.mp z1
  have : r.1 ∈ (srtI (u.2.map (·.1))).filter fun n => decide (lk u.2 n = some ser) := List.mem_filter.mpr ⟨srtI_mem.mpr (List.mem_map.mpr ⟨r, hr, rfl⟩), decide_eq_true l2⟩
  rw [z2] at this
  cases this
theorem of_holds {v : Sv} {ser : Int} (h : holds v.tabs ser ≠ []) : ∃ u ∈ v.tabs, ∃ r ∈ u.2, r.2 = ser := by
  rw [holds_eq] at h
  obtain ⟨x, hx⟩ := List.exists_mem_of_ne_nil _ h
  obtain ⟨p, _, hp⟩ := List.mem_flatMap.mp hx
  unfold hAt at hp
  cases e : lk v.tabs p with
  | none => rw [e] at hp; cases hp
  | some rows =>
    rw [e] at hp
    obtain ⟨n, hn, _⟩ := List.mem_map.mp hp
    exact ⟨(p, rows), lk_mem e, (n, ser), lk_mem (of_decide_eq_true (List.mem_filter.mp hn).2), rfl⟩
/-- another thing is held as before -/
theorem WF.cut_held {v : Sv} (h : WF v) {i n ser : Int} {rows : List (Int × Int)} (hi : lk v.tabs i = some rows) (hn : lk rows n = some ser) {t : Int × Tv} (ht : t ∈ v.ths) (ne : t.1 ≠ ser) : ∃ u ∈ (v.cut i n).tabs, ∃ r ∈ u.2, r.2 = t.1 := by
  obtain ⟨u, hu, r, hr, e⟩ := h.held t ht
  by_cases c : u.1 = i
  · have eu : u.2 = rows := by
      have := lk_of_mem h.ndp (show (u.1, u.2) ∈ v.tabs from hu)
      rw [c, hi] at this
      exact (Option.some.inj this).symm
    refine ⟨(u.1, dr u.2 n), List.mem_map.mpr ⟨u, hu, by rw [if_pos c]⟩, r, dr_mem.mpr ⟨hr, fun z => ?_⟩, e⟩
    have := lk_of_mem (h.ndn u hu) (show (r.1, r.2) ∈ u.2 from hr)
    rw [z, eu, hn] at this
    exact ne ((Option.some.inj this).trans e).symm
  · exact ⟨u, List.mem_map.mpr ⟨u, hu, by rw [if_neg c]⟩, r, hr, e⟩
theorem off_setOk {v v' : Sv} {es : List Ev} {row : List Int} {ser : Int} (so : SetOk v es row) (hv : ∀ k u f, k ≠ ser → lk v.ths k = some (.src u f) → ∃ u f, lk v'.ths k = some (.src u f)) : SetOk v' (offE (labsE ser es) es) (offR (labsE ser es) row) := by
  obtain ⟨k1, k2, k3, k4, k5, k6⟩ := so
  have sub : (offE (labsE ser es) es).Sublist es := List.filter_sublist
  refine ⟨List.Nodup.sublist (sub.map _) k1, List.Nodup.sublist (sub.map _) k2, List.Nodup.sublist List.filter_sublist k3, fun x hx => ?_, fun e he => ?_, Nat.le_trans sub.length_le k6⟩
  · obtain ⟨h1, h2⟩ := List.mem_filter.mp hx
    obtain ⟨e, he, q1, q2⟩ := k4 x h1
    exact ⟨e, List.mem_filter.mpr ⟨he, by rw [q1]; exact h2⟩, q1, q2⟩
  · obtain ⟨h1, h2⟩ := List.mem_filter.mp he
    obtain ⟨u, f, q⟩ := k5 e h1
    refine hv e.ser u f (fun z => ?_) q
    exact of_decide_eq_true h2 (List.mem_map.mpr ⟨e, List.mem_filter.mpr ⟨h1, decide_eq_true z⟩, rfl⟩)
theorem WF.close {v : Sv} (h : WF v) {i n ser : Int} {rows : List (Int × Int)} (hi : lk v.tabs i = some rows) (hn : lk rows n = some ser) : WF (closeV v i n ser) := by
  have w0 := h.cut0 i n
  unfold closeV
  split
  · rename_i c
    have w1 := w0.gone ser
    have no : ∀ u ∈ (v.cut i n).tabs, ∀ r ∈ u.2, r.2 ≠ ser := fun u hu r hr e => holds_of w0 ⟨u, hu, r, hr, e⟩ c
    have hk : ∀ k, lk (((v.cut i n).gone ser).fgt ser).ths k = if k = ser then none else (lk v.ths k).map (fgtT ser) := fun k => by
      show lk ((dr v.ths ser).map fun t => (t.1, fgtT ser t.2)) k = _
      rw [lk_map, lk_dr]
      split <;> rfl
    refine ⟨w1.p, w1.n, w1.ndp, w1.rp, w1.ndn, w1.rn, fun t ht r hr => ?_, ?_, fun t ht => ?_, fun t ht => ?_, fun t ht es row e => ?_⟩
    · obtain ⟨u, hu, e, z⟩ := cut_row (show t ∈ (v.cut i n).tabs from ht)
      have m := h.th u hu r (z r hr)
      obtain ⟨x, hx, ex⟩ := List.mem_map.mp m
      rw [Sv.fgt, mapT_keys]
      exact List.mem_map.mpr ⟨x, dr_mem.mpr ⟨hx, by rw [ex]; exact no t ht r hr⟩, ex⟩
    · rw [Sv.fgt, mapT_keys]
      exact w1.nds
    · obtain ⟨u, hu, rfl⟩ := List.mem_map.mp ht
      exact w1.rs u hu
    · obtain ⟨u, hu, rfl⟩ := List.mem_map.mp ht
      obtain ⟨u1, u2⟩ := dr_mem.mp hu
      exact h.cut_held (t := u) hi hn u1 u2
    · obtain ⟨u, hu, rfl⟩ := List.mem_map.mp ht
      obtain ⟨u1, u2⟩ := dr_mem.mp hu
      have e' : fgtT ser u.2 = .set es row := e
      cases cu : u.2 with
      | src a b => rw [cu] at e'; cases e'
      | set es0 row0 =>
        rw [cu] at e'
        cases e'
        refine off_setOk (h.ok u u1 _ _ cu) fun k a b kn q => ⟨a, b, ?_⟩
        rw [hk, if_neg kn, q]
        rfl
  · rename_i c
    refine ⟨w0.p, w0.n, w0.ndp, w0.rp, w0.ndn, w0.rn, fun t ht r hr => ?_, h.nds, h.rs, fun t ht => ?_, h.ok⟩
    · obtain ⟨u, hu, e, z⟩ := cut_row ht
      exact h.th u hu r (z r hr)
    · by_cases e : t.1 = ser
      · rw [e]
        exact of_holds c
      · exact h.cut_held hi hn ht e
theorem WF.cutS {v : Sv} (h : WF v) {i n ser : Int} {rows : List (Int × Int)} (hi : lk v.tabs i = some rows) (hn : lk rows n = some ser) : HeldS ((v.cut i n).gone ser) := fun t ht _ => by
  obtain ⟨u1, u2⟩ := dr_mem.mp (show t ∈ dr v.ths ser from ht)
  exact holds_of (h.cut0 i n) (h.cut_held hi hn u1 u2)
theorem fgtK_all {v : Sv} {ser : Int} {ks : List Int} (h : ∀ t ∈ v.ths, t.2.isSet = true → t.1 ∈ ks) : v.fgtK ser ks = v.fgt ser := by
  unfold Sv.fgtK Sv.fgt Sv.mapT
  congr 1
  refine List.map_congr_left fun t ht => ?_
  show (t.1, if t.1 ∈ ks then fgtT ser t.2 else t.2) = (t.1, fgtT ser t.2)
  by_cases c : t.1 ∈ ks
  · rw [if_pos c]
  · rw [if_neg c]
    cases e : t.2 with
    | src u f => rfl
    | set es row => exact (c (h t ht (by rw [e]; rfl))).elim
theorem fgtK_nil (v : Sv) (ser : Int) : v.fgtK ser [] = v := by
  unfold Sv.fgtK Sv.mapT
  have : (v.ths.map fun t => (t.1, if t.1 ∈ ([] : List Int) then fgtT ser t.2 else t.2)) = v.ths := by
    rw [List.map_congr_left (g := id) (fun t _ => by simp), List.map_id]
  rw [this]
theorem fgtK_step {v : Sv} {ser n : Int} {ks : List Int} {tv : Tv} (hl : lk v.ths n = some tv) (nds : (v.ths.map (·.1)).Nodup) (hn : n ∉ ks) : (v.fgtK ser ks).re n (fgtT ser tv) = v.fgtK ser (ks ++ [n]) := by
  rw [Sv.re_map]
  unfold Sv.fgtK Sv.mapT
  congr 1
  rw [List.map_map]
  refine List.map_congr_left fun t ht => ?_
  show (t.1, if t.1 = n then fgtT ser tv else if t.1 ∈ ks then fgtT ser t.2 else t.2) = (t.1, if t.1 ∈ ks ++ [n] then fgtT ser t.2 else t.2)
  by_cases c : t.1 = n
  · have := lk_of_mem nds (show (t.1, t.2) ∈ v.ths from ht)
    rw [c, hl] at this
    cases this
    rw [if_pos c, if_pos (by rw [c]; simp)]
  · rw [if_neg c]
    by_cases c2 : t.1 ∈ ks
    · rw [if_pos c2, if_pos (List.mem_append_left _ c2)]
    · rw [if_neg c2, if_neg (by simp [c, c2])]
theorem fgtK_lk (v : Sv) (ser n : Int) (ks : List Int) : lk (v.fgtK ser ks).ths n = (lk v.ths n).map fun t => if n ∈ ks then fgtT ser t else t := lk_mapK (fun k t => if k ∈ ks then fgtT ser t else t) n v.ths

/-! ### close -/
theorem flat_sub {α β : Type} (f : α → List β) {l l' : List α} (h : l.Sublist l') : (l.flatMap f).Sublist (l'.flatMap f) := by
  induction h with
  | slnil => exact List.Sublist.refl _
  | cons a _ ih => rw [List.flatMap_cons]; exact ih.trans (List.sublist_append_right _ _)
  | cons_cons a _ ih => rw [List.flatMap_cons, List.flatMap_cons]; exact List.Sublist.append (List.Sublist.refl _) ih
section
variable {K : PySem.W.Frag} {H : Hp} {s : Sy}
theorem SyAt.goneT (S : SyAt K H s) (n : Int) : SyAt K (upd H s.G (.dK (kv thV (dr s.ths n)))) { s with ths := dr s.ths n } ∧ Fr' s { s with ths := dr s.ths n } H (upd H s.G (.dK (kv thV (dr s.ths n)))) := by
  have mG : s.G ∈ s.dcs := List.mem_cons_of_mem _ List.mem_cons_self
  obtain ⟨d1, d2⟩ := List.nodup_cons.mp S.nd
  obtain ⟨d3, d4⟩ := List.nodup_cons.mp d2
  have nTG : s.T ≠ s.G := fun z => d1 (by rw [z]; exact List.mem_cons_self)
  have nG : ∀ {u : Int × Tb}, u ∈ s.tabs → u.2.ad ≠ s.G := fun {u} h z => d3 (by rw [← z]; exact List.mem_map.mpr ⟨u, h, rfl⟩)
  have sub : (dr s.ths n).Sublist s.ths := dr_sub _ _
  refine ⟨⟨by rw [upd_ne (Ne.symm (S.np (.inl mG)))]; exact S.ob, by rw [upd_ne nTG]; exact S.tb, fun u h => ?_, upd_same, fun u h => ?_, S.nd, List.Nodup.sublist (sub.map _) S.nt, List.Nodup.sublist (flat_sub _ sub) S.nl, List.Nodup.sublist (flat_sub _ sub) S.ne⟩, ⟨fun b o h nb => ?_, fun b hb => .inl ?_, rfl⟩⟩
  · rw [upd_ne (nG h)]
    exact S.tt u h
  · have h' := sub.subset h
    exact (S.gt u h').keep (S.dc_th mG (.inl (Sy.th_in h'))) (fun x hx => S.dc_th mG (.inr (.inl (Sy.ls_in h' hx)))) (fun x hx => S.dc_th mG (.inr (.inr (Sy.en_in h' hx))))
  · rw [upd_ne (show b ≠ s.G from fun z => nb (z ▸ Sy.in_dcs mG))]
    exact h
  · rcases Sy.foot_cases hb with z | z | z | z | z
    · exact z ▸ List.mem_cons_self
    · exact Sy.in_dcs z
    · exact Sy.in_ths ((sub.map _).subset z)
    · exact Sy.in_lsts ((flat_sub _ sub).subset z)
    · exact Sy.in_ents ((flat_sub _ sub).subset z)
theorem SyAt.cutT (S : SyAt K H s) {i : Int} {t : Tb} (n : Int) (hl : lk s.tabs i = some t) (nd : (s.tabs.map (·.1)).Nodup) : SyAt K (upd H t.ad (.dK (kv V.int (dr t.rows n)))) { s with tabs := upAt s.tabs i (Tb.fn fun r => dr r n) } ∧ Fr' s { s with tabs := upAt s.tabs i (Tb.fn fun r => dr r n) } H (upd H t.ad (.dK (kv V.int (dr t.rows n)))) := by
  have mt : t.ad ∈ s.dcs := List.mem_cons_of_mem _ (List.mem_cons_of_mem _ (List.mem_map.mpr ⟨_, lk_mem hl, rfl⟩))
  have ads : (upAt s.tabs i (Tb.fn fun r => dr r n)).map (·.2.ad) = s.tabs.map (·.2.ad) := by
    unfold upAt
    rw [List.map_map]
    refine List.map_congr_left fun u _ => ?_
    show (if u.1 = i then (u.1, Tb.fn _ u.2) else u).2.ad = u.2.ad
    split <;> rfl
  refine ⟨S.rows (f := fun r => dr r n) hl nd, ⟨fun b o h nb => ?_, fun b hb => .inl ?_, rfl⟩⟩
  · rw [upd_ne (show b ≠ t.ad from fun z => nb (z ▸ Sy.in_dcs mt))]
    exact h
  · have e : ({ s with tabs := upAt s.tabs i (Tb.fn fun r => dr r n) } : Sy).foot = s.foot := by
      unfold Sy.foot Sy.dcs
      show s.p :: ((s.T :: s.G :: (upAt s.tabs i (Tb.fn fun r => dr r n)).map (·.2.ad)) ++ _) = _
      rw [ads]
      rfl
    rw [e] at hb
    exact hb
theorem cutT_v (s : Sy) (i n : Int) : ({ s with tabs := upAt s.tabs i (Tb.fn fun r => dr r n) } : Sy).v = s.v.cut i n := by
  show (⟨s.P, s.N, s.made, (upAt s.tabs i (Tb.fn fun r => dr r n)).map fun t => (t.1, t.2.rows), _⟩ : Sv) = _
  rw [upAt_map (fun t : Tb => t.rows) (Tb.fn fun r => dr r n) (fun r => dr r n) (fun _ => rfl)]
  rfl
theorem goneT_v (s : Sy) (n : Int) : ({ s with ths := dr s.ths n } : Sy).v = s.v.gone n := by
  show (⟨s.P, s.N, s.made, _, (dr s.ths n).map fun t => (t.1, t.2.tg.v)⟩ : Sv) = _
  unfold Sv.gone Sy.v dr
  rw [List.filter_map]
  rfl
end
theorem shaped_holds (l : List (Int × Int)) : SeqAt.shaped (.list (holdsD l)) = true := by
  have h1 : ∀ l : List (Int × Int), PyData.canLayAll0 (holdsD l) = true := fun l => by
    induction l with
    | nil => rfl
    | cons a l ih => rw [show holdsD (a :: l) = .tuple [.int a.1, .int a.2] :: holdsD l from rfl, PyData.canLayAll0, ih]; rfl
  have h2 : ∀ l : List (Int × Int), PyData.depthAll (holdsD l) ≤ 3 := fun l => by
    induction l with
    | nil => exact Nat.zero_le _
    | cons a l ih =>
      rw [show holdsD (a :: l) = .tuple [.int a.1, .int a.2] :: holdsD l from rfl, PyData.depthAll]
      refine Nat.max_le.mpr ⟨?_, ih⟩
      simp [PyData.depth, PyData.depthAll]
  unfold SeqAt.shaped
  rw [PyData.canLay0, h1 l, Bool.true_and]
  refine decide_eq_true ?_
  rw [PyData.depth]
  have := h2 l
  omega
theorem eqv_holds_nil (l : List (Int × Int)) : PyData.eqv (.list (holdsD l)) (.list []) = l.isEmpty := by
  cases l with
  | nil => rfl
  | cons a l => rfl
def sp_close (K : PySem.W.Frag) : Sp := fun vs H Q E => ∃ (s : Sy) (x y : V), vs = [.ref s.p, x, y] ∧ SyAt K H s ∧ WF s.v ∧ s.made ≤ 1000000 ∧ Obj' H x ∧ Obj' H y ∧ ByProc K s x H E fun i t => ByNum K t y H E fun n ser => ∀ H' s', SyAt K H' s' → s'.v = closeV s.v i n ser → s'.tabs = upAt s.tabs i (Tb.fn fun r => dr r n) → WF s'.v → Fr' s s' H H' → Q .non H'
section
variable {P : Program} {w : World} {K : PySem.W.Frag} {mg : Str → Option Value} {base : Heap}
theorem sc_close : FnScope ["self", "process", "number", "serial", "other"] ["self", "process", "number"] (defScope s_System_close) := ⟨rfl, rfl, rfl, by decide +kernel, rfl, by decide +kernel, by decide +kernel⟩
theorem ok_close (T : Tx K mg) : FnOk P w K mg base (L2.CX P w) 9 (mA "System" "close" K) (fdAt K (mA "System" "close" K)) ["self", "process", "number"] (sp_close K) := by
  refine FunD.ok T.f_System_close sc_close (fun vs H Q E h => ?_) (fun cdv A outer s H vs Q E hr h => ?_)
  · obtain ⟨s, x, y, rfl, _⟩ := h
    rfl
  · obtain ⟨S, x, y, rfl, hS, hw, hm, hx, hy, q⟩ := h
    have hu := hu_of hr
    have hu64 := hr.units
    refine ⟨_, pss_cons (ps_set (i := 3) sc_close.nd rfl (Or.inl rfl) (pe_meth (pv 0) T.c_System T.m_System_serial_at (ok_serial_at T) (hr.mono (by decide)) (b_serial_at T) .nil (passes_call (takes_of rfl rfl rfl rfl) (fun _ _ _ _ h => h)) (pa_cons (pv 1) (pa_cons (pv 2) pa_nil))))
      (pss_cons (ps_expr (pe_dpop1 (pe_dget hu (pe_fld (pv 0) rfl) (pv 1) (fun _ _ => rfl)) (pv 2) ⟨rfl, rfl, rfl, rfl⟩))
      (pss_one (ps_if (pt_cmpR (op_eqD hu64) (pe_meth (pv 0) T.c_System T.m_System_holders (ok_holders T) (hr.mono (by decide)) (b_holders T) .nil pass0 (pa_cons (pv 3) pa_nil)) (pe_lst pa_nil) (nomark _))
        (pss_cons (ps_expr (pe_dpop1 (pe_fld (pv 0) rfl) (pv 3) ⟨rfl, rfl, rfl, rfl⟩))
        (pss_one (ps_for (passes_of rfl) rfl (pi_list (pe_meth0 (pv 0) T.c_System T.m_System_set_serials (ok_set_serials T) hr (b_set_serials T) .nil pass0)) (pg_name (i := 4) sc_close.nd rfl (Or.inl rfl))
          (pss_one (ps_expr (pe_meth (pe_dget hu (pe_fld (pv 0) rfl) (pv 4) (fun _ _ => rfl)) T.c_WaitSet T.m_WaitSet_forget (ok_forget T) (hr.mono (by decide)) (b_forget T) .nil pass0 (pa_cons (pv 3) pa_nil))))))) pss_nil))), ?_⟩
    refine ⟨_, rfl, S.p, S.dx, _, rfl, hS.ob, rfl, _, rfl, _, rfl, S, x, y, rfl, hS, hx, hy, ?_⟩
    rcases q with ⟨i, t, rfl, hl, q⟩ | ⟨hn, q⟩
    rotate_left
    · exact .inr ⟨hn, q⟩
    refine .inl ⟨i, t, rfl, hl, ?_⟩
    rcases q with ⟨n, ser, rfl, hs, q⟩ | ⟨hn, q⟩
    rotate_left
    · exact .inr ⟨hn, q⟩
    refine .inl ⟨n, ser, rfl, hs, ?_⟩
    have g1 := DGet.k (k := Sum.inl i) hS.tb
    rw [val_kv, hl] at g1
    have ht := hS.tt _ (lk_mem hl)
    have ndp : (S.tabs.map (·.1)).Nodup := by rw [← Sy.pids]; exact hw.ndp
    have hiv : lk S.v.tabs i = some t.rows := by rw [Sy.tabs_v, hl]; rfl
    have vn : valV (kv V.int t.rows) (Sum.inl n : Key) = some (.int ser) := by rw [val_kv, hs]; rfl
    refine ⟨_, rfl, _, _, _, _, _, rfl, hS.ob, T.c_System, T.n_System_tables, rfl, _, rfl, _, _, rfl, g1, t.ad, rfl, .inl ⟨_, .inl ht⟩, _, rfl, _, Sum.inl n, _, ht, rfl, vn, ?_⟩
    rw [drop_kv]
    obtain ⟨S1, f1⟩ := hS.cutT n hl ndp
    have v1 := cutT_v S i n
    have w1 := hw.cut0 i n
    generalize eS1 : ({ S with tabs := upAt S.tabs i (Tb.fn fun r => dr r n) } : Sy) = s1 at S1 f1 v1
    have p1 : s1.p = S.p := by rw [← eS1]
    have t1 : s1.tabs = upAt S.tabs i (Tb.fn fun r => dr r n) := by rw [← eS1]
    have m1 : s1.made = S.made := by rw [← eS1]
    have k1 : s1.ths = S.ths := by rw [← eS1]
    generalize eH1 : upd H t.ad (.dK (kv V.int (dr t.rows n))) = H1 at S1 f1
    refine ⟨_, rfl, s1.p, s1.dx, _, by rw [p1], S1.ob, rfl, _, rfl, s1, ser, by rw [p1]; rfl, S1, by rw [v1]; exact w1, fun H2 ph nd2 => ?_⟩
    refine ⟨by decide, fun F nF => ?_⟩
    have e3 : Same H2 (upd H2 F (.lst [])) := new_same nF
    have e13 : Same H1 (upd H2 F (.lst [])) := nd2.same.trans e3
    refine ⟨.list (holdsD (holds s1.v.tabs ser)), .list [], Dp.same e3 _ _ nd2.dp, .lst (SqL.of upd_same) .nil, shaped_holds _, rfl, _, rfl, ?_⟩
    generalize eH3 : upd H2 F (.lst []) = H3 at e13
    rw [eqv_holds_nil, v1]
    have S3 := S1.ext e13
    cases hh : holds (S.v.cut i n).tabs ser with
    | cons a l =>
      refine iteF ?_
      have ev : s1.v = closeV S.v i n ser := by
        unfold closeV
        rw [hh, if_neg (fun z => nomatch z)]
        exact v1
      exact q H3 s1 S3 ev t1 (by rw [ev]; exact hw.close hiv hs) (f1.more e13)
    | nil =>
      refine iteT ?_
      obtain ⟨th, hth⟩ := hw.thing hl hs
      have hth1 : lk s1.ths ser = some th := by rw [k1]; exact hth
      have vt : valV (kv thV s1.ths) (Sum.inl ser : Key) = some (thV th) := by rw [val_kv, hth1]; rfl
      refine ⟨_, rfl, _, _, _, _, _, by rw [← p1], S3.ob, T.c_System, T.n_System_things, rfl, s1.G, rfl, .inl ⟨_, .inl S3.gb⟩, _, rfl, _, Sum.inl ser, _, S3.gb, rfl, vt, ?_⟩
      rw [drop_kv]
      obtain ⟨S4, f4⟩ := S3.goneT ser
      have v4 := goneT_v s1 ser
      rw [v1] at v4
      have w4 := w1.gone ser
      have f14 := (f1.more e13).trans f4
      generalize eS4 : ({ s1 with ths := dr s1.ths ser } : Sy) = s4 at S4 f4 v4 f14
      have p4 : s4.p = S.p := by rw [← eS4]; exact p1
      have t4 : s4.tabs = upAt S.tabs i (Tb.fn fun r => dr r n) := by rw [← eS4]; exact t1
      have m4 : s4.made = S.made := by rw [← eS4]; exact m1
      generalize eH4 : upd H3 s1.G (.dK (kv thV (dr s1.ths ser))) = H4 at S4 f4 f14
      refine ⟨_, rfl, s4.p, s4.dx, _, by rw [p4], S4.ob, rfl, s4, by rw [p4]; rfl, S4, by rw [v4]; exact w4, by rw [v4]; exact hw.cutS hiv hs, by rw [m4]; exact hm, fun H5 pl e5 npl h5 => ?_⟩
      have plf : pl ∉ s4.foot := S4.notfoot npl
      have ndx : (setsIn s4.v).Nodup := (setsIn_perm s4.v).nodup_iff.mpr (setSers_nodup (by rw [v4]; exact w4))
      refine ⟨pl, rfl, ⟨_, SqL.of h5⟩, ?_⟩
      refine for_list (xs := (setsIn s4.v).map V.int) (fun k σ H' => (∃ v4', σ = [some (.ref S.p), some (.int i), some (.int n), some (.int ser), v4']) ∧ ∃ sk, SyAt K H' sk ∧ sk.v = s4.v.fgtK ser ((setsIn s4.v).take k) ∧ sk.tabs = s4.tabs ∧ Fr' s4 sk H5 H') ⟨⟨_, rfl⟩, s4, S4.ext e5, by rw [List.take_zero, fgtK_nil], rfl, Fr'.refl _ _⟩ (fun k σ H' hk g => ?_) ?_ ?_
      · obtain ⟨_, sk, _, _, _, fk⟩ := g
        exact SqL.of (fk.keep _ _ h5 plf)
      · rintro k x σ H' hx ⟨⟨v4', rfl⟩, sk, Sk, ek, tk, fk⟩
        rw [List.getElem?_map] at hx
        cases en : (setsIn s4.v)[k]? with
        | none => rw [en] at hx; cases hx
        | some m =>
          rw [en] at hx
          cases hx
          have mm := (setsIn_perm s4.v).mem_iff.mp (List.mem_of_getElem? en)
          obtain ⟨tt, htt, em⟩ := List.mem_map.mp mm
          obtain ⟨ht1, ht2⟩ := List.mem_filter.mp htt
          subst em
          have nds4 : (s4.v.ths.map (·.1)).Nodup := by rw [v4]; exact w4.nds
          have lk4 : lk s4.v.ths tt.1 = some tt.2 := lk_of_mem nds4 ht1
          have hnd : tt.1 ∉ (setsIn s4.v).take k := by
            intro z
            have nd1 : ((setsIn s4.v).take (k + 1)).Nodup := ndx.sublist (List.take_sublist _ _)
            rw [take_next en] at nd1
            exact (List.nodup_append.mp nd1).2.2 tt.1 z tt.1 (List.mem_singleton.mpr rfl) rfl
          have lkk : lk sk.v.ths tt.1 = some tt.2 := by rw [ek, fgtK_lk, lk4, Option.map_some, if_neg hnd]
          rw [Sy.ths_v] at lkk
          obtain ⟨thk, hk1, hk2⟩ := Option.map_eq_some_iff.mp lkk
          obtain ⟨dx, L, R, es, row, et⟩ := set_of (by rw [hk2]; exact ht2 : thk.tg.v.isSet = true)
          have inV : tt ∈ S.v.ths := by
            rw [v4] at ht1
            exact (dr_mem.mp (show tt ∈ dr S.v.ths ser from ht1)).1
          have so : SetOk S.v (es.map En.v) row := hw.ok tt inV _ _ (by rw [← hk2, et]; rfl)
          have tgk := Sk.gt _ (lk_mem hk1)
          rw [show ((tt.1, thk) : Int × Th).2.tg = .set dx L R es row from et] at tgk
          obtain ⟨nLR, nde⟩ := Sk.setLR hk1 et
          have ndk : (sk.ths.map (·.1)).Nodup := by
            rw [← Sy.sers, ek]
            show ((s4.v.fgtK ser _).ths.map (·.1)).Nodup
            unfold Sv.fgtK
            rw [mapT_keys]
            exact nds4
          have g7 : DGet H' sk.G (.int tt.1) (some (thV thk)) := .inl ⟨_, Sum.inl tt.1, .inl Sk.gb, rfl, by rw [val_kv, hk1]; rfl⟩
          have pk : sk.p = S.p := fk.same.trans p4
          have zl : es.length ≤ mostE := by have := so.2.2.2.2.2; rw [List.length_map] at this; exact this
          refine ⟨_, rfl, _, _, _, _, _, by rw [← pk], Sk.ob, T.c_System, T.n_System_things, rfl, _, rfl, _, _, rfl, g7, thk.ad, dx, _, rfl, tgk.1, rfl, _, rfl, thk.ad, dx, L, R, es, row, ser, rfl, tgk, nLR, zl, Nat.le_trans (Nat.le_trans so.row.len so.2.2.2.2.2) mostE_le, fun H6 L' R' hL hR nn a6 l6 r6 k6 => ?_⟩
          have sub : (offN (labsN ser es) es).Sublist es := List.filter_sublist
          have tE : TgAt K H6 thk.ad (.set dx L' R' (offN (labsN ser es) es) (offR (labsN ser es) row)) := ⟨a6, l6, r6, fun y hy => k6 _ _ (tgk.2.2.2 y (sub.subset hy)) (ne_of (tgk.2.2.2 y (sub.subset hy)) tgk.1 (Ne.symm (ins_ne "label" (fun z => nomatch z))))⟩
          obtain ⟨s7, f7⟩ := Sk.resets hk1 et ndk tE (fun b o h nb _ _ _ => k6 b o h nb) hL hR nn (fun a ha => .inl ((sub.map _).subset ha)) (List.Nodup.sublist (sub.map _) nde)
          refine ⟨⟨_, rfl⟩, _, s7, ?_, tk, fk.trans f7⟩
          rw [Sy.re_v, ek, take_next en, ← fgtK_step lk4 nds4 hnd]
          congr 1
          rw [← hk2, et]
          show Tv.set ((offN (labsN ser es) es).map En.v) (offR (labsN ser es) row) = .set (offE (labsE ser (es.map En.v)) (es.map En.v)) (offR (labsE ser (es.map En.v)) row)
          rw [offN_v, labsN_v]
      · rintro σ H' ⟨⟨v4', rfl⟩, sk, Sk, ek, tk, fk⟩
        rw [List.length_map, List.take_length, fgtK_all (fun t ht hs => (setsIn_perm s4.v).mem_iff.mpr (List.mem_map.mpr ⟨t, List.mem_filter.mpr ⟨ht, hs⟩, rfl⟩)), v4] at ek
        have ev : sk.v = closeV S.v i n ser := by
          unfold closeV
          rw [if_pos hh]
          exact ek
        exact q H' sk Sk ev (tk.trans t4) (by rw [ev]; exact hw.close hiv hs) ((f14.more e5).trans fk)
theorem b_close (T : Tx K mg) : Binds K (fdAt K (mA "System" "close" K)) ["self", "process", "number"] [] := FunD.bindsN T.f_System_close fun _ _ _ _ _ _ us hl => match us, hl with | [_, _, _], _ => rfl
end

/-! ### copy -/
def Sv.addRow (v : Sv) (i k ser : Int) : Sv := { v with tabs := upAt v.tabs i (· ++ [(k, ser)]) }
def copyV (v : Sv) (i k ser : Int) (rows : List (Int × Int)) : Sv := match lk rows k with
  | none => v.addRow i k ser
  | some old => if old = ser then v else (closeV v i k old).addRow i k ser
theorem WF.addRow {v : Sv} (h : WF v) {i k ser : Int} {rows : List (Int × Int)} (hl : lk v.tabs i = some rows) (hk : 0 ≤ k ∧ k < v.N ∧ k ∉ rows.map (·.1)) (hs : ser ∈ v.ths.map (·.1)) : WF (v.addRow i k ser) := by
  have mem : (i, rows) ∈ v.tabs := lk_mem hl
  have one : ∀ {t : Int × List (Int × Int)}, t ∈ (v.addRow i k ser).tabs → t ∈ v.tabs ∨ t = (i, rows ++ [(k, ser)]) := fun {t} ht => by
    rcases upAt_mem (show t ∈ upAt v.tabs i (· ++ [(k, ser)]) from ht) with ⟨_, z⟩ | ⟨x, hx, rfl⟩
    · exact .inl z
    · have := lk_of_mem h.ndp hx
      rw [hl] at this
      cases this
      exact .inr rfl
  refine ⟨h.p, h.n, ?_, fun t ht => ?_, fun t ht => ?_, fun t ht r hr => ?_, fun t ht r hr => ?_, h.nds, h.rs, fun t ht => ?_, h.ok⟩
  · show ((upAt v.tabs i (· ++ [(k, ser)])).map (·.1)).Nodup
    rw [upAt_keys]
    exact h.ndp
  · rcases one ht with z | z
    · exact h.rp t z
    · subst z
      exact h.rp (i, rows) mem
  · rcases one ht with z | z
    · exact h.ndn t z
    · subst z
      show ((rows ++ [(k, ser)]).map (·.1)).Nodup
      rw [List.map_append]
      exact nd_snoc (h.ndn (i, rows) mem) hk.2.2
  · rcases one ht with z | z
    · exact h.rn t z r hr
    · subst z
      rcases List.mem_append.mp hr with y | y
      · exact h.rn (i, rows) mem r y
      · cases List.mem_singleton.mp y
        exact ⟨hk.1, hk.2.1⟩
  · rcases one ht with z | z
    · exact h.th t z r hr
    · subst z
      rcases List.mem_append.mp hr with y | y
      · exact h.th (i, rows) mem r y
      · cases List.mem_singleton.mp y
        exact hs
  · obtain ⟨u, hu, r, hr, e⟩ := h.held t ht
    refine ⟨_, List.mem_map.mpr ⟨u, hu, rfl⟩, r, ?_, e⟩
    show r ∈ (if u.1 = i then (u.1, u.2 ++ [(k, ser)]) else u).2
    split
    · exact List.mem_append_left _ hr
    · exact hr
theorem closeV_ths {v : Sv} {i n ser k : Int} (h : k ∈ v.ths.map (·.1)) (ne : k ≠ ser) : k ∈ (closeV v i n ser).ths.map (·.1) := by
  unfold closeV
  split
  · rw [Sv.fgt, mapT_keys]
    obtain ⟨t, ht, e⟩ := List.mem_map.mp h
    exact List.mem_map.mpr ⟨t, dr_mem.mpr ⟨ht, by rw [e]; exact ne⟩, e⟩
  · exact h
section
variable {K : PySem.W.Frag} {H : Hp} {s : Sy}
theorem SyAt.addT (S : SyAt K H s) {i : Int} {t : Tb} (k ser : Int) (hl : lk s.tabs i = some t) (nd : (s.tabs.map (·.1)).Nodup) : SyAt K (upd H t.ad (.dK (kv V.int (t.rows ++ [(k, ser)])))) { s with tabs := upAt s.tabs i (Tb.fn (· ++ [(k, ser)])) } ∧ Fr' s { s with tabs := upAt s.tabs i (Tb.fn (· ++ [(k, ser)])) } H (upd H t.ad (.dK (kv V.int (t.rows ++ [(k, ser)])))) ∧ ({ s with tabs := upAt s.tabs i (Tb.fn (· ++ [(k, ser)])) } : Sy).v = s.v.addRow i k ser := by
  have mt : t.ad ∈ s.dcs := List.mem_cons_of_mem _ (List.mem_cons_of_mem _ (List.mem_map.mpr ⟨_, lk_mem hl, rfl⟩))
  have ads : (upAt s.tabs i (Tb.fn (· ++ [(k, ser)]))).map (·.2.ad) = s.tabs.map (·.2.ad) := by
    unfold upAt
    rw [List.map_map]
    refine List.map_congr_left fun u _ => ?_
    show (if u.1 = i then (u.1, Tb.fn _ u.2) else u).2.ad = u.2.ad
    split <;> rfl
  refine ⟨S.rows (f := (· ++ [(k, ser)])) hl nd, ⟨fun b o h nb => ?_, fun b hb => .inl ?_, rfl⟩, ?_⟩
  · rw [upd_ne (show b ≠ t.ad from fun z => nb (z ▸ Sy.in_dcs mt))]
    exact h
  · have e : ({ s with tabs := upAt s.tabs i (Tb.fn (· ++ [(k, ser)])) } : Sy).foot = s.foot := by
      unfold Sy.foot Sy.dcs
      show s.p :: ((s.T :: s.G :: (upAt s.tabs i (Tb.fn (· ++ [(k, ser)]))).map (·.2.ad)) ++ _) = _
      rw [ads]
      rfl
    rw [e] at hb
    exact hb
  · show (⟨s.P, s.N, s.made, (upAt s.tabs i (Tb.fn (· ++ [(k, ser)]))).map fun t => (t.1, t.2.rows), _⟩ : Sv) = _
    rw [upAt_map (fun t : Tb => t.rows) (Tb.fn (· ++ [(k, ser)])) (· ++ [(k, ser)]) (fun _ => rfl)]
    rfl
end
def sp_copy (K : PySem.W.Frag) : Sp := fun vs H Q E => ∃ (s : Sy) (x y z : V), vs = [.ref s.p, x, y, z] ∧ SyAt K H s ∧ WF s.v ∧ s.made ≤ 1000000 ∧ Obj' H x ∧ Obj' H y ∧ Obj' H z ∧ ByProc K s x H E fun i t => ByNum K t y H E fun n ser =>
  (z = .non → (∀ k, lowFree (t.rows.map (·.1)) s.N = some k → ∀ H' s', SyAt K H' s' → s'.v = s.v.addRow i k ser → WF s'.v → Fr' s s' H H' → Q (.int k) H') ∧ (lowFree (t.rows.map (·.1)) s.N = none → Raised K H E "Full" (errF x))) ∧
  (z ≠ .non → (betw z 0 (s.N - 1) = false → Raised K H E "NoNumber" (errN "NoNumber" z)) ∧ ∀ k, z = .int k → 0 ≤ k → k ≤ s.N - 1 → ∀ H' s', SyAt K H' s' → s'.v = copyV s.v i k ser t.rows → WF s'.v → Fr' s s' H H' → Q (.int k) H')
theorem put0 {H : Hp} {a : Addr} {rows : List (Int × Int)} {v : Sv} {i k ser : Int} (hk : lk rows k = none) (ht : H a = some (.dK (kv V.int rows))) (hi : lk v.tabs i = some rows) (hw : WF v) : DPut H a (.int k) (.int ser) (upd H a (.dK (kv V.int (rows ++ [(k, ser)])))) := by
  have r8 : rows.length ≤ 8 := hw.rows8 (t := (i, rows)) (lk_mem hi)
  have g3 := DPut.k (k := Sum.inl k) (v := .int ser) ht (by rw [kv_len]; exact Nat.lt_of_le_of_lt r8 (by decide))
  rw [put_kv V.int k ser hk] at g3
  exact g3
section
variable {P : Program} {w : World} {K : PySem.W.Frag} {mg : Str → Option Value} {base : Heap}
theorem ei_NoNumber (T : Tx K mg) : FnOk P w K mg base CX0 1 (mA "NoNumber" "__init__" K) (fdAt K (mA "NoNumber" "__init__" K)) ["self", "number"] (spErr (ga K "NoNumber") "number" "NoNumber") :=
  err_init T.x_NoNumber T.f_NoNumber___init__ ⟨rfl, rfl, rfl, by decide +kernel, rfl, by decide +kernel, by decide +kernel⟩ rfl ⟨by decide, by decide⟩ ⟨by decide, by decide⟩ (fun _ => ⟨rfl, rfl⟩) ⟨.inl rfl, .inl rfl⟩
theorem eb_NoNumber (T : Tx K mg) : Binds K (fdAt K (mA "NoNumber" "__init__" K)) ["self", "number"] [] := FunD.bindsN T.f_NoNumber___init__ fun _ _ _ _ _ _ us hl => match us, hl with | [_, _], _ => rfl
theorem sc_copy : FnScope ["self", "process", "number", "to", "serial", "table"] ["self", "process", "number", "to"] (defScope s_System_copy) := ⟨rfl, rfl, rfl, by decide +kernel, rfl, by decide +kernel, by decide +kernel⟩
theorem ok_copy (T : Tx K mg) : FnOk P w K mg base (L2.CX P w) 10 (mA "System" "copy" K) (fdAt K (mA "System" "copy" K)) ["self", "process", "number", "to"] (sp_copy K) := by
  refine FunD.ok T.f_System_copy sc_copy (fun vs H Q E h => ?_) (fun cdv A outer s H vs Q E hr h => ?_)
  · obtain ⟨s, x, y, z, rfl, _⟩ := h
    rfl
  · obtain ⟨S, x, y, z, rfl, hS, hw, hm, hx, hy, hz, q⟩ := h
    have hu := hu_of hr
    have hu64 := hr.units
    refine ⟨_, pss_cons (ps_set (i := 4) sc_copy.nd rfl (Or.inl rfl) (pe_meth (pv 0) T.c_System T.m_System_serial_at (ok_serial_at T) (hr.mono (by decide)) (b_serial_at T) .nil (passes_call (takes_of rfl rfl rfl rfl) (fun _ _ _ _ h => h)) (pa_cons (pv 1) (pa_cons (pv 2) pa_nil))))
      (pss_cons (ps_if (pt_cmpR op_isN (pv 3) pe_non (nomark _)) (pss_one (ps_set (i := 3) sc_copy.nd rfl (Or.inl rfl) (pe_meth (pv 0) T.c_System T.m_System_lowest_free (ok_lowest_free T) (hr.mono (by decide)) (b_lowest_free T) .nil (passes_call (takes_of rfl rfl rfl rfl) (fun _ _ _ _ h => h)) (pa_cons (pv 1) pa_nil))))
        (pss_one (ps_if (pt_not (pt_val (pe_call (ok_is_between T) (hr.mono (by decide)) (by rfl) T.g_is_between T.f_is_between.kp (b_is_between T) .nil pass0 (pa_cons (pv 3) (pa_cons pe_int (pa_cons (pe_op op_sub (pe_fld (pv 0) rfl) pe_int) pa_nil))))))
          (pss_one (ps_raise rfl (takes_of rfl rfl rfl rfl) (pmk_err T.x_NoNumber (ei_NoNumber T) (hr.mono (by decide)) (eb_NoNumber T) pass0 (by rfl) T.g_NoNumber (pv 3)))) pss_nil)))
      (pss_cons (ps_set (i := 5) sc_copy.nd rfl (Or.inl rfl) (pe_dget hu (pe_fld (pv 0) rfl) (pv 1) (fun _ _ => rfl)))
      (pss_cons (ps_if (pt_cmpR (op_neD hu64) (pe_dget1 hu (pv 5) (pv 3) ⟨rfl, rfl, rfl, rfl⟩) (pv 4) (nomark _))
        (pss_cons (ps_if (pt_cmp (pc_din hu (pv 3) (pv 5))) (pss_one (ps_expr (pe_meth (pv 0) T.c_System T.m_System_close (ok_close T) hr (b_close T) .nil (passes_call (takes_of rfl rfl rfl rfl) (fun _ _ _ _ h => h)) (pa_cons (pv 1) (pa_cons (pv 3) pa_nil))))) pss_nil)
        (pss_one (ps_dput hu (pv 5) (pv 3) (pv 4) rfl))) pss_nil)
      (pss_one (ps_ret (pv 3)))))), ?_⟩
    refine ⟨_, rfl, S.p, S.dx, _, rfl, hS.ob, rfl, _, rfl, _, rfl, S, x, y, rfl, hS, hx, hy, ?_⟩
    rcases q with ⟨i, t, rfl, hl, q⟩ | ⟨hn, q⟩
    rotate_left
    · exact .inr ⟨hn, q⟩
    refine .inl ⟨i, t, rfl, hl, ?_⟩
    rcases q with ⟨n, ser, rfl, hs, q⟩ | ⟨hn, q⟩
    rotate_left
    · exact .inr ⟨hn, q⟩
    refine .inl ⟨n, ser, rfl, hs, ?_⟩
    have g1 := DGet.k (k := Sum.inl i) hS.tb
    rw [val_kv, hl] at g1
    have ht := hS.tt _ (lk_mem hl)
    have ndp : (S.tabs.map (·.1)).Nodup := by rw [← Sy.pids]; exact hw.ndp
    have hiv : lk S.v.tabs i = some t.rows := by rw [Sy.tabs_v, hl]; rfl
    have sm : ser ∈ S.v.ths.map (·.1) := hw.th (i, t.rows) (lk_mem hiv) _ (lk_mem hs)
    have sN : S.v.N = S.N := rfl
    have hN := hw.n
    refine ⟨_, rfl, rfl, _, rfl, ?_⟩
    by_cases cz : z = .non
    · subst cz
      refine iteT ⟨_, rfl, S.p, S.dx, _, rfl, hS.ob, rfl, _, rfl, S, .int i, rfl, hS, hx, hw, .inl ⟨i, t, rfl, hl, fun k hk => ?_, (q.1 rfl).2⟩⟩
      obtain ⟨k0, k1, k2⟩ := lowFree_spec hk
      have lkn : lk t.rows k = none := lk_none.mpr k2
      have g2 := DGet.k (k := Sum.inl k) ht
      rw [val_kv, lkn] at g2
      refine ⟨_, rfl, _, _, _, _, _, rfl, hS.ob, T.c_System, T.n_System_tables, rfl, _, rfl, _, _, rfl, g1, ?_⟩
      refine ⟨_, rfl, t.ad, rfl, .inl ⟨_, .inl ht⟩, _, rfl, _, g2, _, rfl, .none, .int ser, .non, .int _, rfl, rfl, _, rfl, ?_⟩
      refine iteT ⟨_, rfl, _, rfl, _, _, rfl, g2, _, rfl, iteF ?_⟩
      refine ⟨_, rfl, _, rfl, _, rfl, t.ad, _, rfl, put0 lkn ht hiv hw, ?_⟩
      obtain ⟨S2, f2, v2⟩ := hS.addT k ser hl ndp
      refine ⟨_, rfl, (q.1 rfl).1 k hk _ _ S2 v2 ?_ f2⟩
      rw [v2]
      exact hw.addRow hiv ⟨k0, by omega, k2⟩ sm
    · rw [decide_eq_false cz]
      refine iteF ⟨_, rfl, _, rfl, _, _, _, _, _, rfl, hS.ob, T.c_System, T.n_System_number_limit, rfl, _, _, rfl, rfl, z, 0, S.N - 1, rfl, hz, ?_⟩
      obtain ⟨qn, qk⟩ := q.2 cz
      refine ⟨_, rfl, ?_⟩
      cases cb : betw z 0 (S.N - 1) with
      | false => exact iteT ⟨_, rfl, fun d hd => (qn cb).here hd⟩
      | true =>
        obtain ⟨k, rfl, k0, k1⟩ := betw_int cb
        have qk := qk k rfl k0 k1
        have g2 := DGet.k (k := Sum.inl k) ht
        rw [val_kv] at g2
        refine iteF ⟨_, rfl, _, _, _, _, _, rfl, hS.ob, T.c_System, T.n_System_tables, rfl, _, rfl, _, _, rfl, g1, ?_⟩
        unfold copyV at qk
        cases lkk : lk t.rows k with
        | none =>
          rw [lkk] at g2 qk
          refine ⟨_, rfl, t.ad, rfl, .inl ⟨_, .inl ht⟩, _, rfl, _, g2, _, rfl, .none, .int ser, .non, .int _, rfl, rfl, _, rfl, ?_⟩
          refine iteT ⟨_, rfl, _, rfl, _, _, rfl, g2, _, rfl, iteF ?_⟩
          refine ⟨_, rfl, _, rfl, _, rfl, t.ad, _, rfl, put0 lkk ht hiv hw, ?_⟩
          obtain ⟨S2, f2, v2⟩ := hS.addT k ser hl ndp
          refine ⟨_, rfl, qk _ _ S2 v2 ?_ f2⟩
          rw [v2]
          exact hw.addRow hiv ⟨k0, by omega, lk_none.mp lkk⟩ sm
        | some old =>
          rw [lkk] at g2 qk
          simp only at qk
          refine ⟨_, rfl, t.ad, rfl, .inl ⟨_, .inl ht⟩, _, rfl, _, g2, _, rfl, .int old, .int ser, .int _, .int _, rfl, rfl, _, rfl, ?_⟩
          by_cases co : old = ser
          · rw [if_pos co] at qk
            rw [show PyData.eqv (.int old) (.int ser) = true from by show (old == ser) = true; simp [co]]
            refine iteF ⟨_, rfl, qk H S hS rfl hw (Fr'.refl _ _)⟩
          · rw [if_neg co] at qk
            rw [show PyData.eqv (.int old) (.int ser) = false from by show (old == ser) = false; simp [co]]
            refine iteT ⟨_, rfl, _, rfl, _, _, rfl, g2, _, rfl, iteT ?_⟩
            refine ⟨_, rfl, S.p, S.dx, _, rfl, hS.ob, rfl, _, rfl, _, rfl, S, .int i, .int k, rfl, hS, hw, hm, hx, hz, .inl ⟨i, t, rfl, hl, .inl ⟨k, old, rfl, lkk, fun H1 s1 S1 v1 t1 w1 f1 => ?_⟩⟩⟩
            have hl1 : lk s1.tabs i = some (Tb.fn (fun r => dr r k) t) := by rw [t1, upAt_lk, if_pos rfl, hl]; rfl
            have ht1 := S1.tt _ (lk_mem hl1)
            have hiv1 : lk s1.v.tabs i = some (dr t.rows k) := by rw [Sy.tabs_v, hl1]; rfl
            have lkd : lk (dr t.rows k) k = none := by rw [lk_dr, if_pos rfl]
            refine ⟨_, rfl, _, rfl, _, rfl, t.ad, _, rfl, put0 lkd ht1 hiv1 w1, ?_⟩
            obtain ⟨S2, f2, v2⟩ := S1.addT k ser hl1 (by rw [← Sy.pids]; exact w1.ndp)
            rw [v1] at v2
            refine ⟨_, rfl, qk _ _ S2 v2 ?_ (f1.trans f2)⟩
            rw [v2, ← v1]
            refine w1.addRow hiv1 ⟨k0, ?_, lk_none.mp lkd⟩ ?_
            · have : s1.v.N = S.v.N := by rw [v1]; unfold closeV; split <;> rfl
              omega
            · rw [v1]
              exact closeV_ths sm (Ne.symm co)
theorem b_copyTo (T : Tx K mg) : ∃ ds, Vals [] ds ∧ Binds K (fdAt K (mA "System" "copy" K)) ["self", "process", "number", "to"] ds := by
  have z := FunD.binds1 (ps := ["self", "process", "number", "to"]) T.f_System_copy 4 1 (fun z => nomatch z) rfl fun T kV doc pm an cdv ct us its l1 l2 => match us, its, l1, l2 with | [_, _, _, _], [_], _, _ => ⟨_, rfl, rfl⟩
  exact z
end

/-! ### finish -/
/-! ### finish -/
section
variable {P : Program} {w : World} {K : PySem.W.Frag} {mg : Str → Option Value} {base : Heap}
end

/-! ### registrations -/
def regD (v : Sv) (s : Int) (e : Ev) : PyData := .tuple [nameD v s, .int e.lab, .int e.num, nameD v e.ser, .str e.wrd, .bool e.arm]
def regsOf (v : Sv) (s : Int) : List Ev := match lk v.ths s with
  | some (.set es _) => es
  | _ => []
def regsD (v : Sv) : List PyData := (setsIn v).flatMap fun s => (regsOf v s).map (regD v s)
def sp_registrations (K : PySem.W.Frag) : Sp := fun vs H Q _ => ∃ (s : Sy), vs = [.ref s.p] ∧ SyAt K H s ∧ WF s.v ∧ s.made ≤ 1000000 ∧ (regsD s.v).length ≤ 1000000 ∧ ∀ H' p, Same H H' → Gd K H p H' (regsD s.v) → Q (.ref p) H'
theorem Gd.addT {K : PySem.W.Frag} {H1 H' : Hp} {D p : Addr} {ds es : List PyData} {vs : List V} (g : Gd K H1 D H' ds) (hp : H' p = none) (hp1 : H1 p = none) (hd : DpAll K (frs H1 (off D H')) vs es) : ∃ xs, upd H' p (.tup vs) D = some (.lst xs) ∧ xs.length = ds.length ∧ Gd K H1 D (upd (upd H' p (.tup vs)) D (.lst (xs ++ [.ref p]))) (ds ++ [.tuple es]) := by
  obtain ⟨xs, h1, h2⟩ := g.has
  have ne : D ≠ p := fun z => by rw [← z, h1] at hp; cases hp
  have kk : ∀ b o, H1 b = none → b ≠ D → H' b = some o → upd (upd H' p (.tup vs)) D (.lst (xs ++ [.ref p])) b = some o := fun b o hb n h => by
    rw [upd_ne n, upd_ne (ne_of_none h hp)]
    exact h
  refine ⟨xs, by rw [upd_ne ne]; exact h1, dpLen h2, g.new, _, upd_same, dpApp (DpAll.same (frs_keep kk) _ _ h2) (.cons (.tup (SqT.of ?_) (DpAll.same (frs_keep kk) _ _ hd)) .nil)⟩
  rw [frs_new hp1, off_ne (Ne.symm ne), upd_ne (Ne.symm ne), upd_same]
/-- what is new behind H' is new behind H1 -/
theorem frs_offD {H1 H' H'' : Hp} {D : Addr} (e : Same H1 H') (hD : ∃ o, H' D = some o) : Same (frs H' H'') (frs H1 (off D H'')) := fun b o h => by
  have hb : H' b = none := by
    cases q : H' b with
    | none => rfl
    | some _ => unfold frs at h; rw [q] at h; cases h
  rw [frs_new hb] at h
  have h1 : H1 b = none := by
    cases q : H1 b with
    | none => rfl
    | some o => rw [e _ _ q] at hb; cases hb
  have ne : b ≠ D := fun z => by
    obtain ⟨o, ho⟩ := hD
    rw [z, ho] at hb
    cases hb
  rw [frs_new h1, off_ne ne]
  exact h
section
variable {P : Program} {w : World} {K : PySem.W.Frag} {mg : Str → Option Value} {base : Heap}
theorem sc_registrations : FnScope ["self", "found", "serial", "name", "entry", "source"] ["self"] (defScope s_System_registrations) := ⟨rfl, rfl, rfl, by decide +kernel, rfl, by decide +kernel, by decide +kernel⟩
theorem ok_registrations (T : Tx K mg) : FnOk P w K mg base CX0 9 (mA "System" "registrations" K) (fdAt K (mA "System" "registrations" K)) ["self"] (sp_registrations K) := by
  refine FunD.ok T.f_System_registrations sc_registrations (fun vs H Q E h => ?_) (fun cdv A outer s H vs Q E hr h => ?_)
  · obtain ⟨x, rfl, _⟩ := h
    rfl
  · obtain ⟨S, rfl, hS, hw, hm, hlen, q⟩ := h
    have hu := hu_of hr
    refine ⟨_, PSs.nox (pss_cons (ps_set (i := 1) sc_registrations.nd rfl (Or.inl rfl) (pe_lst pa_nil))
      (pss_cons (ps_for PassesOwn.never rfl (pi_list (pe_meth0 (pv 0) T.c_System T.m_System_set_serials (ok_set_serials T) hr (b_set_serials T) .nil pass0)) (pg_name (i := 2) sc_registrations.nd rfl (Or.inl rfl))
        (pss_cons (ps_set (i := 3) sc_registrations.nd rfl (Or.inl rfl) (pe_meth (pv 0) T.c_System T.m_System_name_of (ok_name_of T) (hr.mono (by decide)) (b_name_of T) .nil pass0 (pa_cons (pv 2) pa_nil)))
        (pss_one (ps_for PassesOwn.never rfl (pi_list (pe_fld (pe_dget hu (pe_fld (pv 0) rfl) (pv 2) (fun _ _ => rfl)) rfl)) (pg_name (i := 4) sc_registrations.nd rfl (Or.inl rfl))
          (pss_cons (ps_set (i := 5) sc_registrations.nd rfl (Or.inl rfl) (pe_meth (pv 0) T.c_System T.m_System_name_of (ok_name_of T) (hr.mono (by decide)) (b_name_of T) .nil pass0 (pa_cons (pe_fld (pv 4) rfl) pa_nil)))
          (pss_one (ps_expr (pe_bm PySem.F.plainAttrs_list PySem.F.slot_list_append PySem.F.type_list_append mt_append (pv 1) (pa_cons (pe_tup (pa_cons (pv 3) (pa_cons (pe_fld (pv 4) rfl) (pa_cons (pe_fld (pv 4) rfl) (pa_cons (pv 5) (pa_cons (pe_fld (pv 4) rfl) (pa_cons (pe_fld (pv 4) rfl) pa_nil))))))) pa_nil)))))))))
      (pss_one (ps_ret (pv 1))))), ?_⟩
    have sL : (1000002 : Nat) < sizeLine := by decide
    refine ⟨by decide, fun D nD => ?_⟩
    have e0 : Same H (upd H D (.lst [])) := new_same nD
    have S0 := hS.ext e0
    refine ⟨_, rfl, S.p, S.dx, _, rfl, S0.ob, rfl, S, rfl, S0, hw.w0, hw.heldS, hm, fun H1 pl e1 npl h1 => ?_⟩
    have npD : pl ≠ D := fun z => by rw [z, upd_same] at npl; cases npl
    have nds : (S.ths.map (·.1)).Nodup := by rw [← Sy.sers]; exact hw.nds
    have gd1 : Gd K H D H1 [] := (Gd.start nD).keep fun b o _ h => e1 _ _ h
    refine ⟨pl, rfl, ⟨_, SqL.of h1⟩, ?_⟩
    refine for_list (xs := (setsIn S.v).map V.int) (fun k σ H' => (∃ v2 v3 v4 v5, σ = [some (.ref S.p), some (.ref D), v2, v3, v4, v5]) ∧ Same H H' ∧ H' pl = some (.lst ((setsIn S.v).map V.int)) ∧ Gd K H D H' (((setsIn S.v).take k).flatMap fun s => (regsOf S.v s).map (regD S.v s))) ⟨⟨_, _, _, _, rfl⟩, e0.trans e1, h1, gd1⟩ (fun k σ H' hk g => SqL.of g.2.2.1) ?_ ?_
    · rintro k x σ H' hx ⟨⟨v2, v3, v4, v5, rfl⟩, sm, hpl, gd⟩
      rw [List.getElem?_map] at hx
      cases en : (setsIn S.v)[k]? with
      | none => rw [en] at hx; cases hx
      | some n =>
        rw [en] at hx
        cases hx
        obtain ⟨t, ht, hset⟩ := setSers_mem ((setsIn_perm S.v).mem_iff.mp (List.mem_of_getElem? en))
        have hl : lk S.ths n = some t := lk_of_mem nds ht
        have hK := hS.ext sm
        have hlv : lk S.v.ths n = some t.tg.v := by rw [Sy.ths_v, hl]; rfl
        have tk : (setsIn S.v).take (k + 1) = (setsIn S.v).take k ++ [n] := take_next en
        have hheld : holds S.v.tabs n ≠ [] := hw.held' (t := (n, t.tg.v)) (lk_mem hlv)
        refine ⟨_, rfl, S.p, S.dx, _, rfl, hK.ob, rfl, _, rfl, S, n, rfl, hK, hw.w0, hheld, fun H2 nm nd => ?_⟩
        have sm2 := sm.trans nd.same
        obtain ⟨xs0, hD0, _⟩ := gd.has
        have gd2 : Gd K H D H2 (((setsIn S.v).take k).flatMap fun s => (regsOf S.v s).map (regD S.v s)) := gd.keep fun b o _ h => nd.same _ _ h
        have nmD : Dp K (frs H (off D H2)) nm (nameD S.v n) := Dp.same (frs_offD sm ⟨_, hD0⟩) _ _ nd.dat
        have hK2 := hS.ext sm2
        have g := DGet.k (k := Sum.inl n) hK2.gb
        rw [val_kv, hl] at g
        have tg := hK2.gt _ (lk_mem hl)
        cases et : t.tg with
        | src dx u f => rw [et] at hset; cases hset
        | set dx L R es row =>
          have et' : (n, t).2.tg = .set dx L R es row := et
          rw [et'] at tg
          obtain ⟨t1, t2, t3, t4⟩ := tg
          have neL : L ≠ D := fun z => by
            have tgH := hS.gt _ (lk_mem hl)
            rw [et'] at tgH
            rw [← z, tgH.2.1] at nD
            cases nD
          have hro : regsOf S.v n = es.map En.v := by
            unfold regsOf
            rw [hlv, et]
            rfl
          have so : SetOk S.v (es.map En.v) row := hw.ok (n, t.tg.v) (List.mem_map.mpr ⟨(n, t), ht, rfl⟩) _ _ (by show t.tg.v = _; rw [et]; rfl)
          have hlen2 : (((setsIn S.v).take k).flatMap fun s => (regsOf S.v s).map (regD S.v s)).length + es.length ≤ 1000000 := by
            have z := hlen
            unfold regsD at z
            rw [← List.take_append_drop (k + 1) (setsIn S.v), tk, List.flatMap_append, List.flatMap_append, List.length_append, List.length_append, List.flatMap_cons, List.flatMap_nil, List.append_nil, hro, List.length_map, List.length_map] at z
            omega
          refine ⟨_, rfl, _, _, _, _, _, rfl, hK2.ob, T.c_System, T.n_System_things, rfl, _, rfl, _, _, rfl, g, _, _, _, _, _, rfl, t1, T.c_WaitSet, T.n_WaitSet_entries, rfl, L, rfl, ⟨_, SqL.of t2⟩, ?_⟩
          refine for_list (xs := es.map fun e => V.ref e.ad) (fun j σ H3 => (∃ v4 v5, σ = [some (.ref S.p), some (.ref D), some (.int n), some nm, v4, v5]) ∧ (∀ b o, b ≠ D → H2 b = some o → H3 b = some o) ∧ Same H H3 ∧ Gd K H D H3 ((((setsIn S.v).take k).flatMap fun s => (regsOf S.v s).map (regD S.v s)) ++ ((es.take j).map En.v).map (regD S.v n))) ⟨⟨_, _, rfl⟩, fun b o _ h => h, sm2, by rw [List.take_zero, List.map_nil, List.map_nil, List.append_nil]; exact gd2⟩ (fun j σ H3 hj g => SqL.of (g.2.1 _ _ neL t2)) ?_ ?_
          · rintro j x σ H3 hx ⟨⟨v4, v5, rfl⟩, kp, sm3, gd3⟩
            rw [List.getElem?_map] at hx
            cases ee : es[j]? with
            | none => rw [ee] at hx; cases hx
            | some e =>
              rw [ee] at hx
              cases hx
              have he := List.mem_of_getElem? ee
              have jl : j < es.length := (List.getElem?_eq_some_iff.mp ee).1
              have hK3 := hS.ext sm3
              have tg3 := hK3.gt _ (lk_mem hl)
              rw [et'] at tg3
              have hE := tg3.2.2.2 e he
              obtain ⟨u, f, hsrc⟩ := so.2.2.2.2.1 e.v (List.mem_map.mpr ⟨e, he, rfl⟩)
              have hh2 : holds S.v.tabs e.ser ≠ [] := hw.held' (t := (e.ser, .src u f)) (lk_mem hsrc)
              refine ⟨_, rfl, S.p, S.dx, _, rfl, hK3.ob, rfl, _, rfl, _, _, _, _, _, rfl, hE, T.c_Entry, T.n_Entry_serial, rfl, S, e.ser, rfl, hK3, hw.w0, hh2, fun H4 sv nd4 => ?_⟩
              have sm4 := sm3.trans nd4.same
              obtain ⟨xs3, hD3, _⟩ := gd3.has
              have gd4 := gd3.keep fun b o _ h => nd4.same _ _ h
              have svD : Dp K (frs H (off D H4)) sv (nameD S.v e.ser) := Dp.same (frs_offD sm3 ⟨_, hD3⟩) _ _ nd4.dat
              have nm4 : Dp K (frs H (off D H4)) nm (nameD S.v n) := Dp.same (frs_keep fun b o hb hn h => nd4.same _ _ (kp b o hn h)) _ _ nmD
              have hE4 := nd4.same _ _ hE
              obtain ⟨xs4, hD4, _⟩ := gd4.has
              refine ⟨_, rfl, .inl ⟨rfl, _, SqL.of hD4⟩, _, rfl, _, rfl, _, _, _, _, _, rfl, hE4, T.c_Entry, T.n_Entry_label, rfl, _, rfl, _, _, _, _, _, rfl, hE4, T.c_Entry, T.n_Entry_number, rfl, _, rfl, _, rfl, _, _, _, _, _, rfl, hE4, T.c_Entry, T.n_Entry_word, rfl, _, rfl, _, _, _, _, _, rfl, hE4, T.c_Entry, T.n_Entry_armed, rfl, (by show 6 ≤ sizeLine; decide), fun tp ntp => ?_⟩
              have ntp : H4 tp = none := ntp
              have ntH : H tp = none := by
                cases q : H tp with
                | none => rfl
                | some o => rw [sm4 _ _ q] at ntp; cases ntp
              obtain ⟨xs5, hD5, lx5, gd5⟩ := gd4.addT (vs := [nm, .int e.lab, .int e.num, sv, .str e.wrd, .bl e.arm]) (es := [nameD S.v n, .int e.lab, .int e.num, nameD S.v e.ser, .str e.wrd, .bool e.arm]) ntp ntH (.cons nm4 (.cons (.int _) (.cons (.int _) (.cons svD (.cons (.str _) (.cons (.bl _) .nil))))))
              have neD : D ≠ tp := fun z => by rw [← z, hD4] at ntp; cases ntp
              refine ⟨D, xs5, _, rfl, rfl, hD5, ?_, ⟨_, _, rfl⟩, ?_, ?_, ?_⟩
              · rw [lx5, List.length_append, List.length_map, List.length_map, List.length_take]
                omega
              · intro b o hb h
                rw [upd_ne hb]
                have := nd4.same _ _ (kp b o hb h)
                rw [upd_ne (ne_of_none this ntp)]
                exact this
              · intro b o h
                rw [upd_ne (ne_of_none h nD), upd_ne (ne_of_none (sm4 _ _ h) ntp)]
                exact sm4 _ _ h
              · rw [take_next ee, List.map_append, List.map_append, ← List.append_assoc]
                exact gd5
          · rintro σ H3 ⟨⟨v4, v5, rfl⟩, kp, sm3, gd3⟩
            rw [List.length_map, List.take_length] at gd3
            refine ⟨⟨_, _, _, _, rfl⟩, sm3, kp _ _ npD (nd.same _ _ hpl), ?_⟩
            rw [tk, List.flatMap_append, List.flatMap_cons, List.flatMap_nil, List.append_nil, hro]
            exact gd3
    · rintro σ H' ⟨⟨v2, v3, v4, v5, rfl⟩, sm, hpl, gd⟩
      rw [List.length_map, List.take_length] at gd
      exact ⟨_, rfl, q _ _ sm gd⟩
theorem b_registrations (T : Tx K mg) : Binds K (fdAt K (mA "System" "registrations" K)) ["self"] [] := FunD.bindsN T.f_System_registrations fun _ _ _ _ _ _ us hl => match us, hl with | [_], _ => rfl
end

/-! ### units -/
section
variable {P : Program} {w : World} {K : PySem.W.Frag} {mg : Str → Option Value} {base : Heap}
end

/-! ### same -/
section
variable {P : Program} {w : World} {K : PySem.W.Frag} {mg : Str → Option Value} {base : Heap}
end

/-! ### systems at the law's level -/
def sca : Val → Bool
  | .non => true
  | .bl _ => true
  | .int _ => true
  | .str _ => true
  | _ => false
theorem sca_obj {K : PySem.W.Frag} {ad : Nat → Addr} {b : Nat} {H H' : Hp} {x : Val} {u : V} (h : sca x = true) (r : VR K ad b H x u) : Obj' H' u := by
  cases r <;> first | exact trivial | cases h
def errV (f : Str) (x : Val) (c : Str) : List (Str × Val) := [(f, x), ("caption", .str c)]
def byP (v : Sv) (x : Val) (μ : Mu) (k : Int → List (Int × Int) → R Val) : R Val := if sca x = true then match x with
    | .int i => match lk v.tabs i with
      | some rows => k i rows
      | none => .er "NoProcess" (errV "process" x "NoProcess") μ
    | _ => .er "NoProcess" (errV "process" x "NoProcess") μ
  else .no
def byN (rows : List (Int × Int)) (y : Val) (μ : Mu) (k : Int → Int → R Val) : R Val := if sca y = true then match y with
    | .int i => match lk rows i with
      | some ser => k i ser
      | none => .er "NotOpen" (errV "number" y "NotOpen") μ
    | _ => .er "NotOpen" (errV "number" y "NotOpen") μ
  else .no
def onSrc (v : Sv) (ser : Int) (y : Val) (μ : Mu) (k : Int → Bool → R Val) : R Val := match lk v.ths ser with
  | some (.src u f) => k u f
  | some (.set _ _) => .er "NotASource" (errV "number" y "NotASource") μ
  | none => .no
def onSet (v : Sv) (ser : Int) (y : Val) (μ : Mu) (k : List Ev → List Int → R Val) : R Val := match lk v.ths ser with
  | some (.set es row) => k es row
  | some (.src _ _) => .er "NotASet" (errV "number" y "NotASet") μ
  | none => .no
section
variable {K : PySem.W.Frag} {E : XK} {w : Wt} {μ : Mu} {H : Hp} {n : Nat} {v : Sv} {Q : VK}
theorem raisedP (S : Sim K w μ H) {c : Str} {fs : List (Str × Val)} {us : List (Str × V)} (hp : Post K (relE K) E w μ.nx H Q (.er c fs μ)) (hk : us.map (·.1) = fs.map (·.1)) (r : VRs K w.ad μ.nx H (fs.map (·.2)) (us.map (·.2))) : Raised K H E c us := fun H' d e nd hd => by
  obtain ⟨S', g⟩ := S.same e
  exact hp w H' d us S' g hd hk (r.grow g)
theorem raised1 (S : Sim K w μ H) {c f cap : Str} {x : Val} {u : V} (hp : Post K (relE K) E w μ.nx H Q (.er c (errV f x cap) μ)) (r : VR K w.ad μ.nx H x u) : Raised K H E c [(f, u), ("caption", .str cap)] :=
  raisedP S hp rfl (.cons r (.cons (.str _) .nil))
theorem byP_ok (S : Sim K w μ H) (hob : μ.ob n = some (.sys v)) {x : Val} {u : V} (r : VR K w.ad μ.nx H x u) {k : Int → List (Int × Int) → R Val} (hp : Post K (relE K) E w μ.nx H Q (byP v x μ k)) {G : Int → Tb → Prop}
    (f : ∀ i t, lk (w.sy n).tabs i = some t → lk v.tabs i = some t.rows → Post K (relE K) E w μ.nx H Q (k i t.rows) → G i t) : Obj' H u ∧ ByProc K (w.sy n) u H E G := by
  obtain ⟨h1, h2, h3, h4⟩ := S.ok _ _ hob
  unfold byP at hp
  split at hp
  · rename_i hs
    refine ⟨sca_obj hs r, ?_⟩
    split at hp
    · rename_i i
      cases r
      split at hp
      · rename_i rows hr
        rw [← h3, Sy.tabs_v] at hr
        obtain ⟨t, e1, e2⟩ := Option.map_eq_some_iff.mp hr
        subst e2
        exact .inl ⟨i, t, rfl, e1, f i t e1 (by rw [← h3, Sy.tabs_v, e1]; rfl) hp⟩
      · rename_i hr
        rw [← h3, Sy.tabs_v] at hr
        exact .inr ⟨fun j e => by cases e; exact Option.map_eq_none_iff.mp hr, raised1 S hp (.int _)⟩
    · rename_i hni
      refine .inr ⟨fun i e => ?_, raised1 S hp r⟩
      subst e
      cases r
      exact (hni _ rfl).elim
  · exact hp.elim
theorem byN_ok (S : Sim K w μ H) {t : Tb} {y : Val} {u : V} (r : VR K w.ad μ.nx H y u) {k : Int → Int → R Val} (hp : Post K (relE K) E w μ.nx H Q (byN t.rows y μ k)) {G : Int → Int → Prop}
    (f : ∀ i ser, lk t.rows i = some ser → Post K (relE K) E w μ.nx H Q (k i ser) → G i ser) : ByNum K t u H E G := by
  unfold byN at hp
  split at hp
  · split at hp
    · rename_i i
      cases r
      split at hp
      · rename_i ser hr
        exact .inl ⟨_, ser, rfl, hr, f _ ser hr hp⟩
      · rename_i hr
        exact .inr ⟨fun j e => by cases e; exact hr, raised1 S hp (.int _)⟩
    · rename_i hni
      refine .inr ⟨fun i e => ?_, raised1 S hp r⟩
      subst e
      cases r
      exact (hni _ rfl).elim
  · exact hp.elim
theorem onSrc_ok (S : Sim K w μ H) (hob : μ.ob n = some (.sys v)) {ser : Int} {y : Val} {u : V} (r : VR K w.ad μ.nx H y u) {k : Int → Bool → R Val} (hp : Post K (relE K) E w μ.nx H Q (onSrc v ser y μ k)) {th : Th} (ht : lk (w.sy n).ths ser = some th) {G : Prop}
    (f : ∀ a b, th.tg.v = .src a b → lk v.ths ser = some (.src a b) → Post K (relE K) E w μ.nx H Q (k a b) → G) : (th.tg.v.isSet = false → G) ∧ (th.tg.v.isSet = true → Raised K H E "NotASource" (errN "NotASource" u)) := by
  obtain ⟨h1, h2, h3, h4⟩ := S.ok _ _ hob
  have e : lk v.ths ser = some th.tg.v := by rw [← h3, Sy.ths_v, ht]; rfl
  unfold onSrc at hp
  rw [e] at hp
  cases q : th.tg.v with
  | src a b =>
    rw [q] at hp e
    exact ⟨fun _ => f a b q e hp, fun z => by cases z⟩
  | set es row =>
    rw [q] at hp
    exact ⟨fun z => (by cases z), fun _ => raised1 S hp r⟩
theorem onSet_ok (S : Sim K w μ H) (hob : μ.ob n = some (.sys v)) {ser : Int} {y : Val} {u : V} (r : VR K w.ad μ.nx H y u) {k : List Ev → List Int → R Val} (hp : Post K (relE K) E w μ.nx H Q (onSet v ser y μ k)) {th : Th} (ht : lk (w.sy n).ths ser = some th) {G : Prop}
    (f : ∀ a b, th.tg.v = .set a b → lk v.ths ser = some (.set a b) → Post K (relE K) E w μ.nx H Q (k a b) → G) : (th.tg.v.isSet = true → G) ∧ (th.tg.v.isSet = false → Raised K H E "NotASet" (errN "NotASet" u)) := by
  obtain ⟨h1, h2, h3, h4⟩ := S.ok _ _ hob
  have e : lk v.ths ser = some th.tg.v := by rw [← h3, Sy.ths_v, ht]; rfl
  unfold onSet at hp
  rw [e] at hp
  cases q : th.tg.v with
  | set a b =>
    rw [q] at hp e
    exact ⟨fun _ => f a b q e hp, fun z => by cases z⟩
  | src es row =>
    rw [q] at hp
    exact ⟨fun z => (by cases z), fun _ => raised1 S hp r⟩
end
/-! ### the calls -/
def newM (tv : Tv) : MSy := fun n v xs μ => match xs with
  | [x] => if 0 ≤ v.made ∧ v.made ≤ 1000000 then byP v x μ fun i rows => match lowFree (rows.map (·.1)) v.N with
      | some k => .ok (.int k) (μ.put n (.sys (v.place i k tv)))
      | none => .er "Full" (errV "process" x "Full") μ
    else .no
  | _ => .no
def cntOf (x : Val) (lo hi : Int) : Option Int := match x with
  | .int k => if lo ≤ k ∧ k ≤ hi then some k else none
  | _ => none
def wordOf (x : Val) : Option Str := match x with
  | .str z => if z ∈ words then some z else none
  | _ => none
def addM' : MSy := fun n v xs μ => match xs with
  | [x, y, z, l, wd] => if (sca x = true ∧ sca y = true ∧ sca z = true) ∧ sca l = true ∧ sca wd = true then byP v x μ fun i rows => byN rows y μ fun k1 ser1 => onSet v ser1 y μ fun es row => byN rows z μ fun k ser => onSrc v ser z μ fun u f => match cntOf l 0 999999 with
      | none => .er "BadLabel" (errV "label" l "BadLabel") μ
      | some lab => match wordOf wd with
        | none => .er "BadWord" (errV "word" wd "BadWord") μ
        | some wz => if ∃ e ∈ es, e.num = k ∧ e.ser = ser then .er "Registered" (errV "number" z "Registered") μ else if ∃ e ∈ es, e.lab = lab then .er "Taken" (errV "label" l "Taken") μ
          else if es.length < 1000000 then .ok .non (μ.put n (.sys (v.re ser1 (addV es row k ser lab wz (f || decide (0 < u)))))) else .no
    else .no
  | _ => .no
section
variable {K : PySem.W.Frag}
theorem cnt_betw {ad : Nat → Addr} {b : Nat} {H : Hp} {m : Val} {u : V} {lo hi : Int} (r : VR K ad b H m u) : (cntOf m lo hi = none → betw u lo hi = false) ∧ (∀ c, cntOf m lo hi = some c → m = .int c ∧ u = .int c ∧ lo ≤ c ∧ c ≤ hi) ∧ (cntOf m lo hi = none → ∀ c, u = .int c → lo ≤ c → c ≤ hi → False) := by
  unfold cntOf
  cases r with
  | int i =>
    simp only
    by_cases c : lo ≤ i ∧ i ≤ hi
    · rw [if_pos c]
      refine ⟨fun z => (by cases z), fun k z => ?_, fun z => (by cases z)⟩
      cases z
      exact ⟨rfl, rfl, c.1, c.2⟩
    · rw [if_neg c]
      refine ⟨fun _ => ?_, fun k z => (by cases z), fun _ k e h1 h2 => ?_⟩
      · unfold betw
        simp only
        rw [Bool.eq_false_iff]
        intro z
        apply c
        simpa using z
      · cases e
        exact c ⟨h1, h2⟩
  | _ => exact ⟨fun _ => rfl, fun k z => (by cases z), fun _ k e => (by cases e)⟩
theorem made_v {w : Wt} {μ : Mu} {H : Hp} {n : Nat} {v : Sv} (S : Sim K w μ H) (hob : μ.ob n = some (.sys v)) : (w.sy n).made = v.made ∧ (w.sy n).N = v.N ∧ (w.sy n).P = v.P := by
  obtain ⟨h1, h2, h3, h4⟩ := S.ok _ _ hob
  subst h3
  exact ⟨rfl, rfl, rfl⟩
theorem s_new {tv : Tv} (ht : tv.fresh) : PrimS K (sp_new K tv) (newM tv) := by
  intro E w μ H n v xs us Q S hob r hp
  obtain ⟨h1, h2, h3, h4⟩ := S.ok _ _ hob
  unfold newM at hp
  split at hp
  · rename_i x
    split at hp
    · rename_i hm
      cases r with
      | cons r1 r2 =>
        cases r2
        obtain ⟨e1, e2, e3⟩ := made_v S hob
        obtain ⟨o1, o2⟩ := byP_ok S hob r1 hp (G := fun i tb => (∀ k, lowFree (tb.rows.map (·.1)) (w.sy n).N = some k → ∀ H' s', SyAt K H' s' → s'.v = (w.sy n).v.place i k tv → Fr' (w.sy n) s' H H' → Q (.int k) H') ∧ (lowFree (tb.rows.map (·.1)) (w.sy n).N = none → Raised K H E "Full" (errF _))) (fun i t hl hv hk => by
          refine ⟨fun k hf H' s' S' ev fr => ?_, fun hf => ?_⟩
          · rw [e2] at hf
            rw [hf] at hk
            have wf : WF (v.place i k tv) := h4.place hv (lowFree_spec hf) ht hm.1
            obtain ⟨w', q1, q2, _⟩ := S.setS hob S' (by rw [ev, h3]) wf fr
            exact hk w' H' _ q1 (.int _) q2
          · rw [e2] at hf
            rw [hf] at hk
            exact raised1 S hk r1)
        exact ⟨w.sy n, _, by rw [h1], h2, o1, by rw [h3]; exact h4, by rw [e1]; exact hm, o2⟩
    · exact hp.elim
  · exact hp.elim
theorem betw_in {c lo hi : Int} (h1 : lo ≤ c) (h2 : c ≤ hi) : betw (.int c) lo hi = true := by
  unfold betw
  simp only
  simpa using ⟨h1, h2⟩
theorem s_add : PrimS K (sp_add K) addM' := by
  intro E w μ H n v xs us Q S hob r hp
  obtain ⟨h1, h2, h3, h4⟩ := S.ok _ _ hob
  unfold addM' at hp
  split at hp
  · rename_i x y z l wd
    split at hp
    · rename_i hm
      cases r with
      | cons r1 r2 =>
      cases r2 with
      | cons r2 r3 =>
      cases r3 with
      | cons r3 r4 =>
      cases r4 with
      | cons r4 r5 =>
      cases r5 with
      | cons r5 r6 =>
        cases r6
        refine ⟨w.sy n, _, _, _, _, _, by rw [h1], h2, by rw [h3]; exact h4, sca_obj hm.1.1 r1, sca_obj hm.1.2.1 r2, sca_obj hm.1.2.2 r3, sca_obj hm.2.1 r4, sca_obj hm.2.2 r5, (byP_ok S hob r1 hp fun i t hl hv hk => byN_ok S r2 hk fun k1 ser1 hs1 hk => fun th1 hth1 => onSet_ok S hob r2 hk hth1 fun es row hu1 hlu1 hk => byN_ok S r3 hk fun k ser hs hk => fun th hth => ?_).2⟩
        refine ⟨(onSrc_ok S hob r3 hk hth (G := True) fun _ _ _ _ _ => trivial).2, fun u f hu => ?_⟩
        have hlu : lk v.ths ser = some (.src u f) := by rw [← h3, Sy.ths_v, hth, ← hu]; rfl
        unfold onSrc at hk
        rw [hlu] at hk
        simp only at hk
        obtain ⟨c1, c2, c3⟩ := cnt_betw (lo := 0) (hi := 999999) r4
        cases hc : cntOf l 0 999999 with
        | none =>
          rw [hc] at hk
          exact ⟨fun _ => raised1 S hk r4, fun k e l1 l2 => (c3 hc k e l1 l2).elim⟩
        | some lab =>
          rw [hc] at hk
          obtain ⟨q1, rfl, q3, q4⟩ := c2 lab hc
          refine ⟨fun z => ?_, fun lab' e l1 l2 => ?_⟩
          · rw [betw_in q3 q4] at z
            cases z
          cases e
          cases hw : wordOf wd with
          | none =>
            rw [hw] at hk
            refine ⟨fun _ => raised1 S hk r5, fun wz es row e hwz => ?_⟩
            subst e
            cases r5
            unfold wordOf at hw
            simp only at hw
            rw [if_pos hwz] at hw
            cases hw
          | some wz =>
            rw [hw] at hk
            have hwd : wd = .str wz ∧ wz ∈ words := by
              unfold wordOf at hw
              split at hw
              · split at hw
                · cases hw
                  exact ⟨rfl, by assumption⟩
                · cases hw
              · cases hw
            obtain ⟨rfl, hwz⟩ := hwd
            cases r5
            refine ⟨fun z => ?_, fun wz' es' row' e _ hu1' => ?_⟩
            · unfold isWord at z
              exact absurd (decide_eq_true hwz) (by rw [show decide (wz ∈ words) = false from z]; exact Bool.false_ne_true)
            · cases e
              rw [hu1] at hu1'
              cases hu1'
              simp only at hk
              refine ⟨fun c => ?_, fun c => ⟨fun d => ?_, fun d => ?_⟩⟩
              · rw [if_pos c] at hk
                exact raised1 S hk r3
              · rw [if_neg c, if_pos d] at hk
                exact raised1 S hk r4
              · rw [if_neg c, if_neg d] at hk
                split at hk
                · rename_i hz
                  refine ⟨hz, fun H' s' S' ev wf fr => ?_⟩
                  obtain ⟨w', q1, q2, _⟩ := S.setS hob S' (by rw [ev, h3]) (by rw [← h3, ← ev]; exact wf) fr
                  exact hk w' H' _ q1 .non q2
                · exact hk.elim
    · exact hp.elim
  · exact hp.elim
/-! ### new systems -/
def makM (xs : List Val) (μ : Mu) : R Val := match xs with
  | [.int a, .int b] => if (2 ≤ a ∧ a ≤ 6) ∧ 3 ≤ b ∧ b ≤ 8 then .ok (.loc μ.nx) (μ.new (.sys (newSv a b))) else .no
  | _ => .no
theorem s_make {E : XK} {w : Wt} {μ : Mu} {H : Hp} {xs : List Val} {us : List V} {Q : VK} (S : Sim K w μ H) (r : VRs K w.ad μ.nx H xs us) (hp : Post K (relE K) E w μ.nx H Q (makM xs μ)) (x dx : Addr) (nx : H x = none) (ndx : H dx = none) (ne : dx ≠ x) :
    sp_Sys_init K (.ref x :: us) (upd (upd H dx (.own x)) x (.ins (ga K "System") dx [])) (fun v H2 => v = .non ∧ Q (.ref x) H2) E := by
  unfold makM at hp
  split at hp
  · rename_i a b
    cases r with
    | cons r1 r2 =>
      cases r2 with
      | cons r2 r3 =>
        cases r3; cases r1; cases r2
        split at hp
        · rename_i hz
          refine ⟨x, dx, _, _, rfl, upd_same, trivial, trivial, fun z => ?_, fun _ z => ?_, fun a' b' ea eb l1 l2 l3 l4 H' s S' ep ev k f => ?_⟩
          · rw [betw_in hz.1.1 hz.1.2] at z; cases z
          · rw [betw_in hz.2.1 hz.2.2] at z; cases z
          · cases ea; cases eb
            have sm : Same H H' := fun c o h => k c o (by rw [upd_ne (ne_of_none h nx), upd_ne (ne_of_none h ndx)]; exact h) (ne_of_none h nx)
            obtain ⟨w', q1, q2, q3⟩ := S.newS sm S' ev (WF.new ⟨l1, l2⟩ ⟨l3, l4⟩) (fun c hc => by
              rcases f c hc with z | z
              · rw [z]; exact nx
              · by_cases c1 : c = x
                · rw [c1]; exact nx
                · rw [upd_ne c1] at z
                  by_cases c2 : c = dx
                  · rw [c2]; exact ndx
                  · rw [upd_ne c2] at z; exact z)
            refine ⟨rfl, hp w' H' _ q1 ?_ q2⟩
            rw [← ep, ← q3]
            exact VR.loc (Nat.lt_succ_self _)
        · exact hp.elim
  · exact hp.elim
end
section
variable {X : Cx} {E : XK} {x : Str} {p pos : Pos} {kws : List Keyword} {mk : MA}
/-- System(k = v, ..) -/
def mMakeK (f : List Val → Mu → R Val) (l : Nat) (g : List Val → List Val) (a : MA) : ME := fun ρ μ => (a ρ μ).bind fun zs μ => if zs.length = l then f (g zs) μ else .no
theorem pm_sysK (T : Tx X.K X.mg) (hr : Room 5 X.A) (hg : Gl X "System") (hx : Passes (L2.CX X.prog X.w) X E) {ks : List Str} {g : List Value → List Value → List Value} {gV : List V → List V → List V} {gM : List Val → List Val} (hb : KBn X.K (fdAt X.K (mA "System" "__init__" X.K)) ["self", "processes", "numbers"] 1 ks g gV)
    (hgM : ∀ ad b H a zs ws, VRs X.K ad b H zs ws → zs.length = ks.length → ∃ us', gV [.ref a] ws = .ref a :: us' ∧ VRs X.K ad b H (gM zs) us') (hkw : PMK X E kws mk)
    (hall : (backToKw pos (keywordEach kws X.env)).all (·.1.isSome) = true := by rfl) (hks : (backToKw pos (keywordEach kws X.env)).filterMap (·.1) = ks := by rfl)
    (hpl : ((backTo pos (starEach [] X.env)).any (·.1) || (backToKw pos (keywordEach kws X.env)).any (·.1.isNone)) = false := by rfl) : PM X E (.Call (.Name "System" p) [] kws pos) (mMakeK makM ks.length gM mk) :=
  PE.imp (pe_makeK0 T.k_System (ok_Sys_init T) hr hg T.g_System hb hx hkw hall hks (by decide) hpl) fun σ H Q ⟨w, ρ, μ, S, EN, hp⟩ => ⟨w, ρ, μ, S, EN, Post.bind hp fun zs μ1 w1 H1 ws S1 r1 g1 h1 => by
    split at h1
    · rename_i hl
      refine ⟨rfl, by rw [VRs.length r1]; exact hl, fun y dx nx ndx ne => ?_⟩
      obtain ⟨us', e1, e2⟩ := hgM _ _ _ y _ _ r1 hl
      rw [e1]
      exact s_make S1 e2 h1 y dx nx ndx ne
    · exact h1.elim⟩
end
section
variable {P : Program} {w : World} {K : PySem.W.Frag} {mg : Str → Option Value} {base : Heap}
end

/-! ### calls that go well -/
section
variable {μ : Mu} {x : Nat} {v : Sv} {p n c : Int} {rows : List (Int × Int)} {ser u : Int} {f : Bool} {es : List Ev} {row : List Int}
theorem cnt_ok {lo hi c : Int} (h1 : lo ≤ c) (h2 : c ≤ hi) : cntOf (.int c) lo hi = some c := by
  unfold cntOf
  simp only
  rw [if_pos ⟨h1, h2⟩]
theorem new_ok (tv : Tv) (hp : lk v.tabs p = some rows) (hm : 0 ≤ v.made ∧ v.made ≤ 1000000) {k : Int} (hk : lowFree (rows.map (·.1)) v.N = some k) : newM tv x v [.int p] μ = .ok (.int k) (μ.put x (.sys (v.place p k tv))) := by
  unfold newM byP
  simp only [sca, hm, and_self, if_true, hp, hk]
theorem add_ok {m lab ser1 : Int} {wz : Str} (hp : lk v.tabs p = some rows) (hn : lk rows n = some ser1) (hs : lk v.ths ser1 = some (.set es row)) (hm : lk rows m = some ser) (hs2 : lk v.ths ser = some (.src u f)) (h1 : 0 ≤ lab) (h2 : lab ≤ 999999) (hw : wz ∈ words) (hk : ¬ ∃ e ∈ es, e.num = m ∧ e.ser = ser) (hl : ¬ ∃ e ∈ es, e.lab = lab) (hz : es.length < 1000000) :
    addM' x v [.int p, .int n, .int m, .int lab, .str wz] μ = .ok .non (μ.put x (.sys (v.re ser1 (addV es row m ser lab wz (f || decide (0 < u)))))) := by
  unfold addM' byP byN onSet onSrc wordOf
  simp only [sca, and_self, if_true, hp, hn, hs, hm, hs2, cnt_ok h1 h2, hw]
  rw [if_neg hk, if_neg hl, if_pos hz]
end

/-! ### change, remove at the law's level -/
def fKv (es : List Ev) (n ser : Int) : Option Ev := es.find? fun e => decide (e.num = n ∧ e.ser = ser)
def chgM : MSy := fun n v xs μ => match xs with
  | [x, y, z, wd] => if (sca x = true ∧ sca y = true ∧ sca z = true) ∧ sca wd = true then byP v x μ fun i rows => byN rows y μ fun k1 ser1 => onSet v ser1 y μ fun es row => byN rows z μ fun k ser => onSrc v ser z μ fun u f => match wordOf wd with
      | none => .er "BadWord" (errV "word" wd "BadWord") μ
      | some wz => match fKv es k ser with
        | none => .er "NotRegistered" (errV "number" z "NotRegistered") μ
        | some e => .ok .non (μ.put n (.sys (v.re ser1 (chgV es row k ser e.lab wz (f || decide (0 < u))))))
    else .no
  | _ => .no
theorem fKv_none {es : List Ev} {n ser : Int} (h : fKv es n ser = none) : ¬ ∃ e ∈ es, e.num = n ∧ e.ser = ser := fun ⟨e, he, q⟩ => by
  have := List.find?_eq_none.mp h e he
  simp [q] at this
theorem fKv_some {es : List Ev} {n ser : Int} {e : Ev} (h : fKv es n ser = some e) : e ∈ es ∧ e.num = n ∧ e.ser = ser := ⟨List.mem_of_find?_eq_some h, of_decide_eq_true (p := e.num = n ∧ e.ser = ser) (List.find?_some (p := fun e : Ev => decide (e.num = n ∧ e.ser = ser)) h)⟩
theorem key_injV {es : List Ev} (nd : (es.map fun e => (e.num, e.ser)).Nodup) {x y : Ev} (hx : x ∈ es) (hy : y ∈ es) (e1 : x.num = y.num) (e2 : x.ser = y.ser) : x = y := by
  induction es with
  | nil => cases hx
  | cons a l ih =>
    obtain ⟨n1, n2⟩ := List.nodup_cons.mp (show ((a.num, a.ser) :: l.map fun e => (e.num, e.ser)).Nodup from nd)
    rcases List.mem_cons.mp hx with zx | zx
    · rcases List.mem_cons.mp hy with zy | zy
      · rw [zx, zy]
      · subst zx
        exact (n1 (List.mem_map.mpr ⟨y, zy, by rw [e1, e2]⟩)).elim
    · rcases List.mem_cons.mp hy with zy | zy
      · subst zy
        exact (n1 (List.mem_map.mpr ⟨x, zx, by rw [e1, e2]⟩)).elim
      · exact ih n2 zx zy
section
variable {K : PySem.W.Frag}
theorem s_chg : PrimS K (sp_change K) chgM := by
  intro E w μ H n v xs us Q S hob r hp
  obtain ⟨h1, h2, h3, h4⟩ := S.ok _ _ hob
  unfold chgM at hp
  split at hp
  · rename_i x y z wd
    split at hp
    · rename_i hm
      cases r with
      | cons r1 r2 =>
      cases r2 with
      | cons r2 r3 =>
      cases r3 with
      | cons r3 r4 =>
      cases r4 with
      | cons r4 r5 =>
        cases r5
        refine ⟨w.sy n, _, _, _, _, by rw [h1], h2, by rw [h3]; exact h4, sca_obj hm.1.1 r1, sca_obj hm.1.2.1 r2, sca_obj hm.1.2.2 r3, sca_obj hm.2 r4, (byP_ok S hob r1 hp fun i t hl hv hk => byN_ok S r2 hk fun k1 ser1 hs1 hk => fun th1 hth1 => onSet_ok S hob r2 hk hth1 fun es row hu1 hlu1 hk => byN_ok S r3 hk fun k ser hs hk => fun th hth => ?_).2⟩
        refine ⟨(onSrc_ok S hob r3 hk hth (G := True) fun _ _ _ _ _ => trivial).2, fun u f hu => ?_⟩
        have hlu : lk v.ths ser = some (.src u f) := by rw [← h3, Sy.ths_v, hth, ← hu]; rfl
        have so : SetOk v es row := h4.ok (ser1, .set es row) (lk_mem hlu1) es row rfl
        unfold onSrc at hk
        rw [hlu] at hk
        simp only at hk
        cases hw : wordOf wd with
        | none =>
          rw [hw] at hk
          refine ⟨fun _ => raised1 S hk r4, fun wz es row e hwz => ?_⟩
          subst e
          cases r4
          unfold wordOf at hw
          simp only at hw
          rw [if_pos hwz] at hw
          cases hw
        | some wz =>
          rw [hw] at hk
          have hwd : wd = .str wz ∧ wz ∈ words := by
            unfold wordOf at hw
            split at hw
            · split at hw
              · cases hw
                exact ⟨rfl, by assumption⟩
              · cases hw
            · cases hw
          obtain ⟨rfl, hwz⟩ := hwd
          cases r4
          refine ⟨fun z => ?_, fun wz' es' row' e _ hu1' => ?_⟩
          · unfold isWord at z
            exact absurd (decide_eq_true hwz) (by rw [show decide (wz ∈ words) = false from z]; exact Bool.false_ne_true)
          · cases e
            rw [hu1] at hu1'
            cases hu1'
            simp only at hk
            cases hf : fKv es k ser with
            | none =>
              rw [hf] at hk
              exact ⟨fun _ => raised1 S hk r3, fun e he q1 q2 => (fKv_none hf ⟨e, he, q1, q2⟩).elim⟩
            | some e =>
              rw [hf] at hk
              obtain ⟨f1, f2, f3⟩ := fKv_some hf
              refine ⟨fun c => (c ⟨e, f1, f2, f3⟩).elim, fun e' he' q1 q2 H' s' S' ev wf fr => ?_⟩
              have ee : e' = e := key_injV so.2.1 he' f1 (q1.trans f2.symm) (q2.trans f3.symm)
              subst ee
              obtain ⟨w', q1, q2, _⟩ := S.setS hob S' (by rw [ev, h3]) (by rw [← h3, ← ev]; exact wf) fr
              exact hk w' H' _ q1 .non q2
    · exact hp.elim
  · exact hp.elim
end
section
variable {μ : Mu} {x : Nat} {v : Sv} {p n m : Int} {rows : List (Int × Int)} {ser ser1 u : Int} {f : Bool} {es : List Ev} {row : List Int} {e : Ev}
theorem chg_ok {wz : Str} (hp : lk v.tabs p = some rows) (hn : lk rows n = some ser1) (hs : lk v.ths ser1 = some (.set es row)) (hm : lk rows m = some ser) (hs2 : lk v.ths ser = some (.src u f)) (hw : wz ∈ words) (hk : fKv es m ser = some e) :
    chgM x v [.int p, .int n, .int m, .str wz] μ = .ok .non (μ.put x (.sys (v.re ser1 (chgV es row m ser e.lab wz (f || decide (0 < u)))))) := by
  unfold chgM byP byN onSet onSrc wordOf
  simp only [sca, and_self, if_true, hp, hn, hs, hm, hs2, hw, hk]
end

def remM : MSy := fun n v xs μ => match xs with
  | [x, y, z] => if sca x = true ∧ sca y = true ∧ sca z = true then byP v x μ fun i rows => byN rows y μ fun k1 ser1 => onSet v ser1 y μ fun es row => byN rows z μ fun k ser => onSrc v ser z μ fun u f => match fKv es k ser with
      | none => .er "NotRegistered" (errV "number" z "NotRegistered") μ
      | some e => .ok .non (μ.put n (.sys (v.re ser1 (.set (dropE e.lab es) (dropR e.lab row)))))
    else .no
  | _ => .no
section
variable {K : PySem.W.Frag}
theorem s_rem : PrimS K (sp_remove K) remM := by
  intro E w μ H n v xs us Q S hob r hp
  obtain ⟨h1, h2, h3, h4⟩ := S.ok _ _ hob
  unfold remM at hp
  split at hp
  · rename_i x y z
    split at hp
    · rename_i hm
      cases r with
      | cons r1 r2 =>
      cases r2 with
      | cons r2 r3 =>
      cases r3 with
      | cons r3 r4 =>
        cases r4
        refine ⟨w.sy n, _, _, _, by rw [h1], h2, by rw [h3]; exact h4, sca_obj hm.1 r1, sca_obj hm.2.1 r2, sca_obj hm.2.2 r3, (byP_ok S hob r1 hp fun i t hl hv hk => byN_ok S r2 hk fun k1 ser1 hs1 hk => fun th1 hth1 => onSet_ok S hob r2 hk hth1 fun es row hu1 hlu1 hk => byN_ok S r3 hk fun k ser hs hk => fun th hth => ?_).2⟩
        refine ⟨(onSrc_ok S hob r3 hk hth (G := True) fun _ _ _ _ _ => trivial).2, fun e0 es' row' hu1' => ?_⟩
        rw [hu1] at hu1'
        cases hu1'
        have so : SetOk v es row := h4.ok (ser1, .set es row) (lk_mem hlu1) es row rfl
        obtain ⟨dx0, u, f, et⟩ := src_of e0
        have hlu : lk v.ths ser = some (.src u f) := by rw [← h3, Sy.ths_v, hth, Option.map_some, et]; rfl
        unfold onSrc at hk
        rw [hlu] at hk
        simp only at hk
        cases hf : fKv es k ser with
        | none =>
          rw [hf] at hk
          exact ⟨fun _ => raised1 S hk r3, fun e he q1 q2 => (fKv_none hf ⟨e, he, q1, q2⟩).elim⟩
        | some e =>
          rw [hf] at hk
          obtain ⟨f1, f2, f3⟩ := fKv_some hf
          refine ⟨fun c => (c ⟨e, f1, f2, f3⟩).elim, fun e' he' q1 q2 H' s' S' ev wf fr => ?_⟩
          have ee : e' = e := key_injV so.2.1 he' f1 (q1.trans f2.symm) (q2.trans f3.symm)
          subst ee
          obtain ⟨w', q1, q2, _⟩ := S.setS hob S' (by rw [ev, h3]) (by rw [← h3, ← ev]; exact wf) fr
          exact hk w' H' _ q1 .non q2
    · exact hp.elim
  · exact hp.elim
end
section
variable {μ : Mu} {x : Nat} {v : Sv} {p n m : Int} {rows : List (Int × Int)} {ser ser1 u : Int} {f : Bool} {es : List Ev} {row : List Int} {e : Ev}
theorem rem_ok (hp : lk v.tabs p = some rows) (hn : lk rows n = some ser1) (hs : lk v.ths ser1 = some (.set es row)) (hm : lk rows m = some ser) (hs2 : lk v.ths ser = some (.src u f)) (hk : fKv es m ser = some e) :
    remM x v [.int p, .int n, .int m] μ = .ok .non (μ.put x (.sys (v.re ser1 (.set (dropE e.lab es) (dropR e.lab row))))) := by
  unfold remM byP byN onSet onSrc
  simp only [sca, and_self, if_true, hp, hn, hs, hm, hs2, hk]
end

/-! ### finish, close, copy at the law's level -/
def cloM : MSy := fun n v xs μ => match xs with
  | [x, y] => if (sca x = true ∧ sca y = true) ∧ v.made ≤ 1000000 then byP v x μ fun i rows => byN rows y μ fun k ser => .ok .non (μ.put n (.sys (closeV v i k ser)))
    else .no
  | _ => .no
def copM : MSy := fun n v xs μ => match xs with
  | [x, y, z] => if (sca x = true ∧ sca y = true ∧ sca z = true) ∧ v.made ≤ 1000000 then byP v x μ fun i rows => byN rows y μ fun k ser => match z with
      | .non => match lowFree (rows.map (·.1)) v.N with
        | none => .er "Full" (errV "process" x "Full") μ
        | some k => .ok (.int k) (μ.put n (.sys (v.addRow i k ser)))
      | z => match cntOf z 0 (v.N - 1) with
        | none => .er "NoNumber" (errV "number" z "NoNumber") μ
        | some k => .ok (.int k) (μ.put n (.sys (copyV v i k ser rows)))
    else .no
  | _ => .no
section
variable {K : PySem.W.Frag}
theorem s_clo : PrimS K (sp_close K) cloM := by
  intro E w μ H n v xs us Q S hob r hp
  obtain ⟨h1, h2, h3, h4⟩ := S.ok _ _ hob
  obtain ⟨e1, e2, e3⟩ := made_v S hob
  unfold cloM at hp
  split at hp
  · rename_i x y
    split at hp
    · rename_i hm
      cases r with
      | cons r1 r2 =>
      cases r2 with
      | cons r2 r3 =>
        cases r3
        refine ⟨w.sy n, _, _, by rw [h1], h2, by rw [h3]; exact h4, by rw [e1]; exact hm.2, sca_obj hm.1.1 r1, sca_obj hm.1.2 r2, (byP_ok S hob r1 hp fun i t hl hv hk => byN_ok S r2 hk fun k ser hs hk => fun H' s' S' ev te wf fr => ?_).2⟩
        obtain ⟨w', q1, q2, _⟩ := S.setS hob S' (by rw [ev, h3]) (by rw [← h3, ← ev]; exact wf) fr
        exact hk w' H' _ q1 .non q2
    · exact hp.elim
  · exact hp.elim
theorem s_cop : PrimS K (sp_copy K) copM := by
  intro E w μ H n v xs us Q S hob r hp
  obtain ⟨h1, h2, h3, h4⟩ := S.ok _ _ hob
  obtain ⟨e1, e2, e3⟩ := made_v S hob
  unfold copM at hp
  split at hp
  · rename_i x y z
    split at hp
    · rename_i hm
      cases r with
      | cons r1 r2 =>
      cases r2 with
      | cons r2 r3 =>
      cases r3 with
      | cons r3 r4 =>
        cases r4
        refine ⟨w.sy n, _, _, _, by rw [h1], h2, by rw [h3]; exact h4, by rw [e1]; exact hm.2, sca_obj hm.1.1 r1, sca_obj hm.1.2.1 r2, sca_obj hm.1.2.2 r3, (byP_ok S hob r1 hp fun i t hl hv hk => byN_ok S r2 hk fun k ser hs hk => ?_).2⟩
        obtain ⟨c1, c2, c3⟩ := cnt_betw (lo := 0) (hi := v.N - 1) r3
        split at hk
        · cases r3
          refine ⟨fun _ => ⟨fun k hf H' s' S' ev wf fr => ?_, fun hf => ?_⟩, fun z => (z rfl).elim⟩
          · rw [e2] at hf
            rw [hf] at hk
            obtain ⟨w', q1, q2, _⟩ := S.setS hob S' (by rw [ev, h3]) (by rw [← h3, ← ev]; exact wf) fr
            exact hk w' H' _ q1 (.int _) q2
          · rw [e2] at hf
            rw [hf] at hk
            exact raised1 S hk r1
        · rename_i hnn
          refine ⟨fun z => ?_, fun _ => ?_⟩
          · subst z
            cases r3
            exact (hnn rfl).elim
          · rw [e2]
            split at hk
            · rename_i hc
              exact ⟨fun _ => raised1 S hk r3, fun k e l1 l2 => (c3 hc k e l1 l2).elim⟩
            · rename_i c hc
              obtain ⟨q1, rfl, q3, q4⟩ := c2 c hc
              refine ⟨fun z => ?_, fun k e l1 l2 H' s' S' ev wf fr => ?_⟩
              · rw [betw_in q3 q4] at z
                cases z
              · cases e
                obtain ⟨w', q1, q2, _⟩ := S.setS hob S' (by rw [ev, h3]) (by rw [← h3, ← ev]; exact wf) fr
                exact hk w' H' _ q1 (.int _) q2
    · exact hp.elim
  · exact hp.elim
end
section
variable {μ : Mu} {x : Nat} {v : Sv} {p n m k : Int} {rows : List (Int × Int)} {ser u : Int} {f : Bool}
theorem clo_ok (hp : lk v.tabs p = some rows) (hn : lk rows n = some ser) (hm : v.made ≤ 1000000) : cloM x v [.int p, .int n] μ = .ok .non (μ.put x (.sys (closeV v p n ser))) := by
  unfold cloM byP byN
  simp only [sca, hm, and_self, if_true, hp, hn]
theorem copTo_ok (hp : lk v.tabs p = some rows) (hn : lk rows n = some ser) (hm : v.made ≤ 1000000) (k0 : 0 ≤ k) (k1 : k ≤ v.N - 1) : copM x v [.int p, .int n, .int k] μ = .ok (.int k) (μ.put x (.sys (copyV v p k ser rows))) := by
  unfold copM byP byN
  simp only [sca, hm, and_self, if_true, hp, hn, cnt_ok k0 k1]
end

/-! ### registrations, wait by keyword, change by keywords, sorted reports: at the law's level -/
def nameV (v : Sv) (ser : Int) : Val := .tup [.int (nameAt v ser).1, .int (nameAt v ser).2]
def regV (v : Sv) (s : Int) (e : Ev) : Val := .tup [nameV v s, .int e.lab, .int e.num, nameV v e.ser, .str e.wrd, .bl e.arm]
def regsV (v : Sv) : List Val := (setsIn v).flatMap fun s => (regsOf v s).map (regV v s)
theorem ofDs_app : ∀ a b : List PyData, ofDs (a ++ b) = ofDs a ++ ofDs b
  | [], b => rfl
  | d :: a, b => by rw [List.cons_append, ofDs, ofDs, ofDs_app a b]; rfl
theorem noLs_app : ∀ a b : List PyData, noLs (a ++ b) = (noLs a && noLs b)
  | [], b => by rw [List.nil_append, noLs, Bool.true_and]
  | d :: a, b => by rw [List.cons_append, noLs, noLs, noLs_app a b, Bool.and_assoc]
theorem ofDs_reg (v : Sv) (s : Int) : ∀ es : List Ev, ofDs (es.map (regD v s)) = es.map (regV v s) ∧ noLs (es.map (regD v s)) = true
  | [] => ⟨rfl, rfl⟩
  | e :: es => by
    obtain ⟨i1, i2⟩ := ofDs_reg v s es
    refine ⟨?_, ?_⟩
    · rw [List.map_cons, List.map_cons, ofDs, i1]
      rfl
    · rw [List.map_cons, noLs, i2]
      rfl
theorem ofDs_regs (v : Sv) : ofDs (regsD v) = regsV v ∧ noLs (regsD v) = true := by
  unfold regsD regsV
  generalize setsIn v = l
  induction l with
  | nil => exact ⟨rfl, rfl⟩
  | cons a l ih =>
    obtain ⟨i1, i2⟩ := ih
    obtain ⟨j1, j2⟩ := ofDs_reg v a (regsOf v a)
    rw [List.flatMap_cons, List.flatMap_cons, ofDs_app, noLs_app, i1, i2, j1, j2]
    exact ⟨rfl, rfl⟩
def regM : MSy := fun _ v xs μ => match xs with
  | [] => if v.made ≤ 1000000 ∧ (regsD v).length ≤ 1000000 then .ok (.loc μ.nx) (μ.new (.lst (regsV v))) else .no
  | _ => .no
section
variable {K : PySem.W.Frag}
theorem s_reg : PrimS K (sp_registrations K) regM := by
  intro E w μ H n v xs us Q S hob r hp
  obtain ⟨h1, h2, h3, h4⟩ := S.ok _ _ hob
  obtain ⟨e1, e2, e3⟩ := made_v S hob
  unfold regM at hp
  split at hp
  · split at hp
    · rename_i hm
      cases r
      refine ⟨w.sy n, by rw [h1], h2, by rw [h3]; exact h4, by rw [e1]; exact hm.1, by rw [h3]; exact hm.2, fun H' p sm gd => ?_⟩
      rw [h3] at gd
      obtain ⟨S1, g1⟩ := S.same sm
      obtain ⟨xs, hp1, hp2⟩ := gd.has
      obtain ⟨d1, d2⟩ := ofDs_regs v
      have vr := vrs_dp (ad := w.ad) (b := μ.nx) (H' := H') (frs_le.trans off_le) _ _ hp2 d2
      rw [d1] at vr
      obtain ⟨w4, S4, g4, e4⟩ := S1.takeL hp1 (fun m z => by
        obtain ⟨o, ho, _⟩ := S.ftm z
        rw [gd.new] at ho
        cases ho) vr
      exact hp w4 _ _ S4 (by rw [← e4]; exact VR.loc (Nat.lt_succ_self _)) (g1.trans g4)
    · exact hp.elim
  · exact hp.elim
variable {mg : Str → Option Value}
end
/-! ### sorted of reports -/
section
variable {X : Cx}
end
section
variable {K : PySem.W.Frag}
end

/-! ### System(processes=, numbers=), row_of by keywords -/
section
variable {K : PySem.W.Frag} {mg : Str → Option Value}
end

/-! ### units, at the law's level -/
section
variable {K : PySem.W.Frag}
end
section
variable {μ : Mu} {x : Nat} {v : Sv} {p n : Int} {rows : List (Int × Int)} {ser u : Int} {f : Bool}
end

/-! ### fork, at the law's level -/
def forM : MSy := fun n v xs μ => match xs with
  | [x] => if sca x = true then byP v x μ fun _ rows => match lowFree (v.tabs.map (·.1)) v.P with
      | some c => .ok (.int c) (μ.put n (.sys (v.fork c rows)))
      | none => .no
    else .no
  | _ => .no
theorem Sy.keys_v (s : Sy) : s.v.tabs.map (·.1) = s.tabs.map (·.1) := by
  show (s.tabs.map fun t => (t.1, t.2.rows)).map (·.1) = _
  rw [List.map_map]
  rfl
section
variable {K : PySem.W.Frag}
theorem s_for : PrimS K (sp_fork K) forM := by
  intro E w μ H n v xs us Q S hob r hp
  obtain ⟨h1, h2, h3, h4⟩ := S.ok _ _ hob
  have eP : (w.sy n).P = v.P := by rw [← h3]; rfl
  have eT : (w.sy n).tabs.map (·.1) = v.tabs.map (·.1) := by rw [← h3, Sy.keys_v]
  unfold forM at hp
  split at hp
  · rename_i x
    split at hp
    · rename_i hm
      cases r with
      | cons r1 r2 =>
        cases r2
        refine ⟨w.sy n, _, by rw [h1], h2, sca_obj hm r1, by rw [h3]; exact h4, (byP_ok S hob r1 hp fun i t hl hv hk => ?_).2⟩
        rw [eP, eT]
        cases hf : lowFree (v.tabs.map (·.1)) v.P with
        | none =>
          rw [hf] at hk
          exact hk.elim
        | some c =>
          rw [hf] at hk
          refine ⟨fun c' e H' s' F => ?_, fun e => nomatch e⟩
          cases e
          obtain ⟨f1, f2, f3⟩ := F
          obtain ⟨c0, c1, c2⟩ := lowFree_spec hf
          have wf : WF (v.fork c t.rows) := h4.fork hv ⟨c0, c1, c2⟩
          obtain ⟨w', q1, q2, _⟩ := S.setS hob f1 (by rw [f2, h3]) wf f3
          exact hk w' H' _ q1 (.int _) q2
    · exact hp.elim
  · exact hp.elim
end
section
variable {μ : Mu} {x : Nat} {v : Sv} {p c : Int} {rows : List (Int × Int)}
theorem for_ok (hp : lk v.tabs p = some rows) (hc : lowFree (v.tabs.map (·.1)) v.P = some c) : forM x v [.int p] μ = .ok (.int c) (μ.put x (.sys (v.fork c rows))) := by
  unfold forM byP
  simp only [sca, if_true, hp, hc]
end

/-! ### calls by keywords -/
section
variable {K : PySem.W.Frag} {mg : Str → Option Value}
end

/-! ### same, at the law's level -/
section
variable {K : PySem.W.Frag}
end
section
variable {μ : Mu} {x : Nat} {v : Sv} {p n p2 n2 : Int} {rows rows2 : List (Int × Int)} {ser ser2 : Int}
end
/-! ### numbers, at the law's level -/
section
variable {K : PySem.W.Frag}
end
section
variable {μ : Mu} {x : Nat} {v : Sv} {p : Int} {rows : List (Int × Int)}
end
section
variable {K : PySem.W.Frag} {mg : Str → Option Value}
end

/-! ### calls by keywords in another order -/
theorem VRs.rev {K : PySem.W.Frag} {ad : Nat → Addr} {b : Nat} {H : Hp} : ∀ {vs : List Val} {us : List V}, VRs K ad b H vs us → VRs K ad b H vs.reverse us.reverse
  | _, _, .nil => .nil
  | _, _, .cons h r => by
    rw [List.reverse_cons, List.reverse_cons]
    exact (VRs.rev r).app (.cons h .nil)
theorem vals_rev : ∀ {vs : List V} {us : List Value}, Vals vs us → Vals vs.reverse us.reverse
  | _, _, .nil => .nil
  | _, _, .cons h r => by
    rw [List.reverse_cons, List.reverse_cons]
    exact (vals_rev r).append (.cons h .nil)
section
variable {K : PySem.W.Frag} {mg : Str → Option Value}
theorem b_changeS (T : Tx K mg) : KBn K (fdAt K (mA "System" "change" K)) ["self", "process", "set_number", "number", "word"] 3 ["word", "number"] (fun us ws => us ++ ws.reverse) (fun vs zs => vs ++ zs.reverse) :=
  kbindsN T.f_System_change 3 ["word", "number"] (fun a b => a ++ b.reverse) (fun r1 r2 => r1.append (vals_rev r2)) fun kV doc pm an cdv ct us ws l1 l2 => match us, ws, l1, l2 with | [_, _, _], [_, _], _, _ => rfl
theorem b_SysP (T : Tx K mg) : ∃ mv, KBn K (fdAt K (mA "System" "__init__" K)) ["self", "processes", "numbers"] 1 ["processes"] (fun us ws => us ++ (ws ++ mv)) (fun vs zs => vs ++ (zs ++ [.int 8])) :=
  FunD.kbinds0 T.f_System___init__ 1 ["processes"] [("numbers", .int 8)] (fun a b c => a ++ (c ++ b)) (fun z => nomatch z) (fun q hq => by simp at hq; simp [hq]) (fun r1 r2 r3 => r1.append (r3.append r2)) fun D doc pm an cdv ct us mv ws l1 l2 l3 => match us, mv, ws, l1, l2, l3 with | [_], [_], [_], _, _, _ => ⟨_, _, _, _, _, _, rfl, rfl, rfl⟩
end

def m__law_bag_1 : MS :=
    sSet 3 (mOp modM (mFn intM (mCons (mOp addM (mOp addM (mOp addM (mOp mulM (mV 3) (mC (.int 44497))) (mOp modM (mFn intM (mCons (mV 5) (mNil))) (mC (.int 2147483549)))) (mOp mulM (mC (.int 71)) (mV 4))) (mC (.int 9))) (mNil))) (mC (.int 2147483549)))
def m__law_bag : MS :=
    sSeq (sSet 2 (mIf (mTest (mOp ltM (mV 1) (mFn lenM (mCons (mV 0) (mNil))))) (mOp getM (mV 0) (mV 1)) (mC (.int 0))))
    (sSeq (sSet 3 (mOp addM (mOp mulM (mC (.int 5051)) (mV 1)) (mC (.int 131))))
    (sSeq (sFor (iEnm (mCons (mSl (mV 0) (mP0) (mP (mC (.int 40)))) (mNil))) (tgT [4, 5]) (m__law_bag_1))
    (sRet (mLst (mCons (mIf (mTest (mOp geM (mFn absM (mCons (mV 2) (mNil))) (mOp powM (mC (.int 10)) (mC (.int 18))))) (mFn absM (mCons (mV 2) (mNil))) (mC (.int 0))) (mCons (mV 3) (mNil)))))))
def d__law_bag : List Val → Mu → R Val := runM 2 6 m__law_bag
section
variable {P : Program} {w : World} {K : PySem.W.Frag} {mg : Str → Option Value} {base : Heap}
theorem sm__law_bag : FnScope ["_law_script", "_law_at", "_law_cell", "_law_blend", "_law_k", "_law_each"] ["_law_script", "_law_at"] (defScope s__law_bag) := ⟨rfl, rfl, rfl, by decide +kernel, rfl, by decide +kernel, by decide +kernel⟩
theorem bm__law_bag (T : Tx K mg) : Binds K (fdAt K (gA "_law_bag" K)) ["_law_script", "_law_at"] [] := FunD.bindsN T.f__law_bag fun _ _ _ _ _ _ us hl => match us, hl with | [_, _], _ => rfl
theorem okm__law_bag (T : Tx K mg) : FnG P w K mg base CX0 1 (gA "_law_bag" K) (fdAt K (gA "_law_bag" K)) ["_law_script", "_law_at"] (spM K 2 d__law_bag) := by
  refine okM T.f__law_bag sm__law_bag rfl rfl fun cdv A outer s H hg hr => ?_
  have hu := hr.units
  have hu1 := hu_of hr
  have hu2 := hr.units1
  exact pmss_cons (pms_set (i := 2) sm__law_bag.nd rfl (by first | exact Or.inl rfl | exact Or.inr rfl) (pm_ifExp (pmt_cmp c_lt (pm_var (pv 1)) (pm_callB call_len p_len (by rfl) T.free_len PySem.boot_len (pma_cons (pm_var (pv 0)) (pma_nil)))) (pm_ix (pm_var (pv 0)) (pm_var (pv 1))) (pm_int)))
      (pmss_cons (pms_set (i := 3) sm__law_bag.nd rfl (by first | exact Or.inl rfl | exact Or.inr rfl) (pm_bin b_add (pm_bin b_mul (pm_int) (pm_var (pv 1))) (pm_int)))
      (pmss_cons (pms_for PassesOwn.never rfl (pmi_enm (by rfl) T.free_enumerate (pma_cons (pm_slice (pm_var (pv 0)) (pmo_none) (pmo_some (pm_int))) (pma_nil))) (pmg_tup rfl (pmgs_cons (i := 4) sm__law_bag.nd rfl (by first | exact Or.inl rfl | exact Or.inr rfl) (pmgs_cons (i := 5) sm__law_bag.nd rfl (by first | exact Or.inl rfl | exact Or.inr rfl) (pmgs_nil)))) (pmss_one (pms_set (i := 3) sm__law_bag.nd rfl (by first | exact Or.inl rfl | exact Or.inr rfl) (pm_bin b_mod (pm_callTy call_int1 p_int (by rfl) T.free_int (by decide +kernel) (pma_cons (pm_bin b_add (pm_bin b_add (pm_bin b_add (pm_bin b_mul (pm_var (pv 3)) (pm_int)) (pm_bin b_mod (pm_callTy call_int1 p_int (by rfl) T.free_int (by decide +kernel) (pma_cons (pm_var (pv 5)) (pma_nil))) (pm_int))) (pm_bin b_mul (pm_int) (pm_var (pv 4)))) (pm_int)) (pma_nil))) (pm_int)))))
      (pmss_one (pms_ret (pm_lst (pma_cons (pm_ifExp (pmt_cmp c_ge (pm_callB call_abs p_abs (by rfl) T.free_abs (by decide +kernel) (pma_cons (pm_var (pv 2)) (pma_nil))) (pm_bin b_pow (pm_int) (pm_int))) (pm_callB call_abs p_abs (by rfl) T.free_abs (by decide +kernel) (pma_cons (pm_var (pv 2)) (pma_nil))) (pm_int)) (pma_cons (pm_var (pv 3)) (pma_nil))))))))
end
def m__law_take : MS :=
    sSeq (sIf (mTest (mOp gtM (mOp getM (mV 0) (mC (.int 0))) (mC (.int 0)))) (sSeq (sSet 2 (mOp modM (mFn intM (mCons (mOp getM (mV 0) (mC (.int 0))) (mNil))) (mV 1)))
    (sSeq (sSto stoM (mV 0) (mC (.int 0)) (mOp fdivM (mOp getM (mV 0) (mC (.int 0))) (mV 1)))
    (sRet (mV 2)))) (sNil))
    (sSeq (sSto stoM (mV 0) (mC (.int 1)) (mOp modM (mFn intM (mCons (mOp addM (mOp mulM (mOp getM (mV 0) (mC (.int 1))) (mC (.int 38177))) (mC (.int 4001))) (mNil))) (mC (.int 2147483587))))
    (sRet (mOp modM (mOp fdivM (mOp modM (mFn intM (mCons (mOp mulM (mOp fdivM (mOp getM (mV 0) (mC (.int 1))) (mC (.int 11))) (mC (.int 52817))) (mNil))) (mC (.int 2147483629))) (mC (.int 32))) (mV 1))))
def d__law_take : List Val → Mu → R Val := runM 2 3 m__law_take
section
variable {P : Program} {w : World} {K : PySem.W.Frag} {mg : Str → Option Value} {base : Heap}
theorem sm__law_take : FnScope ["_law_bag_here", "_law_many", "_law_digit"] ["_law_bag_here", "_law_many"] (defScope s__law_take) := ⟨rfl, rfl, rfl, by decide +kernel, rfl, by decide +kernel, by decide +kernel⟩
theorem bm__law_take (T : Tx K mg) : Binds K (fdAt K (gA "_law_take" K)) ["_law_bag_here", "_law_many"] [] := FunD.bindsN T.f__law_take fun _ _ _ _ _ _ us hl => match us, hl with | [_, _], _ => rfl
theorem okm__law_take (T : Tx K mg) : FnG P w K mg base CX0 1 (gA "_law_take" K) (fdAt K (gA "_law_take" K)) ["_law_bag_here", "_law_many"] (spM K 2 d__law_take) := by
  refine okM T.f__law_take sm__law_take rfl rfl fun cdv A outer s H hg hr => ?_
  have hu := hr.units
  have hu1 := hu_of hr
  have hu2 := hr.units1
  exact pmss_cons (pms_if (pmt_cmp c_gt (pm_ix (pm_var (pv 0)) (pm_int)) (pm_int)) (pmss_cons (pms_set (i := 2) sm__law_take.nd rfl (by first | exact Or.inl rfl | exact Or.inr rfl) (pm_bin b_mod (pm_callTy call_int1 p_int (by rfl) T.free_int (by decide +kernel) (pma_cons (pm_ix (pm_var (pv 0)) (pm_int)) (pma_nil))) (pm_var (pv 1))))
      (pmss_cons (pms_sto (pm_bin b_fdiv (pm_ix (pm_var (pv 0)) (pm_int)) (pm_var (pv 1))) (pm_var (pv 0)) (pm_int))
      (pmss_one (pms_ret (pm_var (pv 2)))))) (pmss_nil))
      (pmss_cons (pms_sto (pm_bin b_mod (pm_callTy call_int1 p_int (by rfl) T.free_int (by decide +kernel) (pma_cons (pm_bin b_add (pm_bin b_mul (pm_ix (pm_var (pv 0)) (pm_int)) (pm_int)) (pm_int)) (pma_nil))) (pm_int)) (pm_var (pv 0)) (pm_int))
      (pmss_one (pms_ret (pm_bin b_mod (pm_bin b_fdiv (pm_bin b_mod (pm_callTy call_int1 p_int (by rfl) T.free_int (by decide +kernel) (pma_cons (pm_bin b_mul (pm_bin b_fdiv (pm_ix (pm_var (pv 0)) (pm_int)) (pm_int)) (pm_int)) (pma_nil))) (pm_int)) (pm_int)) (pm_var (pv 1))))))
end
def m__law_of : MS :=
    sRet (mOp getM (mV 1) (mCall 2 d__law_take (mCons (mV 0) (mCons (mFn lenM (mCons (mV 1) (mNil))) (mNil)))))
def d__law_of : List Val → Mu → R Val := runM 2 2 m__law_of
section
variable {P : Program} {w : World} {K : PySem.W.Frag} {mg : Str → Option Value} {base : Heap}
theorem sm__law_of : FnScope ["_law_bag_here", "_law_some"] ["_law_bag_here", "_law_some"] (defScope s__law_of) := ⟨rfl, rfl, rfl, by decide +kernel, rfl, by decide +kernel, by decide +kernel⟩
theorem bm__law_of (T : Tx K mg) : Binds K (fdAt K (gA "_law_of" K)) ["_law_bag_here", "_law_some"] [] := FunD.bindsN T.f__law_of fun _ _ _ _ _ _ us hl => match us, hl with | [_, _], _ => rfl
theorem okm__law_of (T : Tx K mg) : FnG P w K mg base CX0 2 (gA "_law_of" K) (fdAt K (gA "_law_of" K)) ["_law_bag_here", "_law_some"] (spM K 2 d__law_of) := by
  refine okM T.f__law_of sm__law_of rfl rfl fun cdv A outer s H hg hr => ?_
  have hu := hr.units
  have hu1 := hu_of hr
  have hu2 := hr.units1
  exact pmss_one (pms_ret (pm_ix (pm_var (pv 1)) (pm_call (okm__law_take T) hg (hr.mono (by decide)) (by rfl) T.g__law_take T.f__law_take.kp (bm__law_take T) (pma_cons (pm_var (pv 0)) (pma_cons (pm_callB call_len p_len (by rfl) T.free_len PySem.boot_len (pma_cons (pm_var (pv 1)) (pma_nil))) (pma_nil))))))
end
def hs__law_outcome : Ohs := [("Registered", [.tag "registered", .fld "number"]), ("Taken", [.tag "taken", .fld "label"]), ("NotRegistered", [.tag "not registered", .fld "number"])]
section
variable {P : Program} {w : World} {K : PySem.W.Frag} {mg : Str → Option Value} {base : Heap}
theorem sm__law_outcome : FnScope ["_law_deed", "e"] ["_law_deed"] (defScope s__law_outcome) := ⟨rfl, rfl, rfl, by decide +kernel, rfl, by decide +kernel, by decide +kernel⟩
theorem bm__law_outcome (T : Tx K mg) : Binds K (fdAt K (gA "_law_outcome" K)) ["_law_deed"] [] := FunD.bindsN T.f__law_outcome fun _ _ _ _ _ _ us hl => match us, hl with | [_], _ => rfl
theorem og__law_outcome {X : Cx} (T : Tx X.K X.mg) (cdv : Value) {q : Str} : GivesTo X ["_law_deed", "e"] "_law_outcome" (defScope s__law_outcome) (gA "_law_outcome" X.K) cdv (defBody s__law_outcome) "_law_deed" q (TTo X.K hs__law_outcome) := by
  refine out_gives (i := 1) (n := "e") sm__law_outcome.nd rfl rfl (fun _ => rfl) (fun s H => .cons ⟨rfl, by decide, .inl T.g_Registered⟩ (fun a oe cls d pn hz hf => pss_one (ps_ret (pe_lst (pa_cons (pe_str) (pa_cons (pe_xf T.x_Registered.xf (T.x_Registered.no "number" (by decide)) hz hf (pv 1)) (pa_nil)))))) (.cons ⟨rfl, by decide, .inl T.g_Taken⟩ (fun a oe cls d pn hz hf => pss_one (ps_ret (pe_lst (pa_cons (pe_str) (pa_cons (pe_xf T.x_Taken.xf (T.x_Taken.no "label" (by decide)) hz hf (pv 1)) (pa_nil)))))) (.cons ⟨rfl, by decide, .inl T.g_NotRegistered⟩ (fun a oe cls d pn hz hf => pss_one (ps_ret (pe_lst (pa_cons (pe_str) (pa_cons (pe_xf T.x_NotRegistered.xf (T.x_NotRegistered.no "number" (by decide)) hz hf (pv 1)) (pa_nil)))))) (.nil)))) ?_ (by decide)
  rintro cls d H Q σ ⟨c, its, dd, us, vs, hm, rfl, rfl, hd, hv, q⟩ hl
  have hi : ∀ a : Addr, (σ.set 1 (some (.ref a)))[1]? = some (some (.ref a)) := fun a => by rw [List.getElem?_set_self hl]
  unfold hs__law_outcome at hm
  simp only [List.mem_cons, List.not_mem_nil, or_false, Prod.mk.injEq] at hm
  rcases hm with ⟨rfl, rfl⟩ | ⟨rfl, rfl⟩ | ⟨rfl, rfl⟩
  · obtain ⟨v0, vs0, rfl, h0, hv⟩ := itsV_cons hv; obtain ⟨v1, vs1, rfl, h1, hv⟩ := itsV_cons hv; cases hv
    cases h0
    exact ⟨true, T.e_Registered_Registered, fun _ a na => ⟨_, hi a, rfl, rfl, dd, _, _, rfl, hd, h1, (by show 2 ≤ sizeLine; decide), fun p np => q p np⟩, (fun z => nomatch z)⟩
  · obtain ⟨v0, vs0, rfl, h0, hv⟩ := itsV_cons hv; obtain ⟨v1, vs1, rfl, h1, hv⟩ := itsV_cons hv; cases hv
    cases h0
    exact ⟨false, T.e_Taken_Registered, (fun z => nomatch z), fun _ => ⟨true, T.e_Taken_Taken, fun _ a na => ⟨_, hi a, rfl, rfl, dd, _, _, rfl, hd, h1, (by show 2 ≤ sizeLine; decide), fun p np => q p np⟩, (fun z => nomatch z)⟩⟩
  · obtain ⟨v0, vs0, rfl, h0, hv⟩ := itsV_cons hv; obtain ⟨v1, vs1, rfl, h1, hv⟩ := itsV_cons hv; cases hv
    cases h0
    exact ⟨false, T.e_NotRegistered_Registered, (fun z => nomatch z), fun _ => ⟨false, T.e_NotRegistered_Taken, (fun z => nomatch z), fun _ => ⟨true, T.e_NotRegistered_NotRegistered, fun _ a na => ⟨_, hi a, rfl, rfl, dd, _, _, rfl, hd, h1, (by show 2 ≤ sizeLine; decide), fun p np => q p np⟩, (fun z => nomatch z)⟩⟩⟩
end
def m__law_key : MS :=
    sRet (mLc (iEnm (mCons (mV 0) (mNil))) [3, 4] (tgT [3, 4]) (mTest (mOp eqM (mSl (mV 4) (mP0) (mP (mC (.int 2)))) (mTup (mCons (mV 1) (mCons (mV 2) (mNil)))))) (mV 3))
def d__law_key : List Val → Mu → R Val := runM 3 5 m__law_key
section
variable {P : Program} {w : World} {K : PySem.W.Frag} {mg : Str → Option Value} {base : Heap}
theorem sm__law_key : FnScope ["_law_regs", "_law_n", "_law_thing", "_law_k", "_law_reg"] ["_law_regs", "_law_n", "_law_thing"] (defScope s__law_key) := ⟨rfl, rfl, rfl, by decide +kernel, rfl, by decide +kernel, by decide +kernel⟩
theorem bm__law_key (T : Tx K mg) : Binds K (fdAt K (gA "_law_key" K)) ["_law_regs", "_law_n", "_law_thing"] [] := FunD.bindsN T.f__law_key fun _ _ _ _ _ _ us hl => match us, hl with | [_, _, _], _ => rfl
theorem okm__law_key (T : Tx K mg) : FnG P w K mg base CX0 1 (gA "_law_key" K) (fdAt K (gA "_law_key" K)) ["_law_regs", "_law_n", "_law_thing"] (spM K 3 d__law_key) := by
  refine okM T.f__law_key sm__law_key rfl rfl fun cdv A outer s H hg hr => ?_
  have hu := hr.units
  have hu1 := hu_of hr
  have hu2 := hr.units1
  exact pmss_one (pms_ret (pm_lc (own := [("_law_k", 3), ("_law_reg", 4)]) rfl sm__law_key.nd (pmi_enm (by rfl) T.free_enumerate (pma_cons (pm_var (pv 0)) (pma_nil))) (blkOk_by (N := ["_law_regs", "_law_n", "_law_thing", "_law_k", "_law_reg"]) (sc := defScope s__law_key) (by decide +kernel)) (fun _ _ _ _ _ => pmg_tup rfl (pmgs_cons (i := 3) sm__law_key.nd rfl (by first | exact Or.inl rfl | exact Or.inr rfl) (pmgs_cons (i := 4) sm__law_key.nd rfl (by first | exact Or.inl rfl | exact Or.inr rfl) (pmgs_nil)))) (fun _ _ _ _ _ => pmts_one (pmt_cmp (c_eq hu) (pm_slice (pm_var (pv 4)) (pmo_none) (pmo_some (pm_int))) (pm_tup (pma_cons (pm_var (pv 1)) (pma_cons (pm_var (pv 2)) (pma_nil)))))) (fun _ _ _ _ _ => pm_var (pv 3))))
end
def m__law_added : MS :=
    sSeq (sIf (mTest (mOp neM (mCall 3 d__law_key (mCons (mV 0) (mCons (mV 1) (mCons (mV 2) (mNil))))) (mLst (mNil)))) (sRet (mLst (mCons (mC (.str "registered")) (mCons (mV 1) (mNil))))) (sNil))
    (sSeq (sIf (mTest (mOp inM (mV 3) (mLc (iSeq (mV 0)) [5] (tgN 5) (mYes) (mOp getM (mV 5) (mC (.int 2)))))) (sRet (mLst (mCons (mC (.str "taken")) (mCons (mV 3) (mNil))))) (sNil))
    (sSeq (sExpr (mBm appM (mV 0) (mCons (mTup (mCons (mV 1) (mCons (mV 2) (mCons (mV 3) (mCons (mV 4) (mNil)))))) (mNil))))
    (sRet (mC .non))))
def d__law_added : List Val → Mu → R Val := runM 5 6 m__law_added
section
variable {P : Program} {w : World} {K : PySem.W.Frag} {mg : Str → Option Value} {base : Heap}
theorem sm__law_added : FnScope ["_law_regs", "_law_n", "_law_thing", "_law_label", "_law_term", "_law_reg"] ["_law_regs", "_law_n", "_law_thing", "_law_label", "_law_term"] (defScope s__law_added) := ⟨rfl, rfl, rfl, by decide +kernel, rfl, by decide +kernel, by decide +kernel⟩
theorem bm__law_added (T : Tx K mg) : Binds K (fdAt K (gA "_law_added" K)) ["_law_regs", "_law_n", "_law_thing", "_law_label", "_law_term"] [] := FunD.bindsN T.f__law_added fun _ _ _ _ _ _ us hl => match us, hl with | [_, _, _, _, _], _ => rfl
theorem okm__law_added (T : Tx K mg) : FnG P w K mg base CX0 2 (gA "_law_added" K) (fdAt K (gA "_law_added" K)) ["_law_regs", "_law_n", "_law_thing", "_law_label", "_law_term"] (spM K 5 d__law_added) := by
  refine okM T.f__law_added sm__law_added rfl rfl fun cdv A outer s H hg hr => ?_
  have hu := hr.units
  have hu1 := hu_of hr
  have hu2 := hr.units1
  exact pmss_cons (pms_if (pmt_cmp (c_ne hu) (pm_call (okm__law_key T) hg (hr.mono (by decide)) (by rfl) T.g__law_key T.f__law_key.kp (bm__law_key T) (pma_cons (pm_var (pv 0)) (pma_cons (pm_var (pv 1)) (pma_cons (pm_var (pv 2)) (pma_nil))))) (pm_lst (pma_nil))) (pmss_one (pms_ret (pm_lst (pma_cons (pm_str) (pma_cons (pm_var (pv 1)) (pma_nil)))))) (pmss_nil))
      (pmss_cons (pms_if (pmt_cmp (c_in hu2) (pm_var (pv 3)) (pm_lc (own := [("_law_reg", 5)]) rfl sm__law_added.nd (pmi_seq (pm_var (pv 0))) (blkOk_by (N := ["_law_regs", "_law_n", "_law_thing", "_law_label", "_law_term", "_law_reg"]) (sc := defScope s__law_added) (by decide +kernel)) (fun _ _ _ _ _ => pmg_name (i := 5) sm__law_added.nd rfl (by first | exact Or.inl rfl | exact Or.inr rfl)) (fun _ _ _ _ _ => pmts_nil) (fun _ _ _ _ _ => pm_ix (pm_var (pv 5)) (pm_int)))) (pmss_one (pms_ret (pm_lst (pma_cons (pm_str) (pma_cons (pm_var (pv 3)) (pma_nil)))))) (pmss_nil))
      (pmss_cons (pms_expr (pm_bmL PySem.F.slot_list_append PySem.F.type_list_append mt_append p_append (pm_var (pv 0)) (pma_cons (pm_tup (pma_cons (pm_var (pv 1)) (pma_cons (pm_var (pv 2)) (pma_cons (pm_var (pv 3)) (pma_cons (pm_var (pv 4)) (pma_nil)))))) (pma_nil))))
      (pmss_one (pms_ret (pm_non)))))
end
def m__law_done : MS :=
    sSeq (sAsg (tgT [4, 5]) (mTup (mCons (mCall 2 d__law_take (mCons (mV 0) (mCons (mC (.int 2)) (mNil)))) (mCons (mCall 2 d__law_take (mCons (mV 0) (mCons (mC (.int 6)) (mNil)))) (mNil)))))
    (sSeq (sAsg (tgT [6, 7, 8]) (mTup (mCons (mCall 2 d__law_take (mCons (mV 0) (mCons (mC (.int 6)) (mNil)))) (mCons (mCall 2 d__law_take (mCons (mV 0) (mCons (mC (.int 7)) (mNil)))) (mCons (mCall 2 d__law_of (mCons (mV 0) (mCons (mLst (mCons (mC (.str "level")) (mCons (mC (.str "edge")) (mCons (mC (.str "once")) (mNil))))) (mNil)))) (mNil))))))
    (sSeq (sSet 9 (mDm getDM (mOp getM (mV 2) (mV 4)) (mV 5)))
    (sSeq (sIf (mTest (mOp isM' (mV 9) (mC .non))) (sRet (mLst (mCons (mC .non) (mCons (mC .non) (mNil))))) (sNil))
    (sSeq (sSet 10 (mCall 3 d__law_key (mCons (mV 3) (mCons (mV 5) (mCons (mV 9) (mNil))))))
    (sSeq (sIf (mTest (mOp ltM (mV 6) (mC (.int 3)))) (sRet (mLst (mCons (mOut hs__law_outcome (mMethK (addM') 4 1 (fun xs zs => xs ++ (zs ++ [])) (mV 1) (mCons (mV 4) (mCons (mC (.int 7)) (mCons (mV 5) (mCons (mV 7) (mNil))))) (mCons (mV 8) (mNil)))) (mCons (mCall 5 d__law_added (mCons (mV 3) (mCons (mV 5) (mCons (mV 9) (mCons (mV 7) (mCons (mV 8) (mNil))))))) (mNil))))) (sNil))
    (sSeq (sIf (mTest (mOp ltM (mV 6) (mC (.int 5)))) (sSeq (sIf (mTest (mOp eqM (mV 10) (mLst (mNil)))) (sRet (mLst (mCons (mOut hs__law_outcome (mMeth (remM) ([]) (mV 1) (mCons (mV 4) (mCons (mC (.int 7)) (mCons (mV 5) (mNil)))))) (mCons (mLst (mCons (mC (.str "not registered")) (mCons (mV 5) (mNil)))) (mNil))))) (sNil))
    (sSeq (sExpr (mBm popM (mV 3) (mCons (mOp getM (mV 10) (mC (.int 0))) (mNil))))
    (sRet (mLst (mCons (mOut hs__law_outcome (mMeth (remM) ([]) (mV 1) (mCons (mV 4) (mCons (mC (.int 7)) (mCons (mV 5) (mNil)))))) (mCons (mC .non) (mNil))))))) (sNil))
    (sSeq (sIf (mTest (mOp eqM (mV 10) (mLst (mNil)))) (sRet (mLst (mCons (mOut hs__law_outcome (mMethK (chgM) 3 1 (fun xs zs => xs ++ zs) (mV 1) (mCons (mV 4) (mCons (mC (.int 7)) (mCons (mV 5) (mNil)))) (mCons (mV 8) (mNil)))) (mCons (mLst (mCons (mC (.str "not registered")) (mCons (mV 5) (mNil)))) (mNil))))) (sNil))
    (sSeq (sSto stoM (mV 3) (mOp getM (mV 10) (mC (.int 0))) (mOp addM (mSl (mOp getM (mV 3) (mOp getM (mV 10) (mC (.int 0)))) (mP0) (mP (mC (.int 3)))) (mTup (mCons (mV 8) (mNil)))))
    (sRet (mLst (mCons (mOut hs__law_outcome (mMethK (chgM) 2 2 (fun xs zs => xs ++ zs.reverse) (mV 1) (mCons (mV 4) (mCons (mC (.int 7)) (mNil))) (mCons (mV 8) (mCons (mV 5) (mNil))))) (mCons (mC .non) (mNil)))))))))))))
def d__law_done : List Val → Mu → R Val := runM 4 11 m__law_done
section
variable {P : Program} {w : World} {K : PySem.W.Frag} {mg : Str → Option Value} {base : Heap}
theorem sm__law_done : FnScope ["_law_bag_here", "_law_box", "_law_tables", "_law_regs", "_law_p", "_law_n", "_law_way", "_law_label", "_law_term", "_law_thing", "_law_found"] ["_law_bag_here", "_law_box", "_law_tables", "_law_regs"] (defScope s__law_done) := ⟨rfl, rfl, rfl, by decide +kernel, rfl, by decide +kernel, by decide +kernel⟩
theorem bm__law_done (T : Tx K mg) : Binds K (fdAt K (gA "_law_done" K)) ["_law_bag_here", "_law_box", "_law_tables", "_law_regs"] [] := FunD.bindsN T.f__law_done fun _ _ _ _ _ _ us hl => match us, hl with | [_, _, _, _], _ => rfl
theorem okm__law_done (T : Tx K mg) (B : TBk K mg base) : FnG P w K mg base CX0 10 (gA "_law_done" K) (fdAt K (gA "_law_done" K)) ["_law_bag_here", "_law_box", "_law_tables", "_law_regs"] (spM K 4 d__law_done) := by
  refine okMc T.f__law_done sm__law_done rfl rfl fun cdv A outer s H hcd hg hr => ?_
  have hu := hr.units
  have hu1 := hu_of hr
  have hu2 := hr.units1
  exact pmss_cons (pms_asg (pm_tup (pma_cons (pm_call (okm__law_take T) hg (hr.mono (by decide)) (by rfl) T.g__law_take T.f__law_take.kp (bm__law_take T) (pma_cons (pm_var (pv 0)) (pma_cons (pm_int) (pma_nil)))) (pma_cons (pm_call (okm__law_take T) hg (hr.mono (by decide)) (by rfl) T.g__law_take T.f__law_take.kp (bm__law_take T) (pma_cons (pm_var (pv 0)) (pma_cons (pm_int) (pma_nil)))) (pma_nil)))) (pmg_tup rfl (pmgs_cons (i := 4) sm__law_done.nd rfl (by first | exact Or.inl rfl | exact Or.inr rfl) (pmgs_cons (i := 5) sm__law_done.nd rfl (by first | exact Or.inl rfl | exact Or.inr rfl) (pmgs_nil)))))
      (pmss_cons (pms_asg (pm_tup (pma_cons (pm_call (okm__law_take T) hg (hr.mono (by decide)) (by rfl) T.g__law_take T.f__law_take.kp (bm__law_take T) (pma_cons (pm_var (pv 0)) (pma_cons (pm_int) (pma_nil)))) (pma_cons (pm_call (okm__law_take T) hg (hr.mono (by decide)) (by rfl) T.g__law_take T.f__law_take.kp (bm__law_take T) (pma_cons (pm_var (pv 0)) (pma_cons (pm_int) (pma_nil)))) (pma_cons (pm_call (okm__law_of T) hg (hr.mono (by decide)) (by rfl) T.g__law_of T.f__law_of.kp (bm__law_of T) (pma_cons (pm_var (pv 0)) (pma_cons (pm_lst (pma_cons (pm_str) (pma_cons (pm_str) (pma_cons (pm_str) (pma_nil))))) (pma_nil)))) (pma_nil))))) (pmg_tup rfl (pmgs_cons (i := 6) sm__law_done.nd rfl (by first | exact Or.inl rfl | exact Or.inr rfl) (pmgs_cons (i := 7) sm__law_done.nd rfl (by first | exact Or.inl rfl | exact Or.inr rfl) (pmgs_cons (i := 8) sm__law_done.nd rfl (by first | exact Or.inl rfl | exact Or.inr rfl) (pmgs_nil))))))
      (pmss_cons (pms_set (i := 9) sm__law_done.nd rfl (by first | exact Or.inl rfl | exact Or.inr rfl) (pm_dget1 hu1 (pm_ix (pm_var (pv 2)) (pm_var (pv 4))) (pm_var (pv 5))))
      (pmss_cons (pms_if (pmt_cmp c_is (pm_var (pv 9)) (pm_non)) (pmss_one (pms_ret (pm_lst (pma_cons (pm_non) (pma_cons (pm_non) (pma_nil)))))) (pmss_nil))
      (pmss_cons (pms_set (i := 10) sm__law_done.nd rfl (by first | exact Or.inl rfl | exact Or.inr rfl) (pm_call (okm__law_key T) hg (hr.mono (by decide)) (by rfl) T.g__law_key T.f__law_key.kp (bm__law_key T) (pma_cons (pm_var (pv 3)) (pma_cons (pm_var (pv 5)) (pma_cons (pm_var (pv 9)) (pma_nil))))))
      (pmss_cons (pms_if (pmt_cmp c_lt (pm_var (pv 6)) (pm_int)) (pmss_one (pms_ret (pm_lst (pma_cons (pm_lam (k := 6) T.f__law_outcome (bm__law_outcome T) (by rfl) T.g__law_outcome sm__law_outcome rfl (Or.inl rfl) (fun cdv => og__law_outcome T cdv) (B "_law_done" (by decide)) hcd (tb_mem (by decide)) (tb_one (by decide)) (hr.mono (by decide)) (lamS_by (sc := defScope s__law_done) (by decide +kernel)) (fun A outer s H E f c' hr => pm_methN (n := 4) (ks := ["word"]) (gM := fun xs zs => xs ++ (zs ++ [])) (pm_var (pv 1)) T.c_System T.m_System_add (ok_add T) (hr.mono (by decide)) (b_addW T).choose_spec (passes_call (takes_of rfl rfl rfl rfl) (fun _ _ _ _ h => h)) s_add (fun _ _ _ _ _ _ _ _ r1 r2 => ⟨_, rfl, r1.app (r2.app .nil)⟩) (pma_cons (pm_var (pv 4)) (pma_cons (pm_int) (pma_cons (pm_var (pv 5)) (pma_cons (pm_var (pv 7)) (pma_nil))))) (pmk_cons (pm_var (pv 8)) (pmk_nil)))) (pma_cons (pm_call (okm__law_added T) hg (hr.mono (by decide)) (by rfl) T.g__law_added T.f__law_added.kp (bm__law_added T) (pma_cons (pm_var (pv 3)) (pma_cons (pm_var (pv 5)) (pma_cons (pm_var (pv 9)) (pma_cons (pm_var (pv 7)) (pma_cons (pm_var (pv 8)) (pma_nil))))))) (pma_nil)))))) (pmss_nil))
      (pmss_cons (pms_if (pmt_cmp c_lt (pm_var (pv 6)) (pm_int)) (pmss_cons (pms_if (pmt_cmp (c_eq hu) (pm_var (pv 10)) (pm_lst (pma_nil))) (pmss_one (pms_ret (pm_lst (pma_cons (pm_lam (k := 7) T.f__law_outcome (bm__law_outcome T) (by rfl) T.g__law_outcome sm__law_outcome rfl (Or.inl rfl) (fun cdv => og__law_outcome T cdv) (B "_law_done" (by decide)) hcd (tb_mem (by decide)) (tb_one (by decide)) (hr.mono (by decide)) (lamS_by (sc := defScope s__law_done) (by decide +kernel)) (fun A outer s H E f c' hr => pm_meth (dM := []) (pm_var (pv 1)) T.c_System T.m_System_remove (ok_remove T) (hr.mono (by decide)) (b_remove T) .nil (passes_call (takes_of rfl rfl rfl rfl) (fun _ _ _ _ h => h)) s_rem (fun _ _ _ => .nil) (pma_cons (pm_var (pv 4)) (pma_cons (pm_int) (pma_cons (pm_var (pv 5)) (pma_nil)))))) (pma_cons (pm_lst (pma_cons (pm_str) (pma_cons (pm_var (pv 5)) (pma_nil)))) (pma_nil)))))) (pmss_nil))
      (pmss_cons (pms_expr (pm_bmL PySem.F.slot_list_pop PySem.F.type_list_pop mt_popAt p_popAt (pm_var (pv 3)) (pma_cons (pm_ix (pm_var (pv 10)) (pm_int)) (pma_nil))))
      (pmss_one (pms_ret (pm_lst (pma_cons (pm_lam (k := 7) T.f__law_outcome (bm__law_outcome T) (by rfl) T.g__law_outcome sm__law_outcome rfl (Or.inl rfl) (fun cdv => og__law_outcome T cdv) (B "_law_done" (by decide)) hcd (tb_mem (by decide)) (tb_one (by decide)) (hr.mono (by decide)) (lamS_by (sc := defScope s__law_done) (by decide +kernel)) (fun A outer s H E f c' hr => pm_meth (dM := []) (pm_var (pv 1)) T.c_System T.m_System_remove (ok_remove T) (hr.mono (by decide)) (b_remove T) .nil (passes_call (takes_of rfl rfl rfl rfl) (fun _ _ _ _ h => h)) s_rem (fun _ _ _ => .nil) (pma_cons (pm_var (pv 4)) (pma_cons (pm_int) (pma_cons (pm_var (pv 5)) (pma_nil)))))) (pma_cons (pm_non) (pma_nil)))))))) (pmss_nil))
      (pmss_cons (pms_if (pmt_cmp (c_eq hu) (pm_var (pv 10)) (pm_lst (pma_nil))) (pmss_one (pms_ret (pm_lst (pma_cons (pm_lam (k := 7) T.f__law_outcome (bm__law_outcome T) (by rfl) T.g__law_outcome sm__law_outcome rfl (Or.inl rfl) (fun cdv => og__law_outcome T cdv) (B "_law_done" (by decide)) hcd (tb_mem (by decide)) (tb_one (by decide)) (hr.mono (by decide)) (lamS_by (sc := defScope s__law_done) (by decide +kernel)) (fun A outer s H E f c' hr => pm_methN (n := 3) (ks := ["word"]) (gM := fun xs zs => xs ++ zs) (pm_var (pv 1)) T.c_System T.m_System_change (ok_change T) (hr.mono (by decide)) (b_changeW T) (passes_call (takes_of rfl rfl rfl rfl) (fun _ _ _ _ h => h)) s_chg (fun _ _ _ _ _ _ _ _ r1 r2 => ⟨_, rfl, r1.app r2⟩) (pma_cons (pm_var (pv 4)) (pma_cons (pm_int) (pma_cons (pm_var (pv 5)) (pma_nil)))) (pmk_cons (pm_var (pv 8)) (pmk_nil)))) (pma_cons (pm_lst (pma_cons (pm_str) (pma_cons (pm_var (pv 5)) (pma_nil)))) (pma_nil)))))) (pmss_nil))
      (pmss_cons (pms_sto (pm_bin b_add (pm_slice (pm_ix (pm_var (pv 3)) (pm_ix (pm_var (pv 10)) (pm_int))) (pmo_none) (pmo_some (pm_int))) (pm_tup (pma_cons (pm_var (pv 8)) (pma_nil)))) (pm_var (pv 3)) (pm_ix (pm_var (pv 10)) (pm_int)))
      (pmss_one (pms_ret (pm_lst (pma_cons (pm_lam (k := 7) T.f__law_outcome (bm__law_outcome T) (by rfl) T.g__law_outcome sm__law_outcome rfl (Or.inl rfl) (fun cdv => og__law_outcome T cdv) (B "_law_done" (by decide)) hcd (tb_mem (by decide)) (tb_one (by decide)) (hr.mono (by decide)) (lamS_by (sc := defScope s__law_done) (by decide +kernel)) (fun A outer s H E f c' hr => pm_methN (n := 2) (ks := ["word", "number"]) (gM := fun xs zs => xs ++ zs.reverse) (pm_var (pv 1)) T.c_System T.m_System_change (ok_change T) (hr.mono (by decide)) (b_changeS T) (passes_call (takes_of rfl rfl rfl rfl) (fun _ _ _ _ h => h)) s_chg (fun _ _ _ _ _ _ _ _ r1 r2 => ⟨_, rfl, r1.app r2.rev⟩) (pma_cons (pm_var (pv 4)) (pma_cons (pm_int) (pma_nil))) (pmk_cons (pm_var (pv 8)) (pmk_cons (pm_var (pv 5)) (pmk_nil))))) (pma_cons (pm_non) (pma_nil))))))))))))))
end
def m__law_turned : MS :=
    sSeq (sPar3 3 4 5 (mCons (mCall 2 d__law_take (mCons (mV 0) (mCons (mC (.int 2)) (mNil)))) (mCons (mOp addM (mC (.int 3)) (mCall 2 d__law_take (mCons (mV 0) (mCons (mC (.int 3)) (mNil))))) (mCons (mCall 2 d__law_take (mCons (mV 0) (mCons (mC (.int 3)) (mNil)))) (mNil)))))
    (sSeq (sSet 6 (mOp getM (mV 2) (mV 3)))
    (sIf (mAnd (mTest (mOp eqM (mCall 2 d__law_take (mCons (mV 0) (mCons (mC (.int 3)) (mNil)))) (mC (.int 0)))) (mTest (mOp inM (mV 4) (mV 6)))) (sSeq (sExpr (mMeth (cloM) ([]) (mV 1) (mCons (mV 3) (mCons (mV 4) (mNil)))))
    (sExpr (mDm popDM (mV 6) (mV 4)))) (sIf (mTest (mOp inM (mV 5) (mV 6))) (sSeq (sExpr (mMeth (copM) ([]) (mV 1) (mCons (mV 3) (mCons (mV 5) (mCons (mV 4) (mNil))))))
    (sSto dstoM (mV 6) (mV 4) (mOp dgetM (mV 6) (mV 5)))) (sNil))))
def d__law_turned : List Val → Mu → R Val := runM 3 7 m__law_turned
section
variable {P : Program} {w : World} {K : PySem.W.Frag} {mg : Str → Option Value} {base : Heap}
theorem sm__law_turned : FnScope ["_law_bag_here", "_law_box", "_law_tables", "_law_p", "_law_n", "_law_source", "_law_here"] ["_law_bag_here", "_law_box", "_law_tables"] (defScope s__law_turned) := ⟨rfl, rfl, rfl, by decide +kernel, rfl, by decide +kernel, by decide +kernel⟩
theorem bm__law_turned (T : Tx K mg) : Binds K (fdAt K (gA "_law_turned" K)) ["_law_bag_here", "_law_box", "_law_tables"] [] := FunD.bindsN T.f__law_turned fun _ _ _ _ _ _ us hl => match us, hl with | [_, _, _], _ => rfl
theorem okm__law_turned (T : Tx K mg) : FnG P w K mg base CX0 11 (gA "_law_turned" K) (fdAt K (gA "_law_turned" K)) ["_law_bag_here", "_law_box", "_law_tables"] (spM K 3 d__law_turned) := by
  refine okM T.f__law_turned sm__law_turned rfl rfl fun cdv A outer s H hg hr => ?_
  have hu := hr.units
  have hu1 := hu_of hr
  have hu2 := hr.units1
  exact pmss_cons (pms_par3 (i := 3) (j := 4) (l := 5) rfl sm__law_turned.nd rfl rfl rfl (by decide) (by decide) (by decide) rfl rfl rfl (pma_cons (pm_call (okm__law_take T) hg (hr.mono (by decide)) (by rfl) T.g__law_take T.f__law_take.kp (bm__law_take T) (pma_cons (pm_var (pv 0)) (pma_cons (pm_int) (pma_nil)))) (pma_cons (pm_bin b_add (pm_int) (pm_call (okm__law_take T) hg (hr.mono (by decide)) (by rfl) T.g__law_take T.f__law_take.kp (bm__law_take T) (pma_cons (pm_var (pv 0)) (pma_cons (pm_int) (pma_nil))))) (pma_cons (pm_call (okm__law_take T) hg (hr.mono (by decide)) (by rfl) T.g__law_take T.f__law_take.kp (bm__law_take T) (pma_cons (pm_var (pv 0)) (pma_cons (pm_int) (pma_nil)))) (pma_nil)))) rfl)
      (pmss_cons (pms_set (i := 6) sm__law_turned.nd rfl (by first | exact Or.inl rfl | exact Or.inr rfl) (pm_ix (pm_var (pv 2)) (pm_var (pv 3))))
      (pmss_one (pms_if (PMW.t (pmw_and (pmt_cmp (c_eq hu) (pm_call (okm__law_take T) hg (hr.mono (by decide)) (by rfl) T.g__law_take T.f__law_take.kp (bm__law_take T) (pma_cons (pm_var (pv 0)) (pma_cons (pm_int) (pma_nil)))) (pm_int)) (pmw_and1 (pmt_cmp (c_in hu2) (pm_var (pv 4)) (pm_var (pv 6)))))) (pmss_cons (pms_expr (pm_meth (dM := []) (pm_var (pv 1)) T.c_System T.m_System_close (ok_close T) (hr.mono (by decide)) (b_close T) .nil passL s_clo (fun _ _ _ => .nil) (pma_cons (pm_var (pv 3)) (pma_cons (pm_var (pv 4)) (pma_nil)))))
      (pmss_one (pms_expr (pm_dpop (pm_var (pv 6)) (pm_var (pv 4)))))) (pmss_one (pms_if (pmt_cmp (c_in hu2) (pm_var (pv 5)) (pm_var (pv 6))) (pmss_cons (pms_expr (pm_meth (dM := []) (pm_var (pv 1)) T.c_System T.m_System_copy (ok_copy T) (hr.mono (by decide)) (b_copyTo T).choose_spec.2 (b_copyTo T).choose_spec.1 passL s_cop (fun _ _ _ => .nil) (pma_cons (pm_var (pv 3)) (pma_cons (pm_var (pv 5)) (pma_cons (pm_var (pv 4)) (pma_nil))))))
      (pmss_one (pms_dsto hu1 (pm_dget hu1 (pm_var (pv 6)) (pm_var (pv 5))) (pm_var (pv 6)) (pm_var (pv 4))))) (pmss_nil))))))
end

def m_law_1 : MS :=
    sExpr (mMeth (newM (.src 0 false)) ([]) (mV 3) (mCons (mC (.int 0)) (mNil)))
def m_law_2 : MS :=
    sSeq (sExpr (mCall 3 d__law_turned (mCons (mV 2) (mCons (mV 3) (mCons (mV 6) (mNil))))))
    (sSeq (sUnp [8, 9] (mCall 4 d__law_done (mCons (mV 2) (mCons (mV 3) (mCons (mV 6) (mCons (mV 4) (mNil)))))))
    (sSeq (sIf (mTest (mOp neSM (mFn reprM (mCons (mV 8) (mNil))) (mFn reprM (mCons (mV 9) (mNil))))) (sRet (mC (.bl false))) (sNil))
    (sSeq (sSet 10 (mLc (iSeq (mV 4)) [11, 5, 12, 13] (tgT [11, 5, 12, 13]) (mYes) (mTup (mCons (mTup (mCons (mC (.int 0)) (mCons (mC (.int 7)) (mNil)))) (mCons (mV 12) (mCons (mV 11) (mCons (mTup (mCons (mC (.int 0)) (mCons (mV 5) (mNil)))) (mCons (mV 13) (mCons (mC (.bl true)) (mNil))))))))))
    (sIf (mTest (mOp neM (mMeth (regM) [] (mV 3) mNil) (mV 10))) (sRet (mC (.bl false))) (sNil)))))
def m_law_3 : MS :=
    sSeq (sSet 2 (mCall 2 d__law_bag (mCons (mV 0) (mCons (mV 1) (mNil)))))
    (sSeq (sPar 3 4 (mCons (mMakeK makM 1 (fun zs => zs ++ [.int 8]) (mCons (mC (.int 2)) (mNil))) (mCons (mLst (mNil)) (mNil))))
    (sSeq (sFor (iRng1 (mCons (mC (.int 3)) (mNil))) (tgN 5) (m_law_1))
    (sSeq (sExpr (mMeth (copM) ([]) (mV 3) (mCons (mC (.int 0)) (mCons (mMeth (newM (.set [] [])) ([]) (mV 3) (mCons (mC (.int 0)) (mNil))) (mCons (mC (.int 7)) (mNil))))))
    (sSeq (sExpr (mMeth (cloM) ([]) (mV 3) (mCons (mC (.int 0)) (mCons (mC (.int 3)) (mNil)))))
    (sSeq (sExpr (mMeth (forM) ([]) (mV 3) (mCons (mC (.int 0)) (mNil))))
    (sSeq (sSet 6 (mLst (mCons (mDisp [(mC (.int 0), mC (.int 0)), (mC (.int 1), mC (.int 1)), (mC (.int 2), mC (.int 2))]) (mCons (mDisp [(mC (.int 0), mC (.int 0)), (mC (.int 1), mC (.int 1)), (mC (.int 2), mC (.int 2))]) (mNil)))))
    (sFor (iRng1 (mCons (mOp addM (mC (.int 12)) (mCall 2 d__law_take (mCons (mV 2) (mCons (mC (.int 29)) (mNil))))) (mNil))) (tgN 7) (m_law_2))))))))
def m_law : MS :=
    sSeq (sFor (iRng1 (mCons (mFn maxM (mCons (mC (.int 1)) (mCons (mFn minM (mCons (mC (.int 4)) (mCons (mFn lenM (mCons (mV 0) (mNil))) (mNil)))) (mNil)))) (mNil))) (tgN 1) (m_law_3))
    (sRet (mC (.bl true)))
def d_law : List Val → Mu → R Val := runM 1 14 m_law
section
variable {P : Program} {w : World} {K : PySem.W.Frag} {mg : Str → Option Value} {base : Heap}
theorem sm_law : FnScope ["_law_script", "_law_at", "_law_bag_here", "_law_box", "_law_regs", "_law_source", "_law_tables", "_law_turn", "_law_found", "_law_due", "_law_told", "_law_n", "_law_label", "_law_term"] ["_law_script"] (defScope s_law) := ⟨rfl, rfl, rfl, by decide +kernel, rfl, by decide +kernel, by decide +kernel⟩
theorem okm_law (T : Tx K mg) (B : TBk K mg base) : FnG P w K mg base CX0 12 (gA "law" K) (fdAt K (gA "law" K)) ["_law_script"] (spM K 1 d_law) := by
  refine okM T.f_law sm_law rfl rfl fun cdv A outer s H hg hr => ?_
  have hu := hr.units
  have hu1 := hu_of hr
  have hu2 := hr.units1
  exact pmss_cons (pms_for PassesOwn.never rfl (pmi_rng1 (by rfl) T.free_range (pma_cons (pm_callB (call_max2 rfl) p_max (by rfl) T.free_max (by decide +kernel) (pma_cons (pm_int) (pma_cons (pm_callB (call_min2 rfl) p_min (by rfl) T.free_min (by decide +kernel) (pma_cons (pm_int) (pma_cons (pm_callB call_len p_len (by rfl) T.free_len PySem.boot_len (pma_cons (pm_var (pv 0)) (pma_nil))) (pma_nil)))) (pma_nil)))) (pma_nil))) (pmg_name (i := 1) sm_law.nd rfl (by first | exact Or.inl rfl | exact Or.inr rfl)) (pmss_cons (pms_set (i := 2) sm_law.nd rfl (by first | exact Or.inl rfl | exact Or.inr rfl) (pm_call (okm__law_bag T) hg (hr.mono (by decide)) (by rfl) T.g__law_bag T.f__law_bag.kp (bm__law_bag T) (pma_cons (pm_var (pv 0)) (pma_cons (pm_var (pv 1)) (pma_nil)))))
      (pmss_cons (pms_par (i := 3) (j := 4) rfl sm_law.nd rfl rfl (by decide) rfl rfl (pma_cons (pm_sysK T (hr.mono (by decide)) (by rfl) passL (ks := ["processes"]) (gM := fun zs => zs ++ [.int 8]) (b_SysP T).choose_spec (fun ad b H a zs ws r _ => ⟨_, rfl, r.app (.cons (.int _) .nil)⟩) (pmk_cons (pm_int) (pmk_nil))) (pma_cons (pm_lst (pma_nil)) (pma_nil))) rfl)
      (pmss_cons (pms_for PassesOwn.never rfl (pmi_rng1 (by rfl) T.free_range (pma_cons (pm_int) (pma_nil))) (pmg_name (i := 5) sm_law.nd rfl (by first | exact Or.inl rfl | exact Or.inr rfl)) (pmss_one (pms_expr (pm_meth (dM := []) (pm_var (pv 3)) T.c_System T.m_System_new_source (ok_new_source T) (hr.mono (by decide)) (b_new_source T) .nil passL (s_new (tv := .src 0 false) (show (0 : Int) ≤ 0 by decide)) (fun _ _ _ => .nil) (pma_cons (pm_int) (pma_nil))))))
      (pmss_cons (pms_expr (pm_meth (dM := []) (pm_var (pv 3)) T.c_System T.m_System_copy (ok_copy T) (hr.mono (by decide)) (b_copyTo T).choose_spec.2 (b_copyTo T).choose_spec.1 passL s_cop (fun _ _ _ => .nil) (pma_cons (pm_int) (pma_cons (pm_meth (dM := []) (pm_var (pv 3)) T.c_System T.m_System_new_set (ok_new_set T) (hr.mono (by decide)) (b_new_set T) .nil passL (s_new (tv := .set [] []) ⟨rfl, rfl⟩) (fun _ _ _ => .nil) (pma_cons (pm_int) (pma_nil))) (pma_cons (pm_int) (pma_nil))))))
      (pmss_cons (pms_expr (pm_meth (dM := []) (pm_var (pv 3)) T.c_System T.m_System_close (ok_close T) (hr.mono (by decide)) (b_close T) .nil passL s_clo (fun _ _ _ => .nil) (pma_cons (pm_int) (pma_cons (pm_int) (pma_nil)))))
      (pmss_cons (pms_expr (pm_meth (dM := []) (pm_var (pv 3)) T.c_System T.m_System_fork (ok_fork T) (hr.mono (by decide)) (b_fork T) .nil passL s_for (fun _ _ _ => .nil) (pma_cons (pm_int) (pma_nil))))
      (pmss_cons (pms_set (i := 6) sm_law.nd rfl (by first | exact Or.inl rfl | exact Or.inr rfl) (pm_lst (pma_cons (pm_disp (pmp_cons (pm_int) (pm_int) (pmp_cons (pm_int) (pm_int) (pmp_cons (pm_int) (pm_int) (pmp_nil))))) (pma_cons (pm_disp (pmp_cons (pm_int) (pm_int) (pmp_cons (pm_int) (pm_int) (pmp_cons (pm_int) (pm_int) (pmp_nil))))) (pma_nil)))))
      (pmss_one (pms_for PassesOwn.never rfl (pmi_rng1 (by rfl) T.free_range (pma_cons (pm_bin b_add (pm_int) (pm_call (okm__law_take T) hg (hr.mono (by decide)) (by rfl) T.g__law_take T.f__law_take.kp (bm__law_take T) (pma_cons (pm_var (pv 2)) (pma_cons (pm_int) (pma_nil))))) (pma_nil))) (pmg_name (i := 7) sm_law.nd rfl (by first | exact Or.inl rfl | exact Or.inr rfl)) (pmss_cons (pms_expr (pm_call (okm__law_turned T) hg (hr.mono (by decide)) (by rfl) T.g__law_turned T.f__law_turned.kp (bm__law_turned T) (pma_cons (pm_var (pv 2)) (pma_cons (pm_var (pv 3)) (pma_cons (pm_var (pv 6)) (pma_nil))))))
      (pmss_cons (pms_unp rfl (pm_call (okm__law_done T B) hg (hr.mono (by decide)) (by rfl) T.g__law_done T.f__law_done.kp (bm__law_done T) (pma_cons (pm_var (pv 2)) (pma_cons (pm_var (pv 3)) (pma_cons (pm_var (pv 6)) (pma_cons (pm_var (pv 4)) (pma_nil)))))) (pmgs_cons (i := 8) sm_law.nd rfl (by first | exact Or.inl rfl | exact Or.inr rfl) (pmgs_cons (i := 9) sm_law.nd rfl (by first | exact Or.inl rfl | exact Or.inr rfl) (pmgs_nil))))
      (pmss_cons (pms_if (pmt_cmp c_neS (pm_callB (call_repr hg (hu_repr hr)) p_repr (by rfl) T.free_repr (by decide +kernel) (pma_cons (pm_var (pv 8)) (pma_nil))) (pm_callB (call_repr hg (hu_repr hr)) p_repr (by rfl) T.free_repr (by decide +kernel) (pma_cons (pm_var (pv 9)) (pma_nil)))) (pmss_one (pms_ret (pm_bl))) (pmss_nil))
      (pmss_cons (pms_setLc (i := 10) (own := [("_law_n", 11), ("_law_source", 5), ("_law_label", 12), ("_law_term", 13)]) rfl sm_law.nd rfl rfl (sw_true rfl rfl rfl (by decide +kernel)) (pmi_seq (pm_var (pv 4))) (blkOk_by (N := ["_law_script", "_law_at", "_law_bag_here", "_law_box", "_law_regs", "_law_source", "_law_tables", "_law_turn", "_law_found", "_law_due", "_law_told", "_law_n", "_law_label", "_law_term"]) (sc := defScope s_law) (by decide +kernel)) (fun _ _ _ _ _ => pmg_tup rfl (pmgs_cons (i := 11) sm_law.nd rfl (by first | exact Or.inl rfl | exact Or.inr rfl) (pmgs_cons (i := 5) sm_law.nd rfl (by first | exact Or.inl rfl | exact Or.inr rfl) (pmgs_cons (i := 12) sm_law.nd rfl (by first | exact Or.inl rfl | exact Or.inr rfl) (pmgs_cons (i := 13) sm_law.nd rfl (by first | exact Or.inl rfl | exact Or.inr rfl) (pmgs_nil)))))) (fun _ _ _ _ _ => pmts_nil) (fun _ _ _ _ _ => pm_tup (pma_cons (pm_tup (pma_cons (pm_int) (pma_cons (pm_int) (pma_nil)))) (pma_cons (pm_var (pv 12)) (pma_cons (pm_var (pv 11)) (pma_cons (pm_tup (pma_cons (pm_int) (pma_cons (pm_var (pv 5)) (pma_nil)))) (pma_cons (pm_var (pv 13)) (pma_cons (pm_bl) (pma_nil)))))))))
      (pmss_one (pms_if (pmt_cmp (c_ne hu) (pm_meth0 (pm_var (pv 3)) T.c_System T.m_System_registrations (ok_registrations T) (hr.mono (by decide)) (b_registrations T) pass0 s_reg) (pm_var (pv 10))) (pmss_one (pms_ret (pm_bl))) (pmss_nil)))))))))))))))))
      (pmss_one (pms_ret (pm_bl)))
end

/-! ### draws, plainly -/
theorem take_eq {μ : Mu} {b : Nat} (hb : Bag μ b) {n : Int} (h0 : 0 < n) (h1 : n < 1073741824) : ∃ k μ', d__law_take [.loc b, .int n] μ = .ok (.int k) μ' ∧ 0 ≤ k ∧ k < n ∧ Kee [b] μ μ' ∧ Bag μ' b ∧ μ'.nx = μ.nx := by
  obtain ⟨hlt, c, m, hb⟩ := hb
  have i0 : ∀ {x y : Val}, atI [x, y] 0 = some x := rfl
  have i1 : ∀ {x y : Val}, atI [x, y] 1 = some y := rfl
  have j0 : ixN 2 0 = some 0 := rfl
  have j1 : ixN 2 1 = some 1 := rfl
  unfold d__law_take runM m__law_take
  by_cases c0 : 0 < c
  · simp only [Wn.R.bind_ok, Wn.R.bind_no, Wn.R.cut_ok, Wn.R.cut_no, sThen_nx, sThen_rt, sThen_bk, sThen_ct, mC, mV, mNil, mCons, mTup, mLst, mOp, mUn, mFn, mMt, boolM, mTest, mAnd, mOr, mNot, mIf, mBl, mAndV, mOrV, mNotV, mAndT, mOrT, truM, List.isEmpty_cons, List.isEmpty_nil, addM, subM, mulM, modM, fdivM, powM, negM, ltM, leM, gtM, geM, cmpI, isM', isntM, isNon, getM, dgetM, slM, mSl, mP, mP0, lenM, listM, tupleM, minM, maxM, absM, intM, sortedM, mBm, lstOf, appM, popM, extM, idxM, remLM, sNil, sSeq, sSet, sExpr, sRet, sRetN, sIf, sBrk, sCnt, sPar, sPar3, sAsg, tgN, tgT, unp, stoM, dstoM, sSto, Wk.items, iSeq, iRng1, iRng2, iEnm, mCall, mMeth, sysOf, onSys, mMethK, mMake, mMakeK, makM, mYes, mListR1, mListR2, intBM, startV, seqOf, keyOf, List.getElem?_cons_zero, List.getElem?_cons_succ, List.getElem?_nil, List.set_cons_zero, List.set_cons_succ, List.map_cons, List.map_nil, List.length_cons, List.length_nil, List.cons_append, List.nil_append, List.append_nil, List.replicate, Nat.reduceAdd, Nat.reduceSub, Nat.reduceLeDiff, Nat.reduceLT, Nat.reduceEqDiff, Int.reduceLT, Int.reduceLE, Int.reduceNeg, Int.reducePow, ite_true, ite_false, if_true, if_false, reduceIte, Bool.false_eq_true, Bool.true_eq_false, Bool.not_true, Bool.not_false, and_self, and_true, true_and, Mu.put_same, Mu.new_same, Mu.put_nx, Mu.new_nx, Nat.zero_add, Nat.le_refl, Goes_nx, Gets_ok, Rets_nx, Rets_rt, CMul, CDiv, CPow, or_true, true_or, or_self, not_true, not_false_iff, mDm, dctV, popDM, getDM, mDisp, mPrs, kvOf, decide_false, decide_true, Int.reduceToNat, Nat.reducePow, Int.reduceAdd, Int.reduceSub, Int.reduceMul, hb, i0, j0, decide_eq_true c0, h0, h1]
    exact ⟨_, _, rfl, Int.emod_nonneg _ (by omega), Int.emod_lt_of_pos _ h0, Kee.put (by simp), ⟨hlt, _, _, Mu.put_same ..⟩, rfl⟩
  · simp only [Wn.R.bind_ok, Wn.R.bind_no, Wn.R.cut_ok, Wn.R.cut_no, sThen_nx, sThen_rt, sThen_bk, sThen_ct, mC, mV, mNil, mCons, mTup, mLst, mOp, mUn, mFn, mMt, boolM, mTest, mAnd, mOr, mNot, mIf, mBl, mAndV, mOrV, mNotV, mAndT, mOrT, truM, List.isEmpty_cons, List.isEmpty_nil, addM, subM, mulM, modM, fdivM, powM, negM, ltM, leM, gtM, geM, cmpI, isM', isntM, isNon, getM, dgetM, slM, mSl, mP, mP0, lenM, listM, tupleM, minM, maxM, absM, intM, sortedM, mBm, lstOf, appM, popM, extM, idxM, remLM, sNil, sSeq, sSet, sExpr, sRet, sRetN, sIf, sBrk, sCnt, sPar, sPar3, sAsg, tgN, tgT, unp, stoM, dstoM, sSto, Wk.items, iSeq, iRng1, iRng2, iEnm, mCall, mMeth, sysOf, onSys, mMethK, mMake, mMakeK, makM, mYes, mListR1, mListR2, intBM, startV, seqOf, keyOf, List.getElem?_cons_zero, List.getElem?_cons_succ, List.getElem?_nil, List.set_cons_zero, List.set_cons_succ, List.map_cons, List.map_nil, List.length_cons, List.length_nil, List.cons_append, List.nil_append, List.append_nil, List.replicate, Nat.reduceAdd, Nat.reduceSub, Nat.reduceLeDiff, Nat.reduceLT, Nat.reduceEqDiff, Int.reduceLT, Int.reduceLE, Int.reduceNeg, Int.reducePow, ite_true, ite_false, if_true, if_false, reduceIte, Bool.false_eq_true, Bool.true_eq_false, Bool.not_true, Bool.not_false, and_self, and_true, true_and, Mu.put_same, Mu.new_same, Mu.put_nx, Mu.new_nx, Nat.zero_add, Nat.le_refl, Goes_nx, Gets_ok, Rets_nx, Rets_rt, CMul, CDiv, CPow, or_true, true_or, or_self, not_true, not_false_iff, mDm, dctV, popDM, getDM, mDisp, mPrs, kvOf, decide_false, decide_true, Int.reduceToNat, Nat.reducePow, Int.reduceAdd, Int.reduceSub, Int.reduceMul, hb, i0, i1, j1, decide_eq_false c0, h0, h1]
    refine ⟨_, _, rfl, Int.emod_nonneg _ (by omega), Int.emod_lt_of_pos _ h0, Kee.put (by simp), ⟨hlt, _, _, Mu.put_same ..⟩, rfl⟩
theorem of_eq {μ : Mu} {b l : Nat} (hb : Bag μ b) {xs : List Val} (hl : seqOf μ l = some xs) (hll : l < μ.nx) (ne : l ≠ b) (h0 : 0 < xs.length) (h1 : xs.length < 1073741824) : ∃ x μ', d__law_of [.loc b, .loc l] μ = .ok x μ' ∧ x ∈ xs ∧ Kee [b] μ μ' ∧ Bag μ' b ∧ μ'.nx = μ.nx := by
  obtain ⟨k, μ', e, k0, k1, kp, bg, nx⟩ := take_eq hb (n := (xs.length : Nat)) (by omega) (by omega)
  have hl' : seqOf μ' l = some xs := by
    unfold seqOf at hl ⊢
    rw [kp.ob l hll (by simpa using ne)]
    exact hl
  have hlt : k.toNat < xs.length := by omega
  have ha : atI xs k = some xs[k.toNat] := by
    have z := atI_nat (List.getElem?_eq_getElem hlt)
    rw [show ((k.toNat : Nat) : Int) = k by omega] at z
    exact z
  refine ⟨xs[k.toNat], μ', ?_, List.getElem_mem hlt, kp, bg, nx⟩
  unfold seqOf at hl hl'
  unfold d__law_of runM m__law_of
  simp only [Wn.R.bind_ok, Wn.R.bind_no, Wn.R.cut_ok, Wn.R.cut_no, sThen_nx, sThen_rt, sThen_bk, sThen_ct, mC, mV, mNil, mCons, mTup, mLst, mOp, mUn, mFn, mMt, boolM, mTest, mAnd, mOr, mNot, mIf, mBl, mAndV, mOrV, mNotV, mAndT, mOrT, truM, List.isEmpty_cons, List.isEmpty_nil, addM, subM, mulM, modM, fdivM, powM, negM, ltM, leM, gtM, geM, cmpI, isM', isntM, isNon, getM, dgetM, slM, mSl, mP, mP0, lenM, listM, tupleM, minM, maxM, absM, intM, sortedM, mBm, lstOf, appM, popM, extM, idxM, remLM, sNil, sSeq, sSet, sExpr, sRet, sRetN, sIf, sBrk, sCnt, sPar, sPar3, sAsg, tgN, tgT, unp, stoM, dstoM, sSto, Wk.items, iSeq, iRng1, iRng2, iEnm, mCall, mMeth, sysOf, onSys, mMethK, mMake, mMakeK, makM, mYes, mListR1, mListR2, intBM, startV, seqOf, keyOf, List.getElem?_cons_zero, List.getElem?_cons_succ, List.getElem?_nil, List.set_cons_zero, List.set_cons_succ, List.map_cons, List.map_nil, List.length_cons, List.length_nil, List.cons_append, List.nil_append, List.append_nil, List.replicate, Nat.reduceAdd, Nat.reduceSub, Nat.reduceLeDiff, Nat.reduceLT, Nat.reduceEqDiff, Int.reduceLT, Int.reduceLE, Int.reduceNeg, Int.reducePow, ite_true, ite_false, if_true, if_false, reduceIte, Bool.false_eq_true, Bool.true_eq_false, Bool.not_true, Bool.not_false, and_self, and_true, true_and, Mu.put_same, Mu.new_same, Mu.put_nx, Mu.new_nx, Nat.zero_add, Nat.le_refl, Goes_nx, Gets_ok, Rets_nx, Rets_rt, CMul, CDiv, CPow, or_true, true_or, or_self, not_true, not_false_iff, mDm, dctV, popDM, getDM, mDisp, mPrs, kvOf, decide_false, decide_true, Int.reduceToNat, Nat.reducePow, Int.reduceAdd, Int.reduceSub, Int.reduceMul, hl, e, hl', ha]

theorem seqOf_keep {S : List Nat} {μ μ' : Mu} (k : Kee S μ μ') {n : Nat} (hn : n < μ.nx) (q : n ∉ S) : seqOf μ' n = seqOf μ n := by
  unfold seqOf
  rw [k.ob n hn q]
theorem seqOf_new (μ : Mu) (vs : List Val) : seqOf (μ.new (.lst vs)) μ.nx = some vs := by
  unfold seqOf
  rw [Mu.new_same]
theorem cut_ints (ns : List Int) (lo hi : Option Int) : cutG (ns.map Val.int) lo hi = (cutG ns lo hi).map Val.int := by
  unfold cutG
  rw [List.length_map, List.map_take, List.map_drop]
theorem enm_ints_get {l : List Int} {i : Nat} {v : Val} (h : (enmM (l.map Val.int))[i]? = some v) : ∃ y, v = .tup [.int (i : Nat), .int y] := by
  rw [enmM_get, List.getElem?_map] at h
  cases e : l[i]? with
  | none => rw [e] at h; cases h
  | some y => rw [e] at h; cases h; exact ⟨y, rfl⟩
theorem bag_eq {μ : Mu} {s : Nat} {ns : List Int} {i : Int} (hs : seqOf μ s = some (ns.map Val.int)) (hl : s < μ.nx) (hi : 0 ≤ i) : ∃ p μ', d__law_bag [.loc s, .int i] μ = .ok (.loc p) μ' ∧ Kee [] μ μ' ∧ Bag μ' p ∧ μ.nx ≤ p := by
  have hs0 := hs
  unfold seqOf at hs
  suffices h : Gets (d__law_bag [.loc s, .int i] μ) fun v μ' => ∃ p, v = .loc p ∧ Kee [] μ μ' ∧ Bag μ' p ∧ μ.nx ≤ p by
    obtain ⟨v, μ', e, p, rfl, q⟩ := h.ex
    exact ⟨p, μ', e, q⟩
  refine Gets.run rfl ?_
  have rest : ∀ cell blend : Int, Rets (sSeq (sFor (iEnm (mCons (mSl (mV 0) mP0 (mP (mC (.int 40)))) mNil)) (tgT [4, 5]) m__law_bag_1) (sRet (mLst (mCons (mIf (mTest (mOp geM (mFn absM (mCons (mV 2) mNil)) (mOp powM (mC (.int 10)) (mC (.int 18))))) (mFn absM (mCons (mV 2) mNil)) (mC (.int 0))) (mCons (mV 3) mNil)))) [some (.loc s), some (.int i), some (.int cell), some (.int blend), none, none] μ) fun v μ' => ∃ p, v = .loc p ∧ Kee [] μ μ' ∧ Bag μ' p ∧ μ.nx ≤ p := by
    intro cell blend
    unfold sSeq
    refine Rets.then ?_
    refine sFor_goes (k := .enm μ.nx) (μ1 := μ.new (.lst (cutG (ns.map Val.int) none (some 40)))) (vs := enmM ((cutG ns none (some 40)).map Val.int)) ?_ ?_ (fun _ ρ μ' => (∃ b v4 v5, ρ = [some (.loc s), some (.int i), some (.int cell), some (.int b), v4, v5]) ∧ μ' = μ.new (.lst (cutG (ns.map Val.int) none (some 40)))) ⟨⟨_, _, _, rfl⟩, rfl⟩ ?_ ?_ ?_
    · simp only [Wn.R.bind_ok, Wn.R.bind_no, Wn.R.cut_ok, Wn.R.cut_no, sThen_nx, sThen_rt, sThen_bk, sThen_ct, mC, mV, mNil, mCons, mTup, mLst, mOp, mUn, mFn, mMt, boolM, mTest, mAnd, mOr, mNot, mIf, mBl, mAndV, mOrV, mNotV, mAndT, mOrT, truM, List.isEmpty_cons, List.isEmpty_nil, addM, subM, mulM, modM, fdivM, powM, negM, ltM, leM, gtM, geM, cmpI, isM', isntM, isNon, getM, dgetM, slM, mSl, mP, mP0, lenM, listM, tupleM, minM, maxM, absM, intM, sortedM, mBm, lstOf, appM, popM, extM, idxM, remLM, sNil, sSeq, sSet, sExpr, sRet, sRetN, sIf, sBrk, sCnt, sPar, sPar3, sAsg, tgN, tgT, unp, stoM, dstoM, sSto, Wk.items, iSeq, iRng1, iRng2, iEnm, mCall, mMeth, sysOf, onSys, mMethK, mMake, mMakeK, makM, mYes, mListR1, mListR2, intBM, startV, seqOf, keyOf, List.getElem?_cons_zero, List.getElem?_cons_succ, List.getElem?_nil, List.set_cons_zero, List.set_cons_succ, List.map_cons, List.map_nil, List.length_cons, List.length_nil, List.cons_append, List.nil_append, List.append_nil, List.replicate, Nat.reduceAdd, Nat.reduceSub, Nat.reduceLeDiff, Nat.reduceLT, Nat.reduceEqDiff, Int.reduceLT, Int.reduceLE, Int.reduceNeg, Int.reducePow, ite_true, ite_false, if_true, if_false, reduceIte, Bool.false_eq_true, Bool.true_eq_false, Bool.not_true, Bool.not_false, and_self, and_true, true_and, Mu.put_same, Mu.new_same, Mu.put_nx, Mu.new_nx, Nat.zero_add, Nat.le_refl, Goes_nx, Gets_ok, Rets_nx, Rets_rt, CMul, CDiv, CPow, or_true, true_or, or_self, not_true, not_false_iff, mDm, dctV, popDM, getDM, mDisp, mPrs, kvOf, decide_false, decide_true, Int.reduceToNat, Nat.reducePow, Int.reduceAdd, Int.reduceSub, Int.reduceMul, hs]
    · simp only [Wn.R.bind_ok, Wn.R.bind_no, Wn.R.cut_ok, Wn.R.cut_no, sThen_nx, sThen_rt, sThen_bk, sThen_ct, mC, mV, mNil, mCons, mTup, mLst, mOp, mUn, mFn, mMt, boolM, mTest, mAnd, mOr, mNot, mIf, mBl, mAndV, mOrV, mNotV, mAndT, mOrT, truM, List.isEmpty_cons, List.isEmpty_nil, addM, subM, mulM, modM, fdivM, powM, negM, ltM, leM, gtM, geM, cmpI, isM', isntM, isNon, getM, dgetM, slM, mSl, mP, mP0, lenM, listM, tupleM, minM, maxM, absM, intM, sortedM, mBm, lstOf, appM, popM, extM, idxM, remLM, sNil, sSeq, sSet, sExpr, sRet, sRetN, sIf, sBrk, sCnt, sPar, sPar3, sAsg, tgN, tgT, unp, stoM, dstoM, sSto, Wk.items, iSeq, iRng1, iRng2, iEnm, mCall, mMeth, sysOf, onSys, mMethK, mMake, mMakeK, makM, mYes, mListR1, mListR2, intBM, startV, seqOf, keyOf, List.getElem?_cons_zero, List.getElem?_cons_succ, List.getElem?_nil, List.set_cons_zero, List.set_cons_succ, List.map_cons, List.map_nil, List.length_cons, List.length_nil, List.cons_append, List.nil_append, List.append_nil, List.replicate, Nat.reduceAdd, Nat.reduceSub, Nat.reduceLeDiff, Nat.reduceLT, Nat.reduceEqDiff, Int.reduceLT, Int.reduceLE, Int.reduceNeg, Int.reducePow, ite_true, ite_false, if_true, if_false, reduceIte, Bool.false_eq_true, Bool.true_eq_false, Bool.not_true, Bool.not_false, and_self, and_true, true_and, Mu.put_same, Mu.new_same, Mu.put_nx, Mu.new_nx, Nat.zero_add, Nat.le_refl, Goes_nx, Gets_ok, Rets_nx, Rets_rt, CMul, CDiv, CPow, or_true, true_or, or_self, not_true, not_false_iff, mDm, dctV, popDM, getDM, mDisp, mPrs, kvOf, decide_false, decide_true, Int.reduceToNat, Nat.reducePow, Int.reduceAdd, Int.reduceSub, Int.reduceMul, cut_ints]
      rfl
    · rintro j ρ μ' _ ⟨_, rfl⟩
      simp only [Wn.R.bind_ok, Wn.R.bind_no, Wn.R.cut_ok, Wn.R.cut_no, sThen_nx, sThen_rt, sThen_bk, sThen_ct, mC, mV, mNil, mCons, mTup, mLst, mOp, mUn, mFn, mMt, boolM, mTest, mAnd, mOr, mNot, mIf, mBl, mAndV, mOrV, mNotV, mAndT, mOrT, truM, List.isEmpty_cons, List.isEmpty_nil, addM, subM, mulM, modM, fdivM, powM, negM, ltM, leM, gtM, geM, cmpI, isM', isntM, isNon, getM, dgetM, slM, mSl, mP, mP0, lenM, listM, tupleM, minM, maxM, absM, intM, sortedM, mBm, lstOf, appM, popM, extM, idxM, remLM, sNil, sSeq, sSet, sExpr, sRet, sRetN, sIf, sBrk, sCnt, sPar, sPar3, sAsg, tgN, tgT, unp, stoM, dstoM, sSto, Wk.items, iSeq, iRng1, iRng2, iEnm, mCall, mMeth, sysOf, onSys, mMethK, mMake, mMakeK, makM, mYes, mListR1, mListR2, intBM, startV, seqOf, keyOf, List.getElem?_cons_zero, List.getElem?_cons_succ, List.getElem?_nil, List.set_cons_zero, List.set_cons_succ, List.map_cons, List.map_nil, List.length_cons, List.length_nil, List.cons_append, List.nil_append, List.append_nil, List.replicate, Nat.reduceAdd, Nat.reduceSub, Nat.reduceLeDiff, Nat.reduceLT, Nat.reduceEqDiff, Int.reduceLT, Int.reduceLE, Int.reduceNeg, Int.reducePow, ite_true, ite_false, if_true, if_false, reduceIte, Bool.false_eq_true, Bool.true_eq_false, Bool.not_true, Bool.not_false, and_self, and_true, true_and, Mu.put_same, Mu.new_same, Mu.put_nx, Mu.new_nx, Nat.zero_add, Nat.le_refl, Goes_nx, Gets_ok, Rets_nx, Rets_rt, CMul, CDiv, CPow, or_true, true_or, or_self, not_true, not_false_iff, mDm, dctV, popDM, getDM, mDisp, mPrs, kvOf, decide_false, decide_true, Int.reduceToNat, Nat.reducePow, Int.reduceAdd, Int.reduceSub, Int.reduceMul, cut_ints]
      rfl
    · rintro j v ρ μ' hv ⟨⟨b, v4, v5, rfl⟩, rfl⟩
      obtain ⟨y, rfl⟩ := enm_ints_get hv
      refine ⟨_, rfl, ?_⟩
      unfold m__law_bag_1
      simp only [Wn.R.bind_ok, Wn.R.bind_no, Wn.R.cut_ok, Wn.R.cut_no, sThen_nx, sThen_rt, sThen_bk, sThen_ct, mC, mV, mNil, mCons, mTup, mLst, mOp, mUn, mFn, mMt, boolM, mTest, mAnd, mOr, mNot, mIf, mBl, mAndV, mOrV, mNotV, mAndT, mOrT, truM, List.isEmpty_cons, List.isEmpty_nil, addM, subM, mulM, modM, fdivM, powM, negM, ltM, leM, gtM, geM, cmpI, isM', isntM, isNon, getM, dgetM, slM, mSl, mP, mP0, lenM, listM, tupleM, minM, maxM, absM, intM, sortedM, mBm, lstOf, appM, popM, extM, idxM, remLM, sNil, sSeq, sSet, sExpr, sRet, sRetN, sIf, sBrk, sCnt, sPar, sPar3, sAsg, tgN, tgT, unp, stoM, dstoM, sSto, Wk.items, iSeq, iRng1, iRng2, iEnm, mCall, mMeth, sysOf, onSys, mMethK, mMake, mMakeK, makM, mYes, mListR1, mListR2, intBM, startV, seqOf, keyOf, List.getElem?_cons_zero, List.getElem?_cons_succ, List.getElem?_nil, List.set_cons_zero, List.set_cons_succ, List.map_cons, List.map_nil, List.length_cons, List.length_nil, List.cons_append, List.nil_append, List.append_nil, List.replicate, Nat.reduceAdd, Nat.reduceSub, Nat.reduceLeDiff, Nat.reduceLT, Nat.reduceEqDiff, Int.reduceLT, Int.reduceLE, Int.reduceNeg, Int.reducePow, ite_true, ite_false, if_true, if_false, reduceIte, Bool.false_eq_true, Bool.true_eq_false, Bool.not_true, Bool.not_false, and_self, and_true, true_and, Mu.put_same, Mu.new_same, Mu.put_nx, Mu.new_nx, Nat.zero_add, Nat.le_refl, Goes_nx, Gets_ok, Rets_nx, Rets_rt, CMul, CDiv, CPow, or_true, true_or, or_self, not_true, not_false_iff, mDm, dctV, popDM, getDM, mDisp, mPrs, kvOf, decide_false, decide_true, Int.reduceToNat, Nat.reducePow, Int.reduceAdd, Int.reduceSub, Int.reduceMul]
      exact ⟨_, _, _, rfl⟩
    · rintro ρ μ' ⟨⟨b, v4, v5, rfl⟩, rfl⟩
      have fin : ∀ z : Int, ∃ p, Val.loc (μ.nx + 1) = .loc p ∧ Kee [] μ ((μ.new (.lst (cutG (ns.map Val.int) none (some 40)))).new (.lst [.int z, .int b])) ∧ Bag ((μ.new (.lst (cutG (ns.map Val.int) none (some 40)))).new (.lst [.int z, .int b])) p ∧ μ.nx ≤ p := fun z =>
        ⟨_, rfl, Kee.new.trans Kee.new, ⟨Nat.lt_succ_self _, _, _, Mu.new_same ..⟩, Nat.le_succ _⟩
      generalize hd : decide ((1000000000000000000 : Int) ≤ if cell < 0 then -cell else cell) = dd
      cases dd with
      | true =>
        simp only [Wn.R.bind_ok, Wn.R.bind_no, Wn.R.cut_ok, Wn.R.cut_no, sThen_nx, sThen_rt, sThen_bk, sThen_ct, mC, mV, mNil, mCons, mTup, mLst, mOp, mUn, mFn, mMt, boolM, mTest, mAnd, mOr, mNot, mIf, mBl, mAndV, mOrV, mNotV, mAndT, mOrT, truM, List.isEmpty_cons, List.isEmpty_nil, addM, subM, mulM, modM, fdivM, powM, negM, ltM, leM, gtM, geM, cmpI, isM', isntM, isNon, getM, dgetM, slM, mSl, mP, mP0, lenM, listM, tupleM, minM, maxM, absM, intM, sortedM, mBm, lstOf, appM, popM, extM, idxM, remLM, sNil, sSeq, sSet, sExpr, sRet, sRetN, sIf, sBrk, sCnt, sPar, sPar3, sAsg, tgN, tgT, unp, stoM, dstoM, sSto, Wk.items, iSeq, iRng1, iRng2, iEnm, mCall, mMeth, sysOf, onSys, mMethK, mMake, mMakeK, makM, mYes, mListR1, mListR2, intBM, startV, seqOf, keyOf, List.getElem?_cons_zero, List.getElem?_cons_succ, List.getElem?_nil, List.set_cons_zero, List.set_cons_succ, List.map_cons, List.map_nil, List.length_cons, List.length_nil, List.cons_append, List.nil_append, List.append_nil, List.replicate, Nat.reduceAdd, Nat.reduceSub, Nat.reduceLeDiff, Nat.reduceLT, Nat.reduceEqDiff, Int.reduceLT, Int.reduceLE, Int.reduceNeg, Int.reducePow, ite_true, ite_false, if_true, if_false, reduceIte, Bool.false_eq_true, Bool.true_eq_false, Bool.not_true, Bool.not_false, and_self, and_true, true_and, Mu.put_same, Mu.new_same, Mu.put_nx, Mu.new_nx, Nat.zero_add, Nat.le_refl, Goes_nx, Gets_ok, Rets_nx, Rets_rt, CMul, CDiv, CPow, or_true, true_or, or_self, not_true, not_false_iff, mDm, dctV, popDM, getDM, mDisp, mPrs, kvOf, decide_false, decide_true, Int.reduceToNat, Nat.reducePow, Int.reduceAdd, Int.reduceSub, Int.reduceMul, hd, show Int.natAbs 10 = 10 from rfl]
        exact fin _
      | false =>
        simp only [Wn.R.bind_ok, Wn.R.bind_no, Wn.R.cut_ok, Wn.R.cut_no, sThen_nx, sThen_rt, sThen_bk, sThen_ct, mC, mV, mNil, mCons, mTup, mLst, mOp, mUn, mFn, mMt, boolM, mTest, mAnd, mOr, mNot, mIf, mBl, mAndV, mOrV, mNotV, mAndT, mOrT, truM, List.isEmpty_cons, List.isEmpty_nil, addM, subM, mulM, modM, fdivM, powM, negM, ltM, leM, gtM, geM, cmpI, isM', isntM, isNon, getM, dgetM, slM, mSl, mP, mP0, lenM, listM, tupleM, minM, maxM, absM, intM, sortedM, mBm, lstOf, appM, popM, extM, idxM, remLM, sNil, sSeq, sSet, sExpr, sRet, sRetN, sIf, sBrk, sCnt, sPar, sPar3, sAsg, tgN, tgT, unp, stoM, dstoM, sSto, Wk.items, iSeq, iRng1, iRng2, iEnm, mCall, mMeth, sysOf, onSys, mMethK, mMake, mMakeK, makM, mYes, mListR1, mListR2, intBM, startV, seqOf, keyOf, List.getElem?_cons_zero, List.getElem?_cons_succ, List.getElem?_nil, List.set_cons_zero, List.set_cons_succ, List.map_cons, List.map_nil, List.length_cons, List.length_nil, List.cons_append, List.nil_append, List.append_nil, List.replicate, Nat.reduceAdd, Nat.reduceSub, Nat.reduceLeDiff, Nat.reduceLT, Nat.reduceEqDiff, Int.reduceLT, Int.reduceLE, Int.reduceNeg, Int.reducePow, ite_true, ite_false, if_true, if_false, reduceIte, Bool.false_eq_true, Bool.true_eq_false, Bool.not_true, Bool.not_false, and_self, and_true, true_and, Mu.put_same, Mu.new_same, Mu.put_nx, Mu.new_nx, Nat.zero_add, Nat.le_refl, Goes_nx, Gets_ok, Rets_nx, Rets_rt, CMul, CDiv, CPow, or_true, true_or, or_self, not_true, not_false_iff, mDm, dctV, popDM, getDM, mDisp, mPrs, kvOf, decide_false, decide_true, Int.reduceToNat, Nat.reducePow, Int.reduceAdd, Int.reduceSub, Int.reduceMul, hd, show Int.natAbs 10 = 10 from rfl]
        exact fin _
  by_cases c : i < (ns.length : Int)
  · have ha : atI (ns.map Val.int) i = some (.int ns[i.toNat]) := by
      have hlt : i.toNat < ns.length := by omega
      have z := atI_nat (xs := ns.map Val.int) (j := i.toNat) (v := .int ns[i.toNat]) (by rw [List.getElem?_map, List.getElem?_eq_getElem hlt]; rfl)
      rw [show ((i.toNat : Nat) : Int) = i by omega] at z
      exact z
    unfold m__law_bag
    simp only [Wn.R.bind_ok, Wn.R.bind_no, Wn.R.cut_ok, Wn.R.cut_no, sThen_nx, sThen_rt, sThen_bk, sThen_ct, mC, mV, mNil, mCons, mTup, mLst, mOp, mUn, mFn, mMt, boolM, mTest, mAnd, mOr, mNot, mIf, mBl, mAndV, mOrV, mNotV, mAndT, mOrT, truM, List.isEmpty_cons, List.isEmpty_nil, addM, subM, mulM, modM, fdivM, powM, negM, ltM, leM, gtM, geM, cmpI, isM', isntM, isNon, getM, dgetM, slM, mSl, mP, mP0, lenM, listM, tupleM, minM, maxM, absM, intM, sortedM, mBm, lstOf, appM, popM, extM, idxM, remLM, sNil, sSeq, sSet, sExpr, sRet, sRetN, sIf, sBrk, sCnt, sPar, sPar3, sAsg, tgN, tgT, unp, stoM, dstoM, sSto, Wk.items, iSeq, iRng1, iRng2, iEnm, mCall, mMeth, sysOf, onSys, mMethK, mMake, mMakeK, makM, mYes, mListR1, mListR2, intBM, startV, seqOf, keyOf, List.getElem?_cons_zero, List.getElem?_cons_succ, List.getElem?_nil, List.set_cons_zero, List.set_cons_succ, List.map_cons, List.map_nil, List.length_cons, List.length_nil, List.cons_append, List.nil_append, List.append_nil, List.replicate, Nat.reduceAdd, Nat.reduceSub, Nat.reduceLeDiff, Nat.reduceLT, Nat.reduceEqDiff, Int.reduceLT, Int.reduceLE, Int.reduceNeg, Int.reducePow, ite_true, ite_false, if_true, if_false, reduceIte, Bool.false_eq_true, Bool.true_eq_false, Bool.not_true, Bool.not_false, and_self, and_true, true_and, Mu.put_same, Mu.new_same, Mu.put_nx, Mu.new_nx, Nat.zero_add, Nat.le_refl, Goes_nx, Gets_ok, Rets_nx, Rets_rt, CMul, CDiv, CPow, or_true, true_or, or_self, not_true, not_false_iff, mDm, dctV, popDM, getDM, mDisp, mPrs, kvOf, decide_false, decide_true, Int.reduceToNat, Nat.reducePow, Int.reduceAdd, Int.reduceSub, Int.reduceMul, hs, List.length_map, decide_eq_true c, ha]
    exact rest _ _
  · unfold m__law_bag
    simp only [Wn.R.bind_ok, Wn.R.bind_no, Wn.R.cut_ok, Wn.R.cut_no, sThen_nx, sThen_rt, sThen_bk, sThen_ct, mC, mV, mNil, mCons, mTup, mLst, mOp, mUn, mFn, mMt, boolM, mTest, mAnd, mOr, mNot, mIf, mBl, mAndV, mOrV, mNotV, mAndT, mOrT, truM, List.isEmpty_cons, List.isEmpty_nil, addM, subM, mulM, modM, fdivM, powM, negM, ltM, leM, gtM, geM, cmpI, isM', isntM, isNon, getM, dgetM, slM, mSl, mP, mP0, lenM, listM, tupleM, minM, maxM, absM, intM, sortedM, mBm, lstOf, appM, popM, extM, idxM, remLM, sNil, sSeq, sSet, sExpr, sRet, sRetN, sIf, sBrk, sCnt, sPar, sPar3, sAsg, tgN, tgT, unp, stoM, dstoM, sSto, Wk.items, iSeq, iRng1, iRng2, iEnm, mCall, mMeth, sysOf, onSys, mMethK, mMake, mMakeK, makM, mYes, mListR1, mListR2, intBM, startV, seqOf, keyOf, List.getElem?_cons_zero, List.getElem?_cons_succ, List.getElem?_nil, List.set_cons_zero, List.set_cons_succ, List.map_cons, List.map_nil, List.length_cons, List.length_nil, List.cons_append, List.nil_append, List.append_nil, List.replicate, Nat.reduceAdd, Nat.reduceSub, Nat.reduceLeDiff, Nat.reduceLT, Nat.reduceEqDiff, Int.reduceLT, Int.reduceLE, Int.reduceNeg, Int.reducePow, ite_true, ite_false, if_true, if_false, reduceIte, Bool.false_eq_true, Bool.true_eq_false, Bool.not_true, Bool.not_false, and_self, and_true, true_and, Mu.put_same, Mu.new_same, Mu.put_nx, Mu.new_nx, Nat.zero_add, Nat.le_refl, Goes_nx, Gets_ok, Rets_nx, Rets_rt, CMul, CDiv, CPow, or_true, true_or, or_self, not_true, not_false_iff, mDm, dctV, popDM, getDM, mDisp, mPrs, kvOf, decide_false, decide_true, Int.reduceToNat, Nat.reducePow, Int.reduceAdd, Int.reduceSub, Int.reduceMul, hs, List.length_map, decide_eq_false c]
    exact rest _ _

/-! ### data, plainly -/
theorem allO_ints (k : Nat) (μ : Mu) (l : List Int) : allO ((l.map Val.int).map (toD k μ)) = some (l.map PyData.int) := by
  rw [allO_some (f := toD k μ) (g := fun v => match v with | .int i => PyData.int i | _ => .none)]
  · rw [List.map_map]
    rfl
  · intro x hx
    obtain ⟨i, _, rfl⟩ := List.mem_map.mp hx
    cases k <;> rfl
theorem dat_ints {μ : Mu} {n : Nat} {l : List Int} (h : seqOf μ n = some (l.map Val.int)) : datM μ (.loc n) = some (.list (l.map PyData.int)) := by
  unfold datM
  rw [toD, h]
  simp only
  rw [allO_ints]
  rfl
theorem eqv_ints_nil (l : List Int) : PyData.eqv (.list (l.map PyData.int)) (.list []) = l.isEmpty := by
  cases l with
  | nil => rfl
  | cons a l => rfl
theorem eqvAll_same : ∀ {ds : List PyData}, PyData.canLayAll0 ds = true → PyData.eqvAll ds ds = true := fun {ds} h => by
  have := SeqAt.eqv_refl (.list ds) (by rw [PyData.canLay0]; exact h)
  rw [PyData.eqv] at this
  exact this
theorem seqOf_lst {μ : Mu} {n : Nat} {vs : List Val} (h : μ.ob n = some (.lst vs)) : seqOf μ n = some vs := by
  unfold seqOf
  rw [h]
theorem ixN_in {n : Nat} {i : Int} (h0 : 0 ≤ i) (h1 : i < n) : ixN n i = some i.toNat := by
  unfold ixN
  rw [if_pos h0, if_pos h1]
theorem re_lk {v : Sv} {n k : Int} {tv tv' : Tv} (h : lk v.ths n = some tv) : lk (v.re n tv').ths k = if k = n then some tv' else lk v.ths k := by
  show lk (upAt v.ths n fun _ => tv') k = _
  rw [upAt_lk]
  split
  · rename_i e
    rw [e, h]
    rfl
  · rfl
theorem Kee.over {S T : List Nat} {μ μ1 μ2 : Mu} (a : Kee S μ μ1) (b : Kee T μ1 μ2) (h : ∀ n ∈ T, μ.nx ≤ n ∨ n ∈ S) : Kee S μ μ2 := ⟨Nat.le_trans a.le b.le, fun n l q => (b.ob n (Nat.lt_of_lt_of_le l a.le) fun z => (h n z).elim (fun y => absurd l (Nat.not_lt.mpr y)) q).trans (a.ob n l q)⟩
theorem erase_map {α β : Type} (f : α → β) : ∀ (l : List α) (i : Nat), (l.map f).eraseIdx i = (l.eraseIdx i).map f
  | [], _ => by simp
  | a :: l, 0 => rfl
  | a :: l, i + 1 => by
    rw [List.map_cons, List.eraseIdx_cons_succ, List.eraseIdx_cons_succ, List.map_cons, erase_map f l i]
theorem dat_lst0 {μ : Mu} : datM (μ.new (.lst [])) (.loc μ.nx) = some (.list []) := dat_ints (l := []) (seqOf_lst (Mu.new_same _ _))
theorem dat_int (μ : Mu) (i : Int) : datM μ (.int i) = some (.int i) := rfl
theorem eqv_int (i j : Int) : PyData.eqv (.int i) (.int j) = (i == j) := rfl
theorem any_eqv (l : List Int) (i : Int) : ((l.map PyData.int).any fun z => PyData.eqv z (.int i)) = decide (i ∈ l) := by
  induction l with
  | nil => rfl
  | cons a l ih =>
    rw [List.map_cons, List.any_cons, ih, eqv_int]
    by_cases c : a = i
    · subst c
      simp
    · by_cases d : i ∈ l
      · simp [d]
      · simp [d, Ne.symm c, c]
theorem in_ints {μ : Mu} {r : Nat} {row : List Int} (h : μ.ob r = some (.lst (row.map Val.int))) (i : Int) : inM (.int i) (.loc r) μ = .ok (.bl (decide (i ∈ row))) μ := by
  have e : allO ((row.map Val.int).map (datM μ)) = some (row.map PyData.int) := allO_ints 8 μ row
  unfold inM hasM
  simp only [h, dat_int, e, any_eqv]
theorem lk_snoc {α : Type} {l : List (Int × α)} {n k : Int} {x : α} (h : lk l n = none) : lk (l ++ [(n, x)]) k = if k = n then some x else lk l k := by
  rw [lk_app]
  by_cases c : k = n
  · subst c
    rw [h, if_pos rfl]
    show (none : Option α).or (if k = k then some x else lk [] k) = some x
    rw [if_pos rfl]
    rfl
  · rw [if_neg c]
    have : lk [(n, x)] k = none := by
      show (if n = k then some x else lk [] k) = none
      rw [if_neg (Ne.symm c)]
      rfl
    rw [this, Option.or_none]
structure Fill (j : Nat) (v : Sv) : Prop where
  n8 : v.N = 8
  made : v.made = (j : Int) + 1
  rows : ∃ rows, lk v.tabs 0 = some rows ∧ (∀ n : Nat, n ≤ j → lk rows (n : Int) = some (n : Int)) ∧ ∀ n : Int, n ∈ rows.map (·.1) ↔ 0 ≤ n ∧ n ≤ j
  set_ : lk v.ths 0 = some (.set [] [])
  src : ∀ l : Nat, l < j → lk v.ths ((l : Int) + 1) = some (.src 0 false)
  new : lk v.ths ((j : Int) + 1) = none ∧ ∀ n : Int, (j : Int) < n → lk v.ths n = none
theorem Fill.low {j : Nat} {v : Sv} (h : Fill j v) (hj : j < 7) {rows : List (Int × Int)} (hr : lk v.tabs 0 = some rows) : lowFree (rows.map (·.1)) v.N = some ((j : Int) + 1) := by
  obtain ⟨rows', h1, h2, h3⟩ := h.rows
  rw [hr] at h1
  cases h1
  rw [h.n8]
  exact lowFree_some (k := j + 1) (by omega) (fun i hi => (h3 _).mpr ⟨by omega, by omega⟩) (fun z => by have := (h3 _).mp z; omega)
theorem Fill.next {j : Nat} {v : Sv} (h : Fill j v) : Fill (j + 1) (v.place 0 ((j : Int) + 1) (.src 0 false)) := by
  obtain ⟨rows, h1, h2, h3⟩ := h.rows
  have hn : lk rows ((j : Int) + 1) = none := lk_none.mpr fun z => by have := (h3 _).mp z; omega
  have ht : lk (v.place 0 ((j : Int) + 1) (.src 0 false)).tabs 0 = some (rows ++ [((j : Int) + 1, (j : Int) + 1)]) := by
    show lk (upAt v.tabs 0 (· ++ [((j : Int) + 1, v.made)])) 0 = _
    rw [upAt_lk, if_pos rfl, h1, h.made]
    rfl
  have hths : ∀ n, lk (v.place 0 ((j : Int) + 1) (.src 0 false)).ths n = if n = (j : Int) + 1 then some (.src 0 false) else lk v.ths n := fun n => by
    show lk (v.ths ++ [(v.made, .src 0 false)]) n = _
    rw [h.made, lk_snoc h.new.1]
  refine ⟨h.n8, ?_, ⟨_, ht, fun n hn' => ?_, fun n => ?_⟩, ?_, fun l hl => ?_, ?_, fun n hn' => ?_⟩
  · show v.made + 1 = _
    rw [h.made]
    omega
  · rw [lk_snoc hn]
    by_cases c : n = j + 1
    · rw [if_pos (by omega)]
      congr 1
      omega
    · rw [if_neg (by omega)]
      exact h2 n (by omega)
  · rw [List.map_append, List.mem_append, h3]
    simp only [List.map_cons, List.map_nil, List.mem_singleton]
    omega
  · rw [hths, if_neg (by omega)]
    exact h.set_
  · rw [hths]
    by_cases c : l = j
    · subst c
      rw [if_pos rfl]
    · rw [if_neg (by omega)]
      exact h.src l (by omega)
  · rw [hths, if_neg (by omega)]
    exact h.new.2 _ (by omega)
  · rw [hths, if_neg (by omega)]
    exact h.new.2 _ (by omega)

/-! ### steps, one by one -/
section
variable {ρ ρ' : Rho} {μ μ1 μ2 : Mu} {v a b : Val}
theorem if_yes {c : MT} {A B : MS} (h : c ρ μ = .ok true μ1) : sIf c A B ρ μ = A ρ μ1 := by unfold sIf; rw [h]; rfl
theorem if_no {c : MT} {A B : MS} (h : c ρ μ = .ok false μ1) : sIf c A B ρ μ = B ρ μ1 := by unfold sIf; rw [h]; rfl
theorem seq_nx {A B : MS} (h : A ρ μ = .ok (.nx ρ') μ1) : sSeq A B ρ μ = B ρ' μ1 := by unfold sSeq; rw [h]; rfl
theorem seq_rt {A B : MS} (h : A ρ μ = .ok (.rt v) μ1) : sSeq A B ρ μ = .ok (.rt v) μ1 := by unfold sSeq; rw [h]; rfl
theorem ret2 {A B : ME} (hA : A ρ μ = .ok a μ1) (hB : B ρ μ1 = .ok b μ2) : sRet (mLst (mCons A (mCons B mNil))) ρ μ = .ok (.rt (.loc μ2.nx)) (μ2.new (.lst [a, b])) := by
  simp only [Wn.R.bind_ok, Wn.R.bind_no, Wn.R.cut_ok, Wn.R.cut_no, sThen_nx, sThen_rt, sThen_bk, sThen_ct, mC, mV, mNil, mCons, mTup, mLst, mOp, mUn, mFn, mMt, boolM, mTest, mAnd, mOr, mNot, mIf, mBl, mAndV, mOrV, mNotV, mAndT, mOrT, truM, List.isEmpty_cons, List.isEmpty_nil, addM, subM, mulM, modM, fdivM, powM, negM, ltM, leM, gtM, geM, cmpI, isM', isntM, isNon, getM, dgetM, slM, mSl, mP, mP0, lenM, listM, tupleM, minM, maxM, absM, intM, sortedM, mBm, lstOf, appM, popM, extM, idxM, remLM, sNil, sSeq, sSet, sExpr, sRet, sRetN, sIf, sBrk, sCnt, sPar, sPar3, sAsg, tgN, tgT, unp, stoM, dstoM, sSto, Wk.items, iSeq, iRng1, iRng2, iEnm, mCall, mMeth, sysOf, onSys, mMethK, mMake, mMakeK, makM, mYes, mListR1, mListR2, intBM, startV, seqOf, keyOf, List.getElem?_cons_zero, List.getElem?_cons_succ, List.getElem?_nil, List.set_cons_zero, List.set_cons_succ, List.map_cons, List.map_nil, List.length_cons, List.length_nil, List.cons_append, List.nil_append, List.append_nil, List.replicate, Nat.reduceAdd, Nat.reduceSub, Nat.reduceLeDiff, Nat.reduceLT, Nat.reduceEqDiff, Int.reduceLT, Int.reduceLE, Int.reduceNeg, Int.reducePow, ite_true, ite_false, if_true, if_false, reduceIte, Bool.false_eq_true, Bool.true_eq_false, Bool.not_true, Bool.not_false, and_self, and_true, true_and, Mu.put_same, Mu.new_same, Mu.put_nx, Mu.new_nx, Nat.zero_add, Nat.le_refl, Goes_nx, Gets_ok, Rets_nx, Rets_rt, CMul, CDiv, CPow, or_true, true_or, or_self, not_true, not_false_iff, mDm, dctV, popDM, getDM, mDisp, mPrs, kvOf, decide_false, decide_true, Int.reduceToNat, Nat.reducePow, Int.reduceAdd, Int.reduceSub, Int.reduceMul, hA, hB]
theorem out_ok {hs : Ohs} {m : ME} (h : m ρ μ = .ok v μ1) : mOut hs m ρ μ = .ok v μ1 := by unfold mOut; rw [h]
end
/-- two values that repr shows alike -/
def Twin (μ : Mu) (a b : Val) : Prop := ∃ d, datM μ a = some d ∧ datM μ b = some d ∧ repOk d
theorem twin_ne {μ : Mu} {a b : Val} (h : Twin μ a b) : ∃ z : Str, reprM [a] μ = .ok (.str z) μ ∧ reprM [b] μ = .ok (.str z) μ := by
  obtain ⟨d, h1, h2, h3⟩ := h
  exact ⟨_, repr_ok h1 h3, repr_ok h2 h3⟩
theorem rep_non : repOk .none := rep_small rfl (by decide) (by decide)
theorem log_le {n : Nat} (h : n < 10 ^ 12) : n.log2 < 40 := by
  by_cases c : n = 0
  · rw [c]; decide
  · exact (Nat.log2_lt c).mpr (Nat.lt_of_lt_of_le h (by decide))
theorem wt_int {i : Int} (h : i.natAbs < 10 ^ 12) : PyData.weight (.int i) ≤ 41 := by
  have := log_le h
  show (if i == 0 then 0 else i.natAbs.log2 + 1) ≤ 41
  split <;> omega
theorem twin_non (μ : Mu) : Twin μ .non .non := ⟨.none, rfl, rfl, rep_non⟩
def Low (n0 : Nat) (μ μ' : Mu) : Prop := μ.nx ≤ μ'.nx ∧ ∀ n, n < n0 → μ'.ob n = μ.ob n
theorem Low.refl (n0 : Nat) (μ : Mu) : Low n0 μ μ := ⟨Nat.le_refl _, fun _ _ => rfl⟩
theorem Low.trans {n0 : Nat} {μ μ1 μ2 : Mu} (a : Low n0 μ μ1) (b : Low n0 μ1 μ2) : Low n0 μ μ2 := ⟨Nat.le_trans a.1 b.1, fun n h => (b.2 n h).trans (a.2 n h)⟩
theorem Kee.low {S : List Nat} {n0 : Nat} {μ μ' : Mu} (kp : Kee S μ μ') (h0 : n0 ≤ μ.nx) (hS : ∀ n ∈ S, n0 ≤ n) : Low n0 μ μ' := ⟨kp.le, fun n h => kp.ob n (by omega) fun z => by have := hS n z; omega⟩
theorem Low.kee {μ μ' : Mu} (h : Low μ.nx μ μ') : Kee [] μ μ' := ⟨h.1, fun n hn _ => h.2 n hn⟩
def up {α : Type} (g : Nat → α) (j : Nat) (x : α) : Nat → α := fun i => if i = j then x else g i
theorem test2 {f : Val → Val → Mu → R Val} {A B : ME} {ρ : Rho} {μ μ1 μ2 μ3 : Mu} {a b : Val} {c : Bool} (hA : A ρ μ = .ok a μ1) (hB : B ρ μ1 = .ok b μ2) (hf : f a b μ2 = .ok (.bl c) μ3) : mTest (mOp f A B) ρ μ = .ok c μ3 := by
  unfold mTest mOp
  rw [hA, R.bind_ok, hB, R.bind_ok, hf]
  rfl
/-! ### tables and dicts, plainly -/
theorem kGet_put (kvs : List (Key × Val)) (k k' : Key) (v : Val) : kGet (kPut kvs k v) k' = if k' = k then some v else kGet kvs k' := by
  unfold kPut
  by_cases c : (kvs.any fun p => decide (p.1 = k)) = true
  · rw [if_pos c]
    induction kvs with
    | nil => cases c
    | cons p l ih =>
      rw [List.map_cons]
      by_cases e : p.1 = k
      · rw [if_pos e]
        by_cases e' : k' = k
        · rw [if_pos e', kGet_pos (show ((p.1, v) : Key × Val).1 = k' from e.trans e'.symm)]
        · rw [if_neg e', kGet_neg (show ¬ ((p.1, v) : Key × Val).1 = k' from fun z => e' (z.symm.trans e)), kGet_neg (show ¬ p.1 = k' from fun z => e' (z.symm.trans e))]
          by_cases d : (l.any fun p => decide (p.1 = k)) = true
          · rw [ih d, if_neg e']
          · have : (l.map fun p => if p.1 = k then (p.1, v) else p) = l := by
              have h : ∀ q ∈ l, ¬ q.1 = k := fun q hq z => d (List.any_eq_true.mpr ⟨q, hq, decide_eq_true z⟩)
              clear ih c d
              induction l with
              | nil => rfl
              | cons q l ih2 => rw [List.map_cons, if_neg (h q List.mem_cons_self), ih2 fun r hr => h r (List.mem_cons_of_mem _ hr)]
            rw [this]
      · rw [if_neg e]
        have d : (l.any fun p => decide (p.1 = k)) = true := by
          rw [List.any_cons, decide_eq_false e, Bool.false_or] at c
          exact c
        by_cases e' : p.1 = k'
        · rw [kGet_pos e', kGet_pos e', if_neg (fun z => e (e'.trans z))]
        · rw [kGet_neg e', kGet_neg e', ih d]
  · rw [if_neg c]
    have h : ∀ q ∈ kvs, ¬ q.1 = k := fun q hq z => c (List.any_eq_true.mpr ⟨q, hq, decide_eq_true z⟩)
    clear c
    induction kvs with
    | nil =>
      rw [List.nil_append]
      by_cases e : k' = k
      · rw [if_pos e, kGet_pos e.symm]
      · rw [if_neg e, kGet_neg (Ne.symm e)]
    | cons p l ih =>
      rw [List.cons_append]
      by_cases e : p.1 = k'
      · rw [kGet_pos e, kGet_pos e, if_neg (fun z => h p List.mem_cons_self (e.trans z))]
      · rw [kGet_neg e, kGet_neg e, ih fun r hr => h r (List.mem_cons_of_mem _ hr)]
theorem kGet_drop (kvs : List (Key × Val)) (k k' : Key) : kGet (kDrop kvs k) k' = if k' = k then none else kGet kvs k' := by
  unfold kDrop
  induction kvs with
  | nil => split <;> rfl
  | cons p l ih =>
    by_cases e : p.1 = k
    · rw [List.filter_cons_of_neg (by simp [e]), ih]
      split
      · rfl
      · rename_i d
        rw [kGet_neg (fun z => d (z.symm.trans e))]
    · rw [List.filter_cons_of_pos (by simp [e])]
      by_cases e' : p.1 = k'
      · rw [kGet_pos e', kGet_pos e', if_neg (fun z => e (e'.trans z))]
      · rw [kGet_neg e', kGet_neg e', ih]
theorem kGet_mem {kvs : List (Key × Val)} {k : Key} : k ∈ kvs.map (·.1) ↔ (kGet kvs k).isSome = true := by
  induction kvs with
  | nil => simp [kGet]
  | cons p l ih =>
    rw [List.map_cons, List.mem_cons]
    by_cases e : p.1 = k
    · rw [kGet_pos e]
      simp [e]
    · rw [kGet_neg e, ← ih]
      constructor
      · rintro (z | z)
        · exact (e z.symm).elim
        · exact z
      · exact .inr
theorem kPut_old {kvs : List (Key × Val)} {k : Key} {v : Val} (h : k ∈ kvs.map (·.1)) : (kPut kvs k v).map (·.1) = kvs.map (·.1) := by
  have c : (kvs.any fun p => decide (p.1 = k)) = true := by
    obtain ⟨q, hq, e⟩ := List.mem_map.mp h
    exact List.any_eq_true.mpr ⟨q, hq, decide_eq_true e⟩
  unfold kPut
  rw [if_pos c, List.map_map]
  refine List.map_congr_left fun q _ => ?_
  show (if q.1 = k then (q.1, v) else q).1 = q.1
  split <;> rfl
theorem kPut_new {kvs : List (Key × Val)} {k : Key} {v : Val} (h : k ∉ kvs.map (·.1)) : (kPut kvs k v).map (·.1) = kvs.map (·.1) ++ [k] := by
  have c : ¬ (kvs.any fun p => decide (p.1 = k)) = true := fun z => by
    obtain ⟨q, hq, e⟩ := List.any_eq_true.mp z
    exact h (List.mem_map.mpr ⟨q, hq, of_decide_eq_true e⟩)
  unfold kPut
  rw [if_neg c, List.map_append]
  rfl
/-- a dict tells of each number of a table what its serial stands for -/
structure DR (kvs : List (Key × Val)) (rows : List (Int × Int)) (g : Int → Val) : Prop where
  nd : (kvs.map (·.1)).Nodup
  int : ∃ l : List Int, kvs.map (·.1) = l.map Sum.inl
  get : ∀ n : Int, kGet kvs (.inl n) = (lk rows n).map g
theorem DR.nil (g : Int → Val) : DR [] [] g := ⟨List.nodup_nil, ⟨[], rfl⟩, fun _ => rfl⟩
theorem intK_of : ∀ {kvs : List (Key × Val)} {l : List Int}, kvs.map (·.1) = l.map Sum.inl → intK kvs = some l
  | [], [], _ => rfl
  | (k, v) :: r, i :: l, h => by
    simp only [List.map_cons, List.cons.injEq] at h
    obtain ⟨h1, h2⟩ := h
    subst h1
    rw [intK, intK_of h2]
  | [], _ :: _, h => by simp at h
  | _ :: _, [], h => by simp at h
section
variable {kvs : List (Key × Val)} {rows rows' : List (Int × Int)} {g g' : Int → Val}
theorem DR.put (h : DR kvs rows g) {k ser : Int} (hr : ∀ n, lk rows' n = if n = k then some ser else lk rows n) : DR (kPut kvs (.inl k) (g ser)) rows' g := by
  obtain ⟨l, hl⟩ := h.int
  refine ⟨?_, ?_, fun n => ?_⟩
  · by_cases c : (Sum.inl k : Key) ∈ kvs.map (·.1)
    · rw [kPut_old c]
      exact h.nd
    · rw [kPut_new c]
      exact List.nodup_append.mpr ⟨h.nd, by simp, fun a ha b hb => by
        rw [List.mem_singleton.mp hb]
        exact fun z => c (z ▸ ha)⟩
  · by_cases c : (Sum.inl k : Key) ∈ kvs.map (·.1)
    · rw [kPut_old c]
      exact ⟨l, hl⟩
    · rw [kPut_new c]
      exact ⟨l ++ [k], by rw [hl, List.map_append]; rfl⟩
  · rw [kGet_put, hr]
    by_cases c : n = k
    · rw [if_pos (by rw [c]), if_pos c]
      rfl
    · rw [if_neg (fun z => c (Sum.inl.inj z)), if_neg c]
      exact h.get n
theorem DR.drop (h : DR kvs rows g) {k : Int} (hr : ∀ n, lk rows' n = if n = k then none else lk rows n) : DR (kDrop kvs (.inl k)) rows' g := by
  obtain ⟨l, hl⟩ := h.int
  have sub : ((kDrop kvs (.inl k)).map (·.1)).Sublist (kvs.map (·.1)) := List.Sublist.map _ List.filter_sublist
  refine ⟨h.nd.sublist sub, ?_, fun n => ?_⟩
  · refine ⟨l.filter fun i => decide (i ≠ k), ?_⟩
    unfold kDrop
    clear sub h
    induction kvs generalizing l with
    | nil =>
      cases l with
      | nil => rfl
      | cons i l => simp at hl
    | cons p r ih =>
      cases l with
      | nil => simp at hl
      | cons i l =>
        simp only [List.map_cons, List.cons.injEq] at hl
        by_cases c : i = k
        · rw [List.filter_cons_of_neg (by simp [hl.1, c]), List.filter_cons_of_neg (by simp [c])]
          exact ih l hl.2
        · rw [List.filter_cons_of_pos (by simp [hl.1, c]), List.filter_cons_of_pos (by simp [c]), List.map_cons, List.map_cons, ih l hl.2, hl.1]
  · rw [kGet_drop, hr]
    by_cases c : n = k
    · rw [if_pos (by rw [c]), if_pos c]
      rfl
    · rw [if_neg (fun z => c (Sum.inl.inj z)), if_neg c]
      exact h.get n
theorem DR.congr (h : DR kvs rows g) (e : ∀ n ser, lk rows n = some ser → g ser = g' ser) : DR kvs rows g' := by
  refine ⟨h.nd, h.int, fun n => ?_⟩
  rw [h.get n]
  cases c : lk rows n with
  | none => rfl
  | some ser => exact congrArg some (e n ser c)
theorem DR.keys (h : DR kvs rows g) : ∃ l : List Int, intK kvs = some l ∧ kvs.map (·.1) = l.map Sum.inl ∧ l.Nodup ∧ ∀ n, n ∈ l ↔ n ∈ rows.map (·.1) := by
  obtain ⟨l, hl⟩ := h.int
  refine ⟨l, intK_of hl, hl, ?_, fun n => ?_⟩
  · have := h.nd
    rw [hl] at this
    exact (List.pairwise_map.mp this).imp fun h z => h (by rw [z])
  · have e1 : n ∈ l ↔ (Sum.inl n : Key) ∈ kvs.map (·.1) := by
      rw [hl]
      constructor
      · exact fun z => List.mem_map.mpr ⟨n, z, rfl⟩
      · intro z
        obtain ⟨i, hi, e⟩ := List.mem_map.mp z
        cases e
        exact hi
    rw [e1, kGet_mem, h.get n]
    cases c : lk rows n with
    | none => simp [lk_none.mp c]
    | some ser =>
      have : n ∈ rows.map (·.1) := List.mem_map.mpr ⟨_, lk_mem c, rfl⟩
      simp [this]
theorem DR.perm (h : DR kvs rows g) (nd : (rows.map (·.1)).Nodup) : ∃ l : List Int, intK kvs = some l ∧ kvs.map (·.1) = l.map Sum.inl ∧ l.Perm (rows.map (·.1)) := by
  obtain ⟨l, h1, h2, h3, h4⟩ := h.keys
  exact ⟨l, h1, h2, (List.perm_ext_iff_of_nodup h3 nd).mpr h4⟩
theorem DR.len (h : DR kvs rows g) (nd : (rows.map (·.1)).Nodup) : kvs.length = rows.length := by
  obtain ⟨l, _, h2, h3⟩ := h.perm nd
  have e1 := congrArg List.length h2
  have e2 := h3.length_eq
  simp only [List.length_map] at e1 e2
  omega
end
/-! ### registrations by number and source, plainly -/
theorem nd_sn {α : Type} {l : List α} {x : α} (h : l.Nodup) (n : x ∉ l) : (l ++ [x]).Nodup := List.nodup_append.mpr ⟨h, by simp, fun a ha b hb => by
  rw [List.mem_singleton.mp hb]
  exact fun z => n (z ▸ ha)⟩
structure Rg where
  n : Int
  s : Int
  l : Int
  t : Str
def rgV (r : Rg) : Val := .tup [.int r.n, .int r.s, .int r.l, .str r.t]
def rgE (r : Rg) : Ev := ⟨r.n, r.s, r.l, r.t, true⟩
structure RG (R : List Rg) : Prop where
  nl : (R.map (·.l)).Nodup
  nk : (R.map fun r => (r.n, r.s)).Nodup
  bd : ∀ r ∈ R, (0 ≤ r.l ∧ r.l < 100) ∧ 0 ≤ r.n ∧ r.n < 8
  wd : ∀ r ∈ R, r.t ∈ words
theorem RG.nil : RG [] := ⟨List.nodup_nil, List.nodup_nil, (fun _ h => nomatch h), (fun _ h => nomatch h)⟩
theorem RG.len {R : List Rg} (h : RG R) : R.length ≤ 100 := by
  have := few 100 h.nl fun x hx => by
    obtain ⟨r, hr, rfl⟩ := List.mem_map.mp hx
    have := h.bd r hr
    omega
  rw [List.length_map] at this
  exact this
theorem inj_byG {α β : Type} {g : α → β} : ∀ {R : List α}, (R.map g).Nodup → ∀ {x y : α}, x ∈ R → y ∈ R → g x = g y → x = y
  | [], _, _, _, hx, _, _ => nomatch hx
  | a :: l, nd, x, y, hx, hy, e => by
    obtain ⟨n1, n2⟩ := List.nodup_cons.mp (show (g a :: l.map g).Nodup from nd)
    rcases List.mem_cons.mp hx with zx | zx
    · rcases List.mem_cons.mp hy with zy | zy
      · rw [zx, zy]
      · subst zx
        exact (n1 (e ▸ List.mem_map.mpr ⟨y, zy, rfl⟩)).elim
    · rcases List.mem_cons.mp hy with zy | zy
      · subst zy
        exact (n1 (e ▸ List.mem_map.mpr ⟨x, zx, rfl⟩)).elim
      · exact inj_byG n2 zx zy e
theorem key_rgE {R : List Rg} (nk : (R.map fun r => (r.n, r.s)).Nodup) {r : Rg} (hr : r ∈ R) : fKv (R.map rgE) r.n r.s = some (rgE r) := by
  cases hf : fKv (R.map rgE) r.n r.s with
  | none => exact (fKv_none hf ⟨_, List.mem_map.mpr ⟨r, hr, rfl⟩, rfl, rfl⟩).elim
  | some e =>
    obtain ⟨f1, f2, f3⟩ := fKv_some hf
    obtain ⟨x, hx, rfl⟩ := List.mem_map.mp f1
    rw [inj_byG nk hx hr (Prod.ext f2 f3)]
theorem nokey_rgE {R : List Rg} {n s : Int} (h : ∀ r ∈ R, ¬ (r.n = n ∧ r.s = s)) : fKv (R.map rgE) n s = none := by
  cases hf : fKv (R.map rgE) n s with
  | none => rfl
  | some e =>
    obtain ⟨f1, f2, f3⟩ := fKv_some hf
    obtain ⟨x, hx, rfl⟩ := List.mem_map.mp f1
    exact (h x hx ⟨f2, f3⟩).elim
/-- the places of a key -/
def kx (n s : Int) : Nat → List Rg → List Int
  | _, [] => []
  | i, r :: R => if r.n = n ∧ r.s = s then (i : Int) :: kx n s (i + 1) R else kx n s (i + 1) R
theorem kx_cases (n s : Int) : ∀ (R : List Rg) (i : Nat), (kx n s i R = [] ∧ ∀ r ∈ R, ¬ (r.n = n ∧ r.s = s)) ∨ ∃ (k : Nat) (rest : List Int) (r : Rg), kx n s i R = ((i + k : Nat) : Int) :: rest ∧ R[k]? = some r ∧ r.n = n ∧ r.s = s
  | [], i => .inl ⟨rfl, fun _ h => nomatch h⟩
  | r :: R, i => by
    by_cases c : r.n = n ∧ r.s = s
    · refine .inr ⟨0, kx n s (i + 1) R, r, ?_, rfl, c.1, c.2⟩
      rw [kx, if_pos c]
      rfl
    · rcases kx_cases n s R (i + 1) with ⟨h1, h2⟩ | ⟨k, rest, r', h1, h2, h3⟩
      · refine .inl ⟨by rw [kx, if_neg c, h1], fun x hx => ?_⟩
        rcases List.mem_cons.mp hx with z | z
        · subst z; exact c
        · exact h2 x z
      · refine .inr ⟨k + 1, rest, r', ?_, h2, h3⟩
        rw [kx, if_neg c, h1, show i + 1 + k = i + (k + 1) by omega]
def keyP (n s : Int) (y : Val) : Bool := match y with
  | .tup [_, .tup [.int a, .int b, _, _]] => a == n && (b == s && true)
  | _ => false
def keyF (y : Val) : Val := match y with
  | .tup [a, _] => a
  | _ => .non
theorem kx_filt (n s : Int) : ∀ (R : List Rg) (i : Nat), ((((R.map rgV).zipIdx i).map fun p => Val.tup [.int (p.2 : Nat), p.1]).filter (keyP n s)).map keyF = (kx n s i R).map Val.int
  | [], i => rfl
  | r :: R, i => by
    have ih := kx_filt n s R (i + 1)
    rw [List.map_cons, List.zipIdx_cons, List.map_cons]
    have e : keyP n s (Val.tup [.int (i : Nat), rgV r]) = decide (r.n = n ∧ r.s = s) := by
      show (r.n == n && (r.s == s && true)) = _
      by_cases a : r.n = n
      · by_cases b : r.s = s
        · simp [a, b]
        · simp [a, b]
      · simp [a]
    by_cases c : r.n = n ∧ r.s = s
    · rw [List.filter_cons_of_pos (by rw [e]; exact decide_eq_true c), List.map_cons, ih, kx, if_pos c]
      rfl
    · rw [List.filter_cons_of_neg (by rw [e, decide_eq_false c]; exact Bool.false_ne_true), ih, kx, if_neg c]
theorem erase_filtG {α : Type} {g : α → Int} : ∀ {R : List α} {k : Nat} {r : α}, (R.map g).Nodup → R[k]? = some r → R.eraseIdx k = R.filter fun x => decide (g x ≠ g r)
  | [], _, _, _, h => by simp at h
  | a :: R, 0, r, nd, h => by
    cases (show a = r from by simpa using h)
    obtain ⟨n1, n2⟩ := List.nodup_cons.mp (show (g a :: R.map g).Nodup from nd)
    rw [List.eraseIdx_cons_zero, List.filter_cons_of_neg (by simp)]
    refine (List.filter_eq_self.mpr fun x hx => ?_).symm
    have : g x ≠ g a := fun z => n1 (by rw [← z]; exact List.mem_map.mpr ⟨x, hx, rfl⟩)
    simp [this]
  | a :: R, k + 1, r, nd, h => by
    obtain ⟨n1, n2⟩ := List.nodup_cons.mp (show (g a :: R.map g).Nodup from nd)
    have h' : R[k]? = some r := by simpa using h
    have hne : g a ≠ g r := fun z => n1 (by rw [z]; exact List.mem_map.mpr ⟨r, List.mem_of_getElem? h', rfl⟩)
    rw [List.eraseIdx_cons_succ, List.filter_cons_of_pos (by simpa using hne), erase_filtG n2 h']
section
variable {R : List Rg} {r : Rg} {k : Nat}
theorem RG.drop (h : RG R) (hk : R[k]? = some r) : RG (R.eraseIdx k) ∧ dropE r.l (R.map rgE) = (R.eraseIdx k).map rgE := by
  have e := erase_filtG h.nl hk
  have sub : (R.eraseIdx k).Sublist R := List.eraseIdx_sublist _ _
  refine ⟨⟨h.nl.sublist (sub.map _), h.nk.sublist (sub.map _), fun x hx => h.bd x (sub.subset hx), fun x hx => h.wd x (sub.subset hx)⟩, ?_⟩
  unfold dropE
  rw [List.filter_map, e]
  rfl
theorem RG.set (h : RG R) (hk : R[k]? = some r) {t : Str} (ht : t ∈ words) : RG (R.set k ⟨r.n, r.s, r.l, t⟩) ∧ chgE r.n r.s t (R.map rgE) = (R.set k ⟨r.n, r.s, r.l, t⟩).map rgE := by
  obtain ⟨kl, ek⟩ := List.getElem?_eq_some_iff.mp hk
  have e1 : (R.set k ⟨r.n, r.s, r.l, t⟩).map (·.l) = R.map (·.l) := by
    rw [List.map_set]
    refine List.ext_getElem? fun i => ?_
    rw [List.getElem?_set, List.length_map, List.getElem?_map]
    by_cases c : k = i
    · subst c
      rw [if_pos rfl, if_pos kl, hk]
      rfl
    · rw [if_neg c]
  have e2 : (R.set k ⟨r.n, r.s, r.l, t⟩).map (fun r => (r.n, r.s)) = R.map fun r => (r.n, r.s) := by
    rw [List.map_set]
    refine List.ext_getElem? fun i => ?_
    rw [List.getElem?_set, List.length_map, List.getElem?_map]
    by_cases c : k = i
    · subst c
      rw [if_pos rfl, if_pos kl, hk]
      rfl
    · rw [if_neg c]
  have mem : ∀ x ∈ R.set k ⟨r.n, r.s, r.l, t⟩, x ∈ R ∨ x = ⟨r.n, r.s, r.l, t⟩ := fun x hx => List.mem_or_eq_of_mem_set hx
  have rm := List.mem_of_getElem? hk
  refine ⟨⟨by rw [e1]; exact h.nl, by rw [e2]; exact h.nk, fun x hx => ?_, fun x hx => ?_⟩, ?_⟩
  · rcases mem x hx with z | z
    · exact h.bd x z
    · subst z; exact h.bd r rm
  · rcases mem x hx with z | z
    · exact h.wd x z
    · subst z; exact ht
  · unfold chgE
    rw [List.map_map, List.map_set]
    refine List.ext_getElem? fun i => ?_
    rw [List.getElem?_map, List.getElem?_set, List.length_map, List.getElem?_map]
    by_cases c : k = i
    · subst c
      rw [if_pos rfl, if_pos kl, hk]
      show some (if r.n = r.n ∧ r.s = r.s then _ else _) = _
      rw [if_pos ⟨rfl, rfl⟩]
      rfl
    · rw [if_neg c]
      cases hi : R[i]? with
      | none => rfl
      | some y =>
        show some (if y.n = r.n ∧ y.s = r.s then _ else rgE y) = some (rgE y)
        rw [if_neg]
        rintro ⟨a, b⟩
        refine c ((List.getElem?_inj (by rw [List.length_map]; exact kl) h.nk).mp ?_)
        rw [List.getElem?_map, List.getElem?_map, hk, hi]
        exact congrArg some (Prod.ext a b).symm
theorem RG.add (h : RG R) (hl : ∀ x ∈ R, x.l ≠ r.l) (hk : ∀ x ∈ R, ¬ (x.n = r.n ∧ x.s = r.s)) (hb : (0 ≤ r.l ∧ r.l < 100) ∧ 0 ≤ r.n ∧ r.n < 8) (hw : r.t ∈ words) : RG (R ++ [r]) := by
  refine ⟨?_, ?_, fun x hx => ?_, fun x hx => ?_⟩
  · rw [List.map_append]
    exact nd_sn h.nl fun z => by
      obtain ⟨x, hx, e⟩ := List.mem_map.mp z
      exact hl x hx e
  · rw [List.map_append]
    exact nd_sn h.nk fun z => by
      obtain ⟨x, hx, e⟩ := List.mem_map.mp z
      exact hk x hx ⟨congrArg Prod.fst e, congrArg Prod.snd e⟩
  · rcases List.mem_append.mp hx with z | z
    · exact h.bd x z
    · rw [List.mem_singleton.mp z]; exact hb
  · rcases List.mem_append.mp hx with z | z
    · exact h.wd x z
    · rw [List.mem_singleton.mp z]; exact hw
end

/-! ### one set in several processes, plainly -/
structure G (np : Nat) (q qs A B : Int) (v : Sv) (R : List Rg) : Prop where
  wf : WF v
  n8 : v.N = 8
  keys : v.tabs.map (·.1) = (List.range np).map fun (k : Nat) => (k : Int)
  tab : ∀ p : Nat, p < np → ∃ rows, lk v.tabs (p : Int) = some rows ∧ lk rows q = some qs ∧ ∀ n s, lk rows n = some s → n ≠ q → A ≤ s ∧ s < B
  home : ∃ rows, lk v.tabs 0 = some rows ∧ (∀ s, A ≤ s → s < B → lk rows s = some s) ∧ ∀ n s, lk rows n = some s → n ≠ q → s ≤ n
  set_ : lk v.ths qs = some (.set (R.map rgE) [])
  src : ∀ s, A ≤ s → s < B → lk v.ths s = some (.src 0 false)
  only : ∀ s tv, lk v.ths s = some tv → s = qs ∨ (A ≤ s ∧ s < B)
  rg : RG R
  rs : ∀ r ∈ R, A ≤ r.s ∧ r.s < B
  md : 0 ≤ v.made ∧ v.made ≤ 100
  np1 : 1 ≤ np
  nq : ¬ (A ≤ qs ∧ qs < B)
  nh : ¬ (A ≤ q ∧ q < B)
section
variable {np : Nat} {q qs A B : Int} {v : Sv} {R R' : List Rg}
theorem SetOk.regs (h : RG R) (hs : ∀ r ∈ R, ∃ u f, lk v.ths r.s = some (.src u f)) : SetOk v (R.map rgE) [] := by
  refine ⟨?_, ?_, List.nodup_nil, (fun x hx => nomatch hx), fun e he => ?_, ?_⟩
  · rw [List.map_map]
    exact h.nl
  · rw [List.map_map]
    exact h.nk
  · obtain ⟨r, hr, rfl⟩ := List.mem_map.mp he
    exact hs r hr
  · rw [List.length_map]
    have := h.len
    show R.length ≤ 1000000
    omega
/-- the registrations change -/
theorem G.re (h : G np q qs A B v R) (rg : RG R') (rs : ∀ r ∈ R', A ≤ r.s ∧ r.s < B) : G np q qs A B (v.re qs (.set (R'.map rgE) [])) R' := by
  have hl : ∀ s, lk (v.re qs (.set (R'.map rgE) [])).ths s = if s = qs then some (.set (R'.map rgE) []) else lk v.ths s := fun s => re_lk h.set_
  refine ⟨h.wf.re h.set_ rfl (fun es row e => ?_), h.n8, h.keys, h.tab, h.home, ?_, fun s s0 s1 => ?_, fun s tv hs => ?_, rg, rs, h.md, h.np1, h.nq, h.nh⟩
  · cases e
    exact SetOk.regs rg fun r hr => ⟨_, _, h.src r.s (rs r hr).1 (rs r hr).2⟩
  · rw [hl, if_pos rfl]
  · rw [hl, if_neg (fun (z : s = qs) => h.nq (by rw [← z]; exact ⟨s0, s1⟩))]
    exact h.src s s0 s1
  · rw [hl] at hs
    by_cases c : s = qs
    · exact .inl c
    · rw [if_neg c] at hs
      exact h.only s tv hs
/-- a table changes at a number that is neither the set's nor a home -/
theorem G.turn (h : G np q qs A B v R) {v' : Sv} {p : Nat} (hp : p < np) {rows rows' : List (Int × Int)} (wf : WF v') (e1 : v'.N = v.N) (e2 : v'.made = v.made) (e3 : v'.ths = v.ths) (ek : v'.tabs.map (·.1) = v.tabs.map (·.1)) (hr : lk v.tabs (p : Int) = some rows) (ht : ∀ i, lk v'.tabs i = if i = (p : Int) then some rows' else lk v.tabs i)
    {n : Int} {o : Option Int} (hn : ∀ m, lk rows' m = if m = n then o else lk rows m) (nq : n ≠ q) (ho : ∀ s, o = some s → A ≤ s ∧ s < B) (h0 : p = 0 → ¬ (A ≤ n ∧ n < B) ∧ ∀ s, o = some s → s ≤ n) : G np q qs A B v' R := by
  refine ⟨wf, e1.trans h.n8, ek.trans h.keys, fun j hj => ?_, ?_, by rw [e3]; exact h.set_, by rw [e3]; exact h.src, by rw [e3]; exact h.only, h.rg, h.rs, by rw [e2]; exact h.md, h.np1, h.nq, h.nh⟩
  · obtain ⟨rj, r1, r2, r3⟩ := h.tab j hj
    rw [ht]
    by_cases c : (j : Int) = (p : Int)
    · rw [if_pos c]
      rw [c, hr] at r1
      cases r1
      refine ⟨rows', rfl, ?_, fun m s hm nm => ?_⟩
      · rw [hn, if_neg (Ne.symm nq)]
        exact r2
      · rw [hn] at hm
        by_cases d : m = n
        · rw [if_pos d] at hm
          exact ho s hm
        · rw [if_neg d] at hm
          exact r3 m s hm nm
    · rw [if_neg c]
      exact ⟨rj, r1, r2, r3⟩
  · obtain ⟨r0, a1, a2, a3⟩ := h.home
    rw [ht]
    by_cases c : (0 : Int) = (p : Int)
    · rw [if_pos c]
      rw [c, hr] at a1
      cases a1
      obtain ⟨b1, b2⟩ := h0 (by omega)
      refine ⟨rows', rfl, fun s s0 s1 => ?_, fun m s hm nm => ?_⟩
      · rw [hn, if_neg (fun (z : s = n) => b1 (by rw [← z]; exact ⟨s0, s1⟩))]
        exact a2 s s0 s1
      · rw [hn] at hm
        by_cases d : m = n
        · rw [if_pos d] at hm
          rw [d]
          exact b2 s hm
        · rw [if_neg d] at hm
          exact a3 m s hm nm
    · rw [if_neg c]
      exact ⟨r0, a1, a2, a3⟩
/-- a number closed: its thing has its home -/
theorem G.close (h : G np q qs A B v R) {p : Nat} (hp : p < np) {rows : List (Int × Int)} (hr : lk v.tabs (p : Int) = some rows) {n s : Int} (hn : lk rows n = some s) (nq : n ≠ q) (h0 : p = 0 → ¬ (A ≤ n ∧ n < B)) :
    closeV v (p : Int) n s = v.cut (p : Int) n ∧ G np q qs A B (v.cut (p : Int) n) R ∧ ∀ i, lk (v.cut (p : Int) n).tabs i = if i = (p : Int) then some (dr rows n) else lk v.tabs i := by
  obtain ⟨rj, r1, r2, r3⟩ := h.tab p hp
  rw [hr] at r1
  cases r1
  obtain ⟨s0, s1⟩ := r3 n s hn nq
  have ht : ∀ i, lk (v.cut (p : Int) n).tabs i = if i = (p : Int) then some (dr rows n) else lk v.tabs i := fun i => by
    show lk (upAt v.tabs (p : Int) fun r => dr r n) i = _
    rw [upAt_lk]
    by_cases c : i = (p : Int)
    · rw [if_pos c, if_pos c, c, hr]
      rfl
    · rw [if_neg c, if_neg c]
  have hh : holds (v.cut (p : Int) n).tabs s ≠ [] := by
    obtain ⟨r0, a1, a2, a3⟩ := h.home
    refine holds_of (h.wf.cut0 (p : Int) n) ?_
    by_cases c : (0 : Int) = (p : Int)
    · rw [c, hr] at a1
      cases a1
      have ns : s ≠ n := fun z => h0 (by omega) (z ▸ ⟨s0, s1⟩)
      exact ⟨((p : Int), dr rows n), lk_mem (by rw [ht, if_pos rfl]), (s, s), dr_mem.mpr ⟨lk_mem (a2 s s0 s1), ns⟩, rfl⟩
    · exact ⟨(0, r0), lk_mem (by rw [ht, if_neg c]; exact a1), (s, s), lk_mem (a2 s s0 s1), rfl⟩
  have ec : closeV v (p : Int) n s = v.cut (p : Int) n := if_neg hh
  have wf := h.wf.close hr hn
  rw [ec] at wf
  refine ⟨ec, h.turn hp wf rfl rfl rfl (upAt_keys _ _ _) hr ht (o := none) (fun m => lk_dr rows) nq (fun _ z => nomatch z) (fun z => ⟨h0 z, fun _ y => nomatch y⟩), ht⟩
/-- a copy onto a number -/
theorem G.copy (h : G np q qs A B v R) {p : Nat} (hp : p < np) {rows : List (Int × Int)} (hr : lk v.tabs (p : Int) = some rows) {m n s : Int} (hm : lk rows m = some s) (mq : m ≠ q) (nq : n ≠ q) (hn : 0 ≤ n ∧ n < 8) (h0 : p = 0 → ¬ (A ≤ n ∧ n < B) ∧ s ≤ n) :
    ∃ rows', G np q qs A B (copyV v (p : Int) n s rows) R ∧ (∀ i, lk (copyV v (p : Int) n s rows).tabs i = if i = (p : Int) then some rows' else lk v.tabs i) ∧ ∀ j, lk rows' j = if j = n then some s else lk rows j := by
  obtain ⟨rj, r1, r2, r3⟩ := h.tab p hp
  rw [hr] at r1
  cases r1
  have sb := r3 m s hm mq
  have sin : s ∈ v.ths.map (·.1) := List.mem_map.mpr ⟨_, lk_mem (h.src s sb.1 sb.2), rfl⟩
  cases hc : lk rows n with
  | none =>
    have e : copyV v (p : Int) n s rows = v.addRow (p : Int) n s := by unfold copyV; rw [hc]
    have ht : ∀ i, lk (v.addRow (p : Int) n s).tabs i = if i = (p : Int) then some (rows ++ [(n, s)]) else lk v.tabs i := fun i => by
      show lk (upAt v.tabs (p : Int) (· ++ [(n, s)])) i = _
      rw [upAt_lk]
      by_cases c : i = (p : Int)
      · rw [if_pos c, if_pos c, c, hr]
        rfl
      · rw [if_neg c, if_neg c]
    have wf := h.wf.addRow hr ⟨hn.1, by rw [h.n8]; exact hn.2, lk_none.mp hc⟩ sin
    rw [e]
    exact ⟨_, h.turn hp wf rfl rfl rfl (show (upAt v.tabs (p : Int) (· ++ [(n, s)])).map (·.1) = _ from upAt_keys _ _ _) hr ht (o := some s) (fun j => lk_snoc hc) nq (fun s' z => by cases z; exact sb) (fun z => ⟨(h0 z).1, fun s' y => by cases y; exact (h0 z).2⟩), ht, fun j => lk_snoc hc⟩
  | some old =>
    by_cases eo : old = s
    · have e : copyV v (p : Int) n s rows = v := by unfold copyV; rw [hc]; exact if_pos eo
      rw [e]
      refine ⟨rows, h, fun i => ?_, fun j => ?_⟩
      · by_cases c : i = (p : Int)
        · rw [if_pos c, c, hr]
        · rw [if_neg c]
      · by_cases c : j = n
        · rw [if_pos c, c, hc, eo]
        · rw [if_neg c]
    · obtain ⟨c1, c2, c3⟩ := h.close hp hr hc nq (fun z => (h0 z).1)
      have e : copyV v (p : Int) n s rows = (v.cut (p : Int) n).addRow (p : Int) n s := by
        unfold copyV
        rw [hc]
        show (if old = s then v else (closeV v (p : Int) n old).addRow (p : Int) n s) = _
        rw [if_neg eo, c1]
      have hr2 : lk (v.cut (p : Int) n).tabs (p : Int) = some (dr rows n) := by rw [c3, if_pos rfl]
      have hn2 : lk (dr rows n) n = none := by rw [lk_dr, if_pos rfl]
      have ht : ∀ i, lk ((v.cut (p : Int) n).addRow (p : Int) n s).tabs i = if i = (p : Int) then some (dr rows n ++ [(n, s)]) else lk (v.cut (p : Int) n).tabs i := fun i => by
        show lk (upAt (v.cut (p : Int) n).tabs (p : Int) (· ++ [(n, s)])) i = _
        rw [upAt_lk]
        by_cases c : i = (p : Int)
        · rw [if_pos c, if_pos c, c, hr2]
          rfl
        · rw [if_neg c, if_neg c]
      have wf := c2.wf.addRow hr2 ⟨hn.1, by rw [c2.n8]; exact hn.2, lk_none.mp hn2⟩ sin
      have hj : ∀ j, lk (dr rows n ++ [(n, s)]) j = if j = n then some s else lk rows j := fun j => by
        rw [lk_snoc hn2, lk_dr]
        by_cases c : j = n
        · rw [if_pos c, if_pos c]
        · rw [if_neg c, if_neg c, if_neg c]
      rw [e]
      refine ⟨_, c2.turn hp wf rfl rfl rfl (show (upAt (v.cut (p : Int) n).tabs (p : Int) (· ++ [(n, s)])).map (·.1) = _ from upAt_keys _ _ _) hr2 ht (o := some s) (fun j => lk_snoc hn2) nq (fun s' z => by cases z; exact sb) (fun z => ⟨(h0 z).1, fun s' y => by cases y; exact (h0 z).2⟩), fun i => ?_, hj⟩
      rw [ht, c3]
      by_cases c : i = (p : Int)
      · rw [if_pos c, if_pos c]
      · rw [if_neg c, if_neg c, if_neg c]
end

/-! ### names and registrations of one set -/
theorem head_least {l : List Int} {x : Int} (hs : l.Pairwise (· ≤ ·)) (hx : x ∈ l) (hl : ∀ y ∈ l, x ≤ y) : ∃ rest, l = x :: rest := by
  cases l with
  | nil => cases hx
  | cons a l =>
    have h1 := hl a List.mem_cons_self
    have h2 : a ≤ x := by
      rcases List.mem_cons.mp hx with z | z
      · omega
      · exact (List.pairwise_cons.mp hs).1 x z
    have : a = x := by omega
    exact ⟨l, by rw [this]⟩
theorem rng_srt (np : Nat) : srtI ((List.range np).map fun (k : Nat) => (k : Int)) = (List.range np).map fun (k : Nat) => (k : Int) := by
  refine (srtI_eq (List.Perm.refl _) ?_).symm
  rw [List.pairwise_map]
  exact List.pairwise_lt_range.imp fun h => by omega
theorem name_home {v : Sv} {np : Nat} (hk : v.tabs.map (·.1) = (List.range np).map fun (k : Nat) => (k : Int)) (h1 : 1 ≤ np) {rows : List (Int × Int)} (hr : lk v.tabs 0 = some rows) {n ser : Int} (hn : lk rows n = some ser) (least : ∀ m, lk rows m = some ser → n ≤ m) : nameAt v ser = (0, n) := by
  unfold nameAt
  rw [holds_eq, hk, rng_srt]
  obtain ⟨m, rfl⟩ : ∃ m, np = m + 1 := ⟨np - 1, by omega⟩
  rw [List.range_succ_eq_map, List.map_cons, List.flatMap_cons]
  have e0 : hAt v.tabs ser ((0 : Nat) : Int) = holdsIn ser 0 rows := by
    unfold hAt
    rw [show ((0 : Nat) : Int) = 0 from rfl, hr]
  rw [e0]
  unfold holdsIn
  have hm : n ∈ (srtI (rows.map (·.1))).filter fun m => decide (lk rows m = some ser) := List.mem_filter.mpr ⟨srtI_mem.mpr (List.mem_map.mpr ⟨_, lk_mem hn, rfl⟩), decide_eq_true hn⟩
  obtain ⟨rest, e⟩ := head_least ((srtI_pw _).sublist List.filter_sublist) hm fun y hy => least y (of_decide_eq_true (List.mem_filter.mp hy).2)
  rw [e]
  rfl
theorem only_one {l : List Int} {a : Int} (nd : l.Nodup) (h : ∀ x, x ∈ l ↔ x = a) : l = [a] := by
  cases l with
  | nil => exact absurd ((h a).mpr rfl) (by simp)
  | cons b l =>
    have e := (h b).mp List.mem_cons_self
    subst e
    cases l with
    | nil => rfl
    | cons c l =>
      have e := (h c).mp (List.mem_cons_of_mem _ List.mem_cons_self)
      subst e
      simp at nd
def told (q : Int) (r : Rg) : Val := .tup [.tup [.int 0, .int q], .int r.l, .int r.n, .tup [.int 0, .int r.s], .str r.t, .bl true]
section
variable {np : Nat} {q qs A B : Int} {v : Sv} {R : List Rg}
theorem G.name (h : G np q qs A B v R) : nameAt v qs = (0, q) ∧ ∀ s, A ≤ s → s < B → nameAt v s = (0, s) := by
  obtain ⟨rows, a1, a2, a3⟩ := h.home
  obtain ⟨r0, b1, b2, b3⟩ := h.tab 0 (by have := h.np1; omega)
  rw [show (((0 : Nat) : Int)) = 0 from rfl, a1] at b1
  cases b1
  refine ⟨name_home h.keys h.np1 a1 b2 fun m hm => ?_, fun s s0 s1 => name_home h.keys h.np1 a1 (a2 s s0 s1) fun m hm => ?_⟩
  · by_cases c : m = q
    · omega
    · exact absurd (b3 m qs hm c) h.nq
  · by_cases c : m = q
    · rw [c, b2] at hm
      cases hm
      exact absurd ⟨s0, s1⟩ h.nq
    · exact a3 m s hm c
theorem G.sets (h : G np q qs A B v R) : setsIn v = [qs] := by
  have e : setSers v = [qs] := by
    refine only_one (setSers_nodup h.wf.w0) fun x => ?_
    unfold setSers
    constructor
    · intro hx
      obtain ⟨t, ht, rfl⟩ := List.mem_map.mp hx
      obtain ⟨h1, h2⟩ := List.mem_filter.mp ht
      have hl := lk_of_mem h.wf.nds (show (t.1, t.2) ∈ v.ths from h1)
      rcases h.only _ _ hl with z | ⟨z1, z2⟩
      · exact z
      · rw [h.src _ z1 z2] at hl
        cases t with
        | mk a b =>
          cases hl
          cases h2
    · intro e
      subst e
      exact List.mem_map.mpr ⟨_, List.mem_filter.mpr ⟨lk_mem h.set_, rfl⟩, rfl⟩
  unfold setsIn
  rw [e]
  exact List.mergeSort_singleton _
theorem G.regs (h : G np q qs A B v R) : regsV v = R.map (told q) ∧ (regsD v).length = R.length := by
  obtain ⟨n1, n2⟩ := h.name
  unfold regsV regsD
  rw [h.sets]
  have hr : regsOf v qs = R.map rgE := by
    unfold regsOf
    rw [h.set_]
  rw [List.flatMap_cons, List.flatMap_nil, List.append_nil, List.flatMap_cons, List.flatMap_nil, List.append_nil, hr]
  refine ⟨?_, by rw [List.length_map, List.length_map]⟩
  rw [List.map_map]
  refine List.map_congr_left fun r hr => ?_
  obtain ⟨s0, s1⟩ := h.rs r hr
  show Val.tup [nameV v qs, .int r.l, .int r.n, nameV v r.s, .str r.t, .bl true] = told q r
  unfold nameV told
  rw [n1, n2 r.s s0 s1]
theorem G.reg_ok (h : G np q qs A B v R) {x : Nat} {μ : Mu} : regM x v [] μ = .ok (.loc μ.nx) (μ.new (.lst (R.map (told q)))) := by
  obtain ⟨e1, e2⟩ := h.regs
  unfold regM
  rw [e1]
  simp only
  rw [if_pos ⟨by have := h.md; omega, by rw [e2]; have := h.rg.len; omega⟩]
end
def toldD (q : Int) (r : Rg) : PyData := .tuple [.tuple [.int 0, .int q], .int r.l, .int r.n, .tuple [.int 0, .int r.s], .str r.t, .bool true]
theorem str_okW {z : Str} (h : z ∈ words) : PyData.strOk z = true := by
  unfold words at h
  simp only [List.mem_cons, List.not_mem_nil, or_false] at h
  rcases h with h | h | h <;> subst h <;> decide +kernel
theorem dat_told {μ : Mu} {a : Nat} {q : Int} {R : List Rg} (hw : ∀ r ∈ R, r.t ∈ words) (h : μ.ob a = some (.lst (R.map (told q)))) : datM μ (.loc a) = some (.list (R.map (toldD q))) := by
  unfold datM
  rw [toD, seqOf_lst h]
  show (allO ((R.map (told q)).map (toD 7 μ))).map PyData.list = _
  rw [List.map_map]
  have : ∀ r ∈ R, (toD 7 μ ∘ told q) r = some (toldD q r) := fun r hr => by
    have e : toD 6 μ (.str r.t) = some (.str r.t) := by
      show (if PyData.strOk r.t = true then some (PyData.str r.t) else none) = _
      rw [if_pos (str_okW (hw r hr))]
    show (allO [some (PyData.tuple [.int 0, .int q]), some (.int r.l), some (.int r.n), some (PyData.tuple [.int 0, .int r.s]), toD 6 μ (.str r.t), some (.bool true)]).map PyData.tuple = _
    rw [e]
    rfl
  rw [allO_some (f := toD 7 μ ∘ told q) (g := toldD q) this]
  rfl
theorem lay_told {q : Int} : ∀ {R : List Rg}, (∀ r ∈ R, r.t ∈ words) → PyData.canLayAll0 (R.map (toldD q)) = true
  | [], _ => rfl
  | r :: R, h => by
    rw [List.map_cons, PyData.canLayAll0, lay_told fun x hx => h x (List.mem_cons_of_mem _ hx)]
    have e : PyData.canLay0 (toldD q r) = PyData.strOk r.t := by
      simp [toldD, PyData.canLay0, PyData.canLayAll0]
    rw [e, str_okW (h r List.mem_cons_self)]
    rfl
theorem eqv_told {q : Int} {R : List Rg} (h : ∀ r ∈ R, r.t ∈ words) : PyData.eqv (.list (R.map (toldD q))) (.list (R.map (toldD q))) = true := by
  rw [PyData.eqv]
  exact eqvAll_same (lay_told h)

/-! ### k07: the law's own search -/
theorem enm_rg {R : List Rg} {y : Val} (h : y ∈ enmM (R.map rgV)) : ∃ (i : Nat) (r : Rg), y = .tup [.int (i : Nat), rgV r] ∧ r ∈ R := by
  obtain ⟨i, hi⟩ := List.getElem?_of_mem h
  rw [enmM_get, List.getElem?_map] at hi
  cases hr : R[i]? with
  | none => rw [hr] at hi; cases hi
  | some r =>
    rw [hr] at hi
    cases hi
    exact ⟨i, r, rfl, List.mem_of_getElem? hr⟩
theorem cut_rg2 (r : Rg) : cutG [Val.int r.n, .int r.s, .int r.l, .str r.t] none (some 2) = [.int r.n, .int r.s] := rfl
theorem cut_rg3 (r : Rg) : cutG [Val.int r.n, .int r.s, .int r.l, .str r.t] none (some 3) = [.int r.n, .int r.s, .int r.l] := rfl
theorem sx2 : (HT.sIx 4 0 none = 0 ∧ HT.sIx 4 4 (some 2) = 4) = False := eq_false (by decide)
theorem sx3 : (HT.sIx 4 0 none = 0 ∧ HT.sIx 4 4 (some 3) = 4) = False := eq_false (by decide)
theorem eq_pair (μ : Mu) (a b c d : Int) : eqM (.tup [.int a, .int b]) (.tup [.int c, .int d]) μ = .ok (.bl (a == c && (b == d && true))) μ := rfl
section
variable {μ : Mu} {lr : Nat} {R : List Rg} {n s : Int}
theorem key_eq (hr : μ.ob lr = some (.lst (R.map rgV))) (rl : lr < μ.nx) (hz : R.length ≤ 1000) : d__law_key [.loc lr, .int n, .int s] μ = .ok (.loc μ.nx) (μ.new (.lst ((kx n s 0 R).map Val.int))) := by
  have hit : iEnm (mCons (mV 0) (mNil)) [some (.loc lr), some (.int n), some (.int s), none, none] μ = .ok (.enm lr) μ := by
    simp only [Wn.R.bind_ok, Wn.R.bind_no, Wn.R.cut_ok, Wn.R.cut_no, sThen_nx, sThen_rt, sThen_bk, sThen_ct, mC, mV, mNil, mCons, mTup, mLst, mOp, mUn, mFn, mMt, boolM, mTest, mAnd, mOr, mNot, mIf, mBl, mAndV, mOrV, mNotV, mAndT, mOrT, truM, List.isEmpty_cons, List.isEmpty_nil, addM, subM, mulM, modM, fdivM, powM, negM, ltM, leM, gtM, geM, cmpI, isM', isntM, isNon, getM, dgetM, slM, mSl, mP, mP0, lenM, listM, tupleM, minM, maxM, absM, intM, sortedM, mBm, lstOf, appM, popM, extM, idxM, remLM, sNil, sSeq, sSet, sExpr, sRet, sRetN, sIf, sBrk, sCnt, sPar, sPar3, sAsg, tgN, tgT, unp, stoM, dstoM, sSto, Wk.items, iSeq, iRng1, iRng2, iEnm, mCall, mMeth, sysOf, onSys, mMethK, mMake, mMakeK, makM, mYes, mListR1, mListR2, intBM, startV, seqOf, keyOf, List.getElem?_cons_zero, List.getElem?_cons_succ, List.getElem?_nil, List.set_cons_zero, List.set_cons_succ, List.map_cons, List.map_nil, List.length_cons, List.length_nil, List.cons_append, List.nil_append, List.append_nil, List.replicate, Nat.reduceAdd, Nat.reduceSub, Nat.reduceLeDiff, Nat.reduceLT, Nat.reduceEqDiff, Int.reduceLT, Int.reduceLE, Int.reduceNeg, Int.reducePow, ite_true, ite_false, if_true, if_false, reduceIte, Bool.false_eq_true, Bool.true_eq_false, Bool.not_true, Bool.not_false, and_self, and_true, true_and, Mu.put_same, Mu.new_same, Mu.put_nx, Mu.new_nx, Nat.zero_add, Nat.le_refl, Goes_nx, Gets_ok, Rets_nx, Rets_rt, CMul, CDiv, CPow, or_true, true_or, or_self, not_true, not_false_iff, mDm, dctV, popDM, getDM, mDisp, mPrs, kvOf, decide_false, decide_true, Int.reduceToNat, Nat.reducePow, Int.reduceAdd, Int.reduceSub, Int.reduceMul, hr]
  have items : ∀ {μ' : Mu}, μ'.ob lr = some (.lst (R.map rgV)) → (Wk.enm lr).items μ' = some (enmM (R.map rgV)) := fun {μ'} h => by
    show (seqOf μ' lr).map enmM = _
    rw [seqOf_lst h]
    rfl
  have L := mLc_pure (it := iEnm (mCons (mV 0) (mNil))) (own := [3, 4]) (g := tgT [3, 4]) (c := mTest (mOp eqM (mSl (mV 4) (mP0) (mP (mC (.int 2)))) (mTup (mCons (mV 1) (mCons (mV 2) (mNil)))))) (elt := mV 3) (ρ0 := [some (.loc lr), some (.int n), some (.int s), none, none]) (μ0 := μ) (μ := μ) (k := .enm lr) (vs := enmM (R.map rgV)) (rv := fun y => match y with | .tup [a, b] => [some (.loc lr), some (.int n), some (.int s), some a, some b] | _ => []) (p := keyP n s) (f := keyF) hit (items hr)
    (by unfold enmM; rw [List.length_map, List.length_zipIdx, List.length_map]; omega) (fun acc => items ((Mu.new_ne _ _ (by omega)).trans hr)) (fun y hy => by
      obtain ⟨i, r, rfl, _⟩ := enm_rg hy
      rfl) (fun y hy acc => by
      obtain ⟨i, r, rfl, _⟩ := enm_rg hy
      show mTest (mOp eqM (mSl (mV 4) (mP0) (mP (mC (.int 2)))) (mTup (mCons (mV 1) (mCons (mV 2) (mNil))))) [some (.loc lr), some (.int n), some (.int s), some (.int (i : Nat)), some (rgV r)] (μ.new (.lst acc)) = .ok (r.n == n && (r.s == s && true)) (μ.new (.lst acc))
      unfold rgV
      simp only [Wn.R.bind_ok, Wn.R.bind_no, Wn.R.cut_ok, Wn.R.cut_no, sThen_nx, sThen_rt, sThen_bk, sThen_ct, mC, mV, mNil, mCons, mTup, mLst, mOp, mUn, mFn, mMt, boolM, mTest, mAnd, mOr, mNot, mIf, mBl, mAndV, mOrV, mNotV, mAndT, mOrT, truM, List.isEmpty_cons, List.isEmpty_nil, addM, subM, mulM, modM, fdivM, powM, negM, ltM, leM, gtM, geM, cmpI, isM', isntM, isNon, getM, dgetM, slM, mSl, mP, mP0, lenM, listM, tupleM, minM, maxM, absM, intM, sortedM, mBm, lstOf, appM, popM, extM, idxM, remLM, sNil, sSeq, sSet, sExpr, sRet, sRetN, sIf, sBrk, sCnt, sPar, sPar3, sAsg, tgN, tgT, unp, stoM, dstoM, sSto, Wk.items, iSeq, iRng1, iRng2, iEnm, mCall, mMeth, sysOf, onSys, mMethK, mMake, mMakeK, makM, mYes, mListR1, mListR2, intBM, startV, seqOf, keyOf, List.getElem?_cons_zero, List.getElem?_cons_succ, List.getElem?_nil, List.set_cons_zero, List.set_cons_succ, List.map_cons, List.map_nil, List.length_cons, List.length_nil, List.cons_append, List.nil_append, List.append_nil, List.replicate, Nat.reduceAdd, Nat.reduceSub, Nat.reduceLeDiff, Nat.reduceLT, Nat.reduceEqDiff, Int.reduceLT, Int.reduceLE, Int.reduceNeg, Int.reducePow, ite_true, ite_false, if_true, if_false, reduceIte, Bool.false_eq_true, Bool.true_eq_false, Bool.not_true, Bool.not_false, and_self, and_true, true_and, Mu.put_same, Mu.new_same, Mu.put_nx, Mu.new_nx, Nat.zero_add, Nat.le_refl, Goes_nx, Gets_ok, Rets_nx, Rets_rt, CMul, CDiv, CPow, or_true, true_or, or_self, not_true, not_false_iff, mDm, dctV, popDM, getDM, mDisp, mPrs, kvOf, decide_false, decide_true, Int.reduceToNat, Nat.reducePow, Int.reduceAdd, Int.reduceSub, Int.reduceMul, sx2, cut_rg2, eq_pair]) (fun y hy _ acc => by
      obtain ⟨i, r, rfl, _⟩ := enm_rg hy
      rfl)
  have eF : ((enmM (R.map rgV)).filter (keyP n s)).map keyF = (kx n s 0 R).map Val.int := kx_filt n s R 0
  rw [eF] at L
  unfold d__law_key runM m__law_key
  rw [if_pos (show [Val.loc lr, Val.int n, Val.int s].length = 3 from rfl), show startV 5 [.loc lr, .int n, .int s] = [some (.loc lr), some (.int n), some (.int s), none, none] from rfl]
  unfold sRet
  rw [L]
  rfl
theorem labs_eq {v1 v2 v3 v4 : Option Val} (hr : μ.ob lr = some (.lst (R.map rgV))) (rl : lr < μ.nx) (hz : R.length ≤ 1000) : mLc (iSeq (mV 0)) [5] (tgN 5) (mYes) (mOp getM (mV 5) (mC (.int 2))) [some (.loc lr), v1, v2, v3, v4, none] μ = .ok (.loc μ.nx) (μ.new (.lst ((R.map (·.l)).map Val.int))) := by
  have L := mLc_pure (it := iSeq (mV 0)) (own := [5]) (g := tgN 5) (c := mYes) (elt := mOp getM (mV 5) (mC (.int 2))) (ρ0 := [some (.loc lr), v1, v2, v3, v4, none]) (μ0 := μ) (μ := μ) (k := .seq (.loc lr)) (vs := R.map rgV) (rv := fun y => [some (.loc lr), v1, v2, v3, v4, some y]) (p := fun _ => true) (f := fun y => match y with | .tup [_, _, l, _] => l | _ => .non) (by simp only [Wn.R.bind_ok, Wn.R.bind_no, Wn.R.cut_ok, Wn.R.cut_no, sThen_nx, sThen_rt, sThen_bk, sThen_ct, mC, mV, mNil, mCons, mTup, mLst, mOp, mUn, mFn, mMt, boolM, mTest, mAnd, mOr, mNot, mIf, mBl, mAndV, mOrV, mNotV, mAndT, mOrT, truM, List.isEmpty_cons, List.isEmpty_nil, addM, subM, mulM, modM, fdivM, powM, negM, ltM, leM, gtM, geM, cmpI, isM', isntM, isNon, getM, dgetM, slM, mSl, mP, mP0, lenM, listM, tupleM, minM, maxM, absM, intM, sortedM, mBm, lstOf, appM, popM, extM, idxM, remLM, sNil, sSeq, sSet, sExpr, sRet, sRetN, sIf, sBrk, sCnt, sPar, sPar3, sAsg, tgN, tgT, unp, stoM, dstoM, sSto, Wk.items, iSeq, iRng1, iRng2, iEnm, mCall, mMeth, sysOf, onSys, mMethK, mMake, mMakeK, makM, mYes, mListR1, mListR2, intBM, startV, seqOf, keyOf, List.getElem?_cons_zero, List.getElem?_cons_succ, List.getElem?_nil, List.set_cons_zero, List.set_cons_succ, List.map_cons, List.map_nil, List.length_cons, List.length_nil, List.cons_append, List.nil_append, List.append_nil, List.replicate, Nat.reduceAdd, Nat.reduceSub, Nat.reduceLeDiff, Nat.reduceLT, Nat.reduceEqDiff, Int.reduceLT, Int.reduceLE, Int.reduceNeg, Int.reducePow, ite_true, ite_false, if_true, if_false, reduceIte, Bool.false_eq_true, Bool.true_eq_false, Bool.not_true, Bool.not_false, and_self, and_true, true_and, Mu.put_same, Mu.new_same, Mu.put_nx, Mu.new_nx, Nat.zero_add, Nat.le_refl, Goes_nx, Gets_ok, Rets_nx, Rets_rt, CMul, CDiv, CPow, or_true, true_or, or_self, not_true, not_false_iff, mDm, dctV, popDM, getDM, mDisp, mPrs, kvOf, decide_false, decide_true, Int.reduceToNat, Nat.reducePow, Int.reduceAdd, Int.reduceSub, Int.reduceMul, hr]) (seqOf_lst hr) (by rw [List.length_map]; omega) (fun acc => seqOf_lst ((Mu.new_ne _ _ (by omega)).trans hr)) (fun _ _ => rfl) (fun _ _ _ => rfl) (fun y hy _ acc => by
    obtain ⟨r, hr', rfl⟩ := List.mem_map.mp hy
    have i2 : ∀ {a b c d : Val}, atI [a, b, c, d] 2 = some c := rfl
    show mOp getM (mV 5) (mC (.int 2)) [some (.loc lr), v1, v2, v3, v4, some (rgV r)] (μ.new (.lst acc)) = .ok (.int r.l) (μ.new (.lst acc))
    unfold rgV
    simp only [Wn.R.bind_ok, Wn.R.bind_no, Wn.R.cut_ok, Wn.R.cut_no, sThen_nx, sThen_rt, sThen_bk, sThen_ct, mC, mV, mNil, mCons, mTup, mLst, mOp, mUn, mFn, mMt, boolM, mTest, mAnd, mOr, mNot, mIf, mBl, mAndV, mOrV, mNotV, mAndT, mOrT, truM, List.isEmpty_cons, List.isEmpty_nil, addM, subM, mulM, modM, fdivM, powM, negM, ltM, leM, gtM, geM, cmpI, isM', isntM, isNon, getM, dgetM, slM, mSl, mP, mP0, lenM, listM, tupleM, minM, maxM, absM, intM, sortedM, mBm, lstOf, appM, popM, extM, idxM, remLM, sNil, sSeq, sSet, sExpr, sRet, sRetN, sIf, sBrk, sCnt, sPar, sPar3, sAsg, tgN, tgT, unp, stoM, dstoM, sSto, Wk.items, iSeq, iRng1, iRng2, iEnm, mCall, mMeth, sysOf, onSys, mMethK, mMake, mMakeK, makM, mYes, mListR1, mListR2, intBM, startV, seqOf, keyOf, List.getElem?_cons_zero, List.getElem?_cons_succ, List.getElem?_nil, List.set_cons_zero, List.set_cons_succ, List.map_cons, List.map_nil, List.length_cons, List.length_nil, List.cons_append, List.nil_append, List.append_nil, List.replicate, Nat.reduceAdd, Nat.reduceSub, Nat.reduceLeDiff, Nat.reduceLT, Nat.reduceEqDiff, Int.reduceLT, Int.reduceLE, Int.reduceNeg, Int.reducePow, ite_true, ite_false, if_true, if_false, reduceIte, Bool.false_eq_true, Bool.true_eq_false, Bool.not_true, Bool.not_false, and_self, and_true, true_and, Mu.put_same, Mu.new_same, Mu.put_nx, Mu.new_nx, Nat.zero_add, Nat.le_refl, Goes_nx, Gets_ok, Rets_nx, Rets_rt, CMul, CDiv, CPow, or_true, true_or, or_self, not_true, not_false_iff, mDm, dctV, popDM, getDM, mDisp, mPrs, kvOf, decide_false, decide_true, Int.reduceToNat, Nat.reducePow, Int.reduceAdd, Int.reduceSub, Int.reduceMul, i2])
  rw [L, List.filter_eq_self.mpr fun _ _ => rfl, List.map_map, List.map_map]
  rfl
variable {l : Int} {t : Str}
theorem emp_test {μ' : Mu} {a : Nat} {L : List Int} (h : μ'.ob a = some (.lst (L.map Val.int))) (al : a < μ'.nx) : neM (.loc a) (.loc μ'.nx) (μ'.new (.lst [])) = .ok (.bl (!L.isEmpty)) (μ'.new (.lst [])) ∧ eqM (.loc a) (.loc μ'.nx) (μ'.new (.lst [])) = .ok (.bl L.isEmpty) (μ'.new (.lst [])) := by
  have d1 : datM (μ'.new (.lst [])) (.loc a) = some (.list (L.map PyData.int)) := dat_ints (seqOf_lst ((Mu.new_ne _ _ (by omega)).trans h))
  have d2 : datM (μ'.new (.lst [])) (.loc μ'.nx) = some (.list []) := dat_lst0
  unfold neM eqM
  rw [d1, d2]
  simp only
  rw [eqv_ints_nil]
  exact ⟨rfl, rfl⟩
theorem added_reg (hr : μ.ob lr = some (.lst (R.map rgV))) (rl : lr < μ.nx) (hz : R.length ≤ 1000) {r : Rg} (rm : r ∈ R) (e1 : r.n = n) (e2 : r.s = s) : ∃ q μ', d__law_added [.loc lr, .int n, .int s, .int l, .str t] μ = .ok (.loc q) μ' ∧ μ'.ob q = some (.lst [.str "registered", .int n]) ∧ q < μ'.nx ∧ Kee [] μ μ' := by
  have ke := key_eq (n := n) (s := s) hr rl hz
  obtain ⟨μ1, hμ1⟩ : ∃ μ1, μ.new (.lst ((kx n s 0 R).map Val.int)) = μ1 := ⟨_, rfl⟩
  rw [hμ1] at ke
  have o1 : μ1.ob μ.nx = some (.lst ((kx n s 0 R).map Val.int)) := by rw [← hμ1]; exact Mu.new_same _ _
  have n1 : μ1.nx = μ.nx + 1 := by rw [← hμ1]; rfl
  have k1 : Kee [] μ μ1 := by rw [← hμ1]; exact Kee.new
  have te := (emp_test o1 (by omega)).1
  have hne : (kx n s 0 R).isEmpty = false := by
    rcases kx_cases n s R 0 with ⟨_, h2⟩ | ⟨k, rest, r', h1, _⟩
    · exact absurd ⟨e1, e2⟩ (h2 r rm)
    · rw [h1]; rfl
  rw [hne] at te
  unfold d__law_added runM m__law_added
  simp only [Wn.R.bind_ok, Wn.R.bind_no, Wn.R.cut_ok, Wn.R.cut_no, sThen_nx, sThen_rt, sThen_bk, sThen_ct, mC, mV, mNil, mCons, mTup, mLst, mOp, mUn, mFn, mMt, boolM, mTest, mAnd, mOr, mNot, mIf, mBl, mAndV, mOrV, mNotV, mAndT, mOrT, truM, List.isEmpty_cons, List.isEmpty_nil, addM, subM, mulM, modM, fdivM, powM, negM, ltM, leM, gtM, geM, cmpI, isM', isntM, isNon, getM, dgetM, slM, mSl, mP, mP0, lenM, listM, tupleM, minM, maxM, absM, intM, sortedM, mBm, lstOf, appM, popM, extM, idxM, remLM, sNil, sSeq, sSet, sExpr, sRet, sRetN, sIf, sBrk, sCnt, sPar, sPar3, sAsg, tgN, tgT, unp, stoM, dstoM, sSto, Wk.items, iSeq, iRng1, iRng2, iEnm, mCall, mMeth, sysOf, onSys, mMethK, mMake, mMakeK, makM, mYes, mListR1, mListR2, intBM, startV, seqOf, keyOf, List.getElem?_cons_zero, List.getElem?_cons_succ, List.getElem?_nil, List.set_cons_zero, List.set_cons_succ, List.map_cons, List.map_nil, List.length_cons, List.length_nil, List.cons_append, List.nil_append, List.append_nil, List.replicate, Nat.reduceAdd, Nat.reduceSub, Nat.reduceLeDiff, Nat.reduceLT, Nat.reduceEqDiff, Int.reduceLT, Int.reduceLE, Int.reduceNeg, Int.reducePow, ite_true, ite_false, if_true, if_false, reduceIte, Bool.false_eq_true, Bool.true_eq_false, Bool.not_true, Bool.not_false, and_self, and_true, true_and, Mu.put_same, Mu.new_same, Mu.put_nx, Mu.new_nx, Nat.zero_add, Nat.le_refl, Goes_nx, Gets_ok, Rets_nx, Rets_rt, CMul, CDiv, CPow, or_true, true_or, or_self, not_true, not_false_iff, mDm, dctV, popDM, getDM, mDisp, mPrs, kvOf, decide_false, decide_true, Int.reduceToNat, Nat.reducePow, Int.reduceAdd, Int.reduceSub, Int.reduceMul, ke, te]
  exact ⟨_, _, rfl, Mu.new_same _ _, Nat.lt_succ_self _, (k1.trans Kee.new).trans Kee.new⟩
theorem added_no (hr : μ.ob lr = some (.lst (R.map rgV))) (rl : lr < μ.nx) (hz : R.length ≤ 1000) (hk : ∀ r ∈ R, ¬ (r.n = n ∧ r.s = s)) : ∃ μ2, Kee [] μ μ2 ∧ μ2.ob lr = some (.lst (R.map rgV)) ∧
    (∀ r ∈ R, r.l = l → ∃ q μ', d__law_added [.loc lr, .int n, .int s, .int l, .str t] μ = .ok (.loc q) μ' ∧ μ'.ob q = some (.lst [.str "taken", .int l]) ∧ q < μ'.nx ∧ Kee [] μ μ') ∧
    ((∀ r ∈ R, r.l ≠ l) → d__law_added [.loc lr, .int n, .int s, .int l, .str t] μ = .ok .non (μ2.put lr (.lst ((R ++ [Rg.mk n s l t]).map rgV)))) := by
  have ke := key_eq (n := n) (s := s) hr rl hz
  obtain ⟨μ1, hμ1⟩ : ∃ μ1, μ.new (.lst ((kx n s 0 R).map Val.int)) = μ1 := ⟨_, rfl⟩
  rw [hμ1] at ke
  have o1 : μ1.ob μ.nx = some (.lst ((kx n s 0 R).map Val.int)) := by rw [← hμ1]; exact Mu.new_same _ _
  have n1 : μ1.nx = μ.nx + 1 := by rw [← hμ1]; rfl
  have k1 : Kee [] μ μ1 := by rw [← hμ1]; exact Kee.new
  have te := (emp_test o1 (by omega)).1
  have he : (kx n s 0 R).isEmpty = true := by
    rcases kx_cases n s R 0 with ⟨h1, _⟩ | ⟨k, rest, r', h1, h2, h3⟩
    · rw [h1]; rfl
    · exact absurd h3 (hk r' (List.mem_of_getElem? h2))
  rw [he] at te
  obtain ⟨μ2, hμ2⟩ : ∃ μ2, μ1.new (.lst []) = μ2 := ⟨_, rfl⟩
  rw [hμ2] at te
  have n2 : μ2.nx = μ1.nx + 1 := by rw [← hμ2]; rfl
  have k2 : Kee [] μ μ2 := by rw [← hμ2]; exact k1.trans Kee.new
  have hr2 := (k2.ob _ rl (by simp)).trans hr
  have la := labs_eq (v1 := some (.int n)) (v2 := some (.int s)) (v3 := some (.int l)) (v4 := some (.str t)) hr2 (by omega) hz
  obtain ⟨μ3, hμ3⟩ : ∃ μ3, μ2.new (.lst ((R.map (·.l)).map Val.int)) = μ3 := ⟨_, rfl⟩
  rw [hμ3] at la
  have o3 : μ3.ob μ2.nx = some (.lst ((R.map (·.l)).map Val.int)) := by rw [← hμ3]; exact Mu.new_same _ _
  have n3 : μ3.nx = μ2.nx + 1 := by rw [← hμ3]; rfl
  have k3 : Kee [] μ μ3 := by rw [← hμ3]; exact k2.trans Kee.new
  have hr3 := (k3.ob _ rl (by simp)).trans hr
  have ti := in_ints o3 l
  have T1 : mTest (mOp neM (mCall 3 d__law_key (mCons (mV 0) (mCons (mV 1) (mCons (mV 2) (mNil))))) (mLst (mNil))) [some (.loc lr), some (.int n), some (.int s), some (.int l), some (.str t), none] μ = .ok false μ2 := by
    simp only [Wn.R.bind_ok, Wn.R.bind_no, Wn.R.cut_ok, Wn.R.cut_no, sThen_nx, sThen_rt, sThen_bk, sThen_ct, mC, mV, mNil, mCons, mTup, mLst, mOp, mUn, mFn, mMt, boolM, mTest, mAnd, mOr, mNot, mIf, mBl, mAndV, mOrV, mNotV, mAndT, mOrT, truM, List.isEmpty_cons, List.isEmpty_nil, addM, subM, mulM, modM, fdivM, powM, negM, ltM, leM, gtM, geM, cmpI, isM', isntM, isNon, getM, dgetM, slM, mSl, mP, mP0, lenM, listM, tupleM, minM, maxM, absM, intM, sortedM, mBm, lstOf, appM, popM, extM, idxM, remLM, sNil, sSeq, sSet, sExpr, sRet, sRetN, sIf, sBrk, sCnt, sPar, sPar3, sAsg, tgN, tgT, unp, stoM, dstoM, sSto, Wk.items, iSeq, iRng1, iRng2, iEnm, mCall, mMeth, sysOf, onSys, mMethK, mMake, mMakeK, makM, mYes, mListR1, mListR2, intBM, startV, seqOf, keyOf, List.getElem?_cons_zero, List.getElem?_cons_succ, List.getElem?_nil, List.set_cons_zero, List.set_cons_succ, List.map_cons, List.map_nil, List.length_cons, List.length_nil, List.cons_append, List.nil_append, List.append_nil, List.replicate, Nat.reduceAdd, Nat.reduceSub, Nat.reduceLeDiff, Nat.reduceLT, Nat.reduceEqDiff, Int.reduceLT, Int.reduceLE, Int.reduceNeg, Int.reducePow, ite_true, ite_false, if_true, if_false, reduceIte, Bool.false_eq_true, Bool.true_eq_false, Bool.not_true, Bool.not_false, and_self, and_true, true_and, Mu.put_same, Mu.new_same, Mu.put_nx, Mu.new_nx, Nat.zero_add, Nat.le_refl, Goes_nx, Gets_ok, Rets_nx, Rets_rt, CMul, CDiv, CPow, or_true, true_or, or_self, not_true, not_false_iff, mDm, dctV, popDM, getDM, mDisp, mPrs, kvOf, decide_false, decide_true, Int.reduceToNat, Nat.reducePow, Int.reduceAdd, Int.reduceSub, Int.reduceMul, ke, hμ2, te]
  have T2 : mTest (mOp inM (mV 3) (mLc (iSeq (mV 0)) [5] (tgN 5) (mYes) (mOp getM (mV 5) (mC (.int 2))))) [some (.loc lr), some (.int n), some (.int s), some (.int l), some (.str t), none] μ2 = .ok (decide (l ∈ R.map (·.l))) μ3 := by
    exact test2 (show mV 3 _ _ = .ok (.int l) μ2 from rfl) la ti
  have e0 : startV 6 [.loc lr, .int n, .int s, .int l, .str t] = [some (.loc lr), some (.int n), some (.int s), some (.int l), some (.str t), none] := rfl
  refine ⟨μ3, k3, hr3, fun r rm e => ?_, fun hno => ?_⟩
  · have hin : l ∈ R.map (·.l) := List.mem_map.mpr ⟨r, rm, e⟩
    rw [decide_eq_true hin] at T2
    unfold d__law_added runM m__law_added
    rw [if_pos (show [Val.loc lr, Val.int n, Val.int s, Val.int l, Val.str t].length = 5 from rfl), e0, seq_nx (if_no T1)]
    rw [seq_rt (v := .loc μ3.nx) (μ1 := μ3.new (.lst [.str "taken", .int l])) ((if_yes T2).trans (by simp only [Wn.R.bind_ok, Wn.R.bind_no, Wn.R.cut_ok, Wn.R.cut_no, sThen_nx, sThen_rt, sThen_bk, sThen_ct, mC, mV, mNil, mCons, mTup, mLst, mOp, mUn, mFn, mMt, boolM, mTest, mAnd, mOr, mNot, mIf, mBl, mAndV, mOrV, mNotV, mAndT, mOrT, truM, List.isEmpty_cons, List.isEmpty_nil, addM, subM, mulM, modM, fdivM, powM, negM, ltM, leM, gtM, geM, cmpI, isM', isntM, isNon, getM, dgetM, slM, mSl, mP, mP0, lenM, listM, tupleM, minM, maxM, absM, intM, sortedM, mBm, lstOf, appM, popM, extM, idxM, remLM, sNil, sSeq, sSet, sExpr, sRet, sRetN, sIf, sBrk, sCnt, sPar, sPar3, sAsg, tgN, tgT, unp, stoM, dstoM, sSto, Wk.items, iSeq, iRng1, iRng2, iEnm, mCall, mMeth, sysOf, onSys, mMethK, mMake, mMakeK, makM, mYes, mListR1, mListR2, intBM, startV, seqOf, keyOf, List.getElem?_cons_zero, List.getElem?_cons_succ, List.getElem?_nil, List.set_cons_zero, List.set_cons_succ, List.map_cons, List.map_nil, List.length_cons, List.length_nil, List.cons_append, List.nil_append, List.append_nil, List.replicate, Nat.reduceAdd, Nat.reduceSub, Nat.reduceLeDiff, Nat.reduceLT, Nat.reduceEqDiff, Int.reduceLT, Int.reduceLE, Int.reduceNeg, Int.reducePow, ite_true, ite_false, if_true, if_false, reduceIte, Bool.false_eq_true, Bool.true_eq_false, Bool.not_true, Bool.not_false, and_self, and_true, true_and, Mu.put_same, Mu.new_same, Mu.put_nx, Mu.new_nx, Nat.zero_add, Nat.le_refl, Goes_nx, Gets_ok, Rets_nx, Rets_rt, CMul, CDiv, CPow, or_true, true_or, or_self, not_true, not_false_iff, mDm, dctV, popDM, getDM, mDisp, mPrs, kvOf, decide_false, decide_true, Int.reduceToNat, Nat.reducePow, Int.reduceAdd, Int.reduceSub, Int.reduceMul]))]
    exact ⟨_, _, rfl, Mu.new_same _ _, Nat.lt_succ_self _, k3.trans Kee.new⟩
  · have hin : l ∉ R.map (·.l) := fun z => by
      obtain ⟨r, rm, e⟩ := List.mem_map.mp z
      exact hno r rm e
    rw [decide_eq_false hin] at T2
    have hb : ((R.map rgV).length ≤ 1000000) = True := eq_true (by rw [List.length_map]; omega)
    unfold d__law_added runM m__law_added
    rw [if_pos (show [Val.loc lr, Val.int n, Val.int s, Val.int l, Val.str t].length = 5 from rfl), e0, seq_nx (if_no T1), seq_nx (if_no T2), List.map_append]
    simp only [Wn.R.bind_ok, Wn.R.bind_no, Wn.R.cut_ok, Wn.R.cut_no, sThen_nx, sThen_rt, sThen_bk, sThen_ct, mC, mV, mNil, mCons, mTup, mLst, mOp, mUn, mFn, mMt, boolM, mTest, mAnd, mOr, mNot, mIf, mBl, mAndV, mOrV, mNotV, mAndT, mOrT, truM, List.isEmpty_cons, List.isEmpty_nil, addM, subM, mulM, modM, fdivM, powM, negM, ltM, leM, gtM, geM, cmpI, isM', isntM, isNon, getM, dgetM, slM, mSl, mP, mP0, lenM, listM, tupleM, minM, maxM, absM, intM, sortedM, mBm, lstOf, appM, popM, extM, idxM, remLM, sNil, sSeq, sSet, sExpr, sRet, sRetN, sIf, sBrk, sCnt, sPar, sPar3, sAsg, tgN, tgT, unp, stoM, dstoM, sSto, Wk.items, iSeq, iRng1, iRng2, iEnm, mCall, mMeth, sysOf, onSys, mMethK, mMake, mMakeK, makM, mYes, mListR1, mListR2, intBM, startV, seqOf, keyOf, List.getElem?_cons_zero, List.getElem?_cons_succ, List.getElem?_nil, List.set_cons_zero, List.set_cons_succ, List.map_cons, List.map_nil, List.length_cons, List.length_nil, List.cons_append, List.nil_append, List.append_nil, List.replicate, Nat.reduceAdd, Nat.reduceSub, Nat.reduceLeDiff, Nat.reduceLT, Nat.reduceEqDiff, Int.reduceLT, Int.reduceLE, Int.reduceNeg, Int.reducePow, ite_true, ite_false, if_true, if_false, reduceIte, Bool.false_eq_true, Bool.true_eq_false, Bool.not_true, Bool.not_false, and_self, and_true, true_and, Mu.put_same, Mu.new_same, Mu.put_nx, Mu.new_nx, Nat.zero_add, Nat.le_refl, Goes_nx, Gets_ok, Rets_nx, Rets_rt, CMul, CDiv, CPow, or_true, true_or, or_self, not_true, not_false_iff, mDm, dctV, popDM, getDM, mDisp, mPrs, kvOf, decide_false, decide_true, Int.reduceToNat, Nat.reducePow, Int.reduceAdd, Int.reduceSub, Int.reduceMul, hr3, hb]
    rfl
end

/-! ### k07: what the law keeps -/
structure M07 (μ : Mu) (b x lt lr : Nat) (d : Nat → Nat) (v : Sv) (R : List Rg) : Prop where
  bg : Bag μ b
  hx : μ.ob x = some (.sys v)
  g : G 2 7 3 0 3 v R
  ot : μ.ob lt = some (.lst [.loc (d 0), .loc (d 1)])
  dt : ∀ p : Nat, p < 2 → ∃ kvs rows, μ.ob (d p) = some (.dct kvs) ∧ lk v.tabs (p : Int) = some rows ∧ DR kvs (dr rows 7) Val.int
  or_ : μ.ob lr = some (.lst (R.map rgV))
  xl : x < μ.nx
  tl : lt < μ.nx
  rl : lr < μ.nx
  dl : ∀ p, p < 2 → d p < μ.nx
  bx : b ≠ x
  bt : b ≠ lt
  br : b ≠ lr
  xt : x ≠ lt
  xr : x ≠ lr
  tr : lt ≠ lr
  dn : ∀ p, p < 2 → d p ≠ b ∧ d p ≠ x ∧ d p ≠ lt ∧ d p ≠ lr
  d01 : d 0 ≠ d 1
section
variable {μ μ' : Mu} {b x lt lr : Nat} {d : Nat → Nat} {v v' : Sv} {R R' : List Rg}
theorem M07.keep (h : M07 μ b x lt lr d v R) {S : List Nat} (kp : Kee S μ μ') (bg : Bag μ' b) (nx : x ∉ S) (nt : lt ∉ S) (nr : lr ∉ S) (nd : ∀ p, p < 2 → d p ∉ S) : M07 μ' b x lt lr d v R :=
  ⟨bg, (kp.ob _ h.xl nx).trans h.hx, h.g, (kp.ob _ h.tl nt).trans h.ot, fun p hp => by
    obtain ⟨kvs, rows, h1, h2⟩ := h.dt p hp
    exact ⟨kvs, rows, (kp.ob _ (h.dl p hp) (nd p hp)).trans h1, h2⟩, (kp.ob _ h.rl nr).trans h.or_, kp.lt h.xl, kp.lt h.tl, kp.lt h.rl, fun p hp => kp.lt (h.dl p hp), h.bx, h.bt, h.br, h.xt, h.xr, h.tr, h.dn, h.d01⟩
theorem M07.draw (h : M07 μ b x lt lr d v R) (kp : Kee [b] μ μ') (bg : Bag μ' b) : M07 μ' b x lt lr d v R :=
  h.keep kp bg (by simp [Ne.symm h.bx]) (by simp [Ne.symm h.bt]) (by simp [Ne.symm h.br]) fun p hp => by simp [(h.dn p hp).1]
theorem M07.any (h : M07 μ b x lt lr d v R) (kp : Kee [] μ μ') : M07 μ' b x lt lr d v R := h.keep kp (h.bg.keep kp (by simp)) (by simp) (by simp) (by simp) fun _ _ => by simp
/-- the registrations change -/
theorem M07.reg (h : M07 μ b x lt lr d v R) (kp : Kee [x, lr] μ μ') (hx : μ'.ob x = some (.sys v')) (ht : v'.tabs = v.tabs) (g : G 2 7 3 0 3 v' R') (hr : μ'.ob lr = some (.lst (R'.map rgV))) : M07 μ' b x lt lr d v' R' :=
  ⟨h.bg.keep kp (by simp [h.bx, h.br]), hx, g, (kp.ob _ h.tl (by simp [Ne.symm h.xt, h.tr])).trans h.ot, fun p hp => by
    obtain ⟨kvs, rows, h1, h2⟩ := h.dt p hp
    exact ⟨kvs, rows, (kp.ob _ (h.dl p hp) (by simp [(h.dn p hp).2.1, (h.dn p hp).2.2.2])).trans h1, by rw [ht]; exact h2⟩, hr, kp.lt h.xl, kp.lt h.tl, kp.lt h.rl, fun p hp => kp.lt (h.dl p hp), h.bx, h.bt, h.br, h.xt, h.xr, h.tr, h.dn, h.d01⟩
/-- a table changes -/
theorem M07.tab (h : M07 μ b x lt lr d v R) {p : Nat} (hp : p < 2) (kp : Kee [x, d p] μ μ') (hx : μ'.ob x = some (.sys v')) (g : G 2 7 3 0 3 v' R) {rows' : List (Int × Int)} (ht : ∀ i, lk v'.tabs i = if i = (p : Int) then some rows' else lk v.tabs i) {kvs' : List (Key × Val)} (hd : μ'.ob (d p) = some (.dct kvs')) (D : DR kvs' (dr rows' 7) Val.int) : M07 μ' b x lt lr d v' R := by
  obtain ⟨d1, d2, d3, d4⟩ := h.dn p hp
  refine ⟨h.bg.keep kp (by simp [h.bx, Ne.symm d1]), hx, g, (kp.ob _ h.tl (by simp [Ne.symm h.xt, Ne.symm d3])).trans h.ot, fun j hj => ?_, (kp.ob _ h.rl (by simp [Ne.symm h.xr, Ne.symm d4])).trans h.or_, kp.lt h.xl, kp.lt h.tl, kp.lt h.rl, fun p hp => kp.lt (h.dl p hp), h.bx, h.bt, h.br, h.xt, h.xr, h.tr, h.dn, h.d01⟩
  by_cases c : j = p
  · subst c
    exact ⟨kvs', rows', hd, by rw [ht, if_pos rfl], D⟩
  · obtain ⟨kvs, rows, h1, h2, h3⟩ := h.dt j hj
    have ne : d j ≠ d p := by
      have := h.d01
      match j, p, hj, hp, c with
      | 0, 1, _, _, _ => exact this
      | 1, 0, _, _, _ => exact this.symm
      | 0, 0, _, _, c => exact absurd rfl c
      | 1, 1, _, _, c => exact absurd rfl c
    exact ⟨kvs, rows, (kp.ob _ (h.dl j hj) (by simp [(h.dn j hj).2.1, ne])).trans h1, by rw [ht, if_neg (by omega)]; exact h2, h3⟩
end
theorem at_d {d : Nat → Nat} {p : Nat} (h : p < 2) : atI [Val.loc (d 0), .loc (d 1)] (p : Int) = some (.loc (d p)) := by
  match p, h with
  | 0, _ => rfl
  | 1, _ => rfl
/-! ### k07: errors -/
section
variable {μ : Mu} {x : Nat} {v : Sv} {p n m l : Int} {rows : List (Int × Int)} {ser ser1 u : Int} {f : Bool} {es : List Ev} {row : List Int} {wz : Str}
theorem add_reg (hp : lk v.tabs p = some rows) (hn : lk rows n = some ser1) (hs : lk v.ths ser1 = some (.set es row)) (hm : lk rows m = some ser) (hs2 : lk v.ths ser = some (.src u f)) (h1 : 0 ≤ l) (h2 : l ≤ 999999) (hw : wz ∈ words) (hk : ∃ e ∈ es, e.num = m ∧ e.ser = ser) :
    addM' x v [.int p, .int n, .int m, .int l, .str wz] μ = .er "Registered" (errV "number" (.int m) "Registered") μ := by
  unfold addM' byP byN onSet onSrc wordOf
  simp only [sca, and_self, if_true, hp, hn, hs, hm, hs2, cnt_ok h1 h2, hw]
  rw [if_pos hk]
theorem add_tak (hp : lk v.tabs p = some rows) (hn : lk rows n = some ser1) (hs : lk v.ths ser1 = some (.set es row)) (hm : lk rows m = some ser) (hs2 : lk v.ths ser = some (.src u f)) (h1 : 0 ≤ l) (h2 : l ≤ 999999) (hw : wz ∈ words) (hk : ¬ ∃ e ∈ es, e.num = m ∧ e.ser = ser) (hl : ∃ e ∈ es, e.lab = l) :
    addM' x v [.int p, .int n, .int m, .int l, .str wz] μ = .er "Taken" (errV "label" (.int l) "Taken") μ := by
  unfold addM' byP byN onSet onSrc wordOf
  simp only [sca, and_self, if_true, hp, hn, hs, hm, hs2, cnt_ok h1 h2, hw]
  rw [if_neg hk, if_pos hl]
theorem rem_no (hp : lk v.tabs p = some rows) (hn : lk rows n = some ser1) (hs : lk v.ths ser1 = some (.set es row)) (hm : lk rows m = some ser) (hs2 : lk v.ths ser = some (.src u f)) (hk : fKv es m ser = none) :
    remM x v [.int p, .int n, .int m] μ = .er "NotRegistered" (errV "number" (.int m) "NotRegistered") μ := by
  unfold remM byP byN onSet onSrc
  simp only [sca, and_self, if_true, hp, hn, hs, hm, hs2, hk]
theorem chg_no (hp : lk v.tabs p = some rows) (hn : lk rows n = some ser1) (hs : lk v.ths ser1 = some (.set es row)) (hm : lk rows m = some ser) (hs2 : lk v.ths ser = some (.src u f)) (hw : wz ∈ words) (hk : fKv es m ser = none) :
    chgM x v [.int p, .int n, .int m, .str wz] μ = .er "NotRegistered" (errV "number" (.int m) "NotRegistered") μ := by
  unfold chgM byP byN onSet onSrc wordOf
  simp only [sca, and_self, if_true, hp, hn, hs, hm, hs2, hw, hk]
end
theorem out_reg {m : ME} {ρ : Rho} {μ μ1 : Mu} {y : Val} (h : m ρ μ = .er "Registered" (errV "number" y "Registered") μ1) : mOut hs__law_outcome m ρ μ = .ok (.loc μ1.nx) (μ1.new (.lst [.str "registered", y])) := by
  unfold mOut
  rw [h]
  rfl
theorem out_nreg {m : ME} {ρ : Rho} {μ μ1 : Mu} {y : Val} (h : m ρ μ = .er "NotRegistered" (errV "number" y "NotRegistered") μ1) : mOut hs__law_outcome m ρ μ = .ok (.loc μ1.nx) (μ1.new (.lst [.str "not registered", y])) := by
  unfold mOut
  rw [h]
  rfl
theorem dat_two {μ : Mu} {a : Nat} {z : Str} {i : Int} (hz : PyData.strOk z = true) (h : μ.ob a = some (.lst [.str z, .int i])) : datM μ (.loc a) = some (.list [.str z, .int i]) := by
  unfold datM
  rw [toD, seqOf_lst h]
  have e : toD 7 μ (.str z) = some (.str z) := by
    show (if PyData.strOk z = true then some (PyData.str z) else none) = _
    rw [if_pos hz]
  show (allO [toD 7 μ (.str z), some (.int i)]).map PyData.list = _
  rw [e]
  rfl
theorem rep_two {z : Str} {i : Int} (hz : PyData.strOk z = true) (hl : z.cps.size ≤ 100) (h : i.natAbs < 10 ^ 12) : repOk (.list [.str z, .int i]) := by
  refine rep_small ?_ (by simp [PyData.depth, PyData.depthAll]) ?_
  · show (PyData.strOk z && (decide (i.natAbs < 10 ^ 12) && true)) = true
    rw [hz, decide_eq_true h]
    rfl
  · have := wt_int h
    show (z.cps.size + 1 + (PyData.weight (.int i) + 1 + 0)) ≤ 1000000
    omega
theorem twin_two {μ : Mu} {z : Str} (hz : PyData.strOk z = true) (hl : z.cps.size ≤ 100) {a b : Nat} {n : Int} (hn : n.natAbs < 10 ^ 12) (ha : μ.ob a = some (.lst [.str z, .int n])) (hb : μ.ob b = some (.lst [.str z, .int n])) : Twin μ (.loc a) (.loc b) :=
  ⟨_, dat_two hz ha, dat_two hz hb, rep_two hz hl hn⟩
theorem ok_reg : PyData.strOk "registered" = true := by decide +kernel
theorem ok_nreg : PyData.strOk "not registered" = true := by decide +kernel

theorem out_tak {m : ME} {ρ : Rho} {μ μ1 : Mu} {y : Val} (h : m ρ μ = .er "Taken" (errV "label" y "Taken") μ1) : mOut hs__law_outcome m ρ μ = .ok (.loc μ1.nx) (μ1.new (.lst [.str "taken", y])) := by
  unfold mOut
  rw [h]
  rfl
theorem ok_tak : PyData.strOk "taken" = true := by decide +kernel
def st07 (b x lt lr : Nat) (p n way l : Int) (t : Str) (v9 v10 : Option Val) : Rho := [some (.loc b), some (.loc x), some (.loc lt), some (.loc lr), some (.int p), some (.int n), some (.int way), some (.int l), some (.str t), v9, v10]
def P07 (μ : Mu) (b x lt lr : Nat) (d : Nat → Nat) (r : Val) (μ' : Mu) : Prop := ∃ q fo du v' R', r = .loc q ∧ μ'.ob q = some (.lst [fo, du]) ∧ Twin μ' fo du ∧ M07 μ' b x lt lr d v' R' ∧ Kee [b, x, lr] μ μ'
theorem done_eq {μ : Mu} {b x lt lr : Nat} {d : Nat → Nat} {v : Sv} {R : List Rg} (h : M07 μ b x lt lr d v R) : Gets (d__law_done [.loc b, .loc x, .loc lt, .loc lr] μ) (P07 μ b x lt lr d) := by
  obtain ⟨pi, μ1, e1, p0, p2, k1, b1, n1⟩ := take_eq h.bg (n := 2) (by decide) (by decide)
  have h1 := h.draw k1 b1
  obtain ⟨n, μ2, e2, q0, q6, k2, b2, n2⟩ := take_eq h1.bg (n := 6) (by decide) (by decide)
  have h2 := h1.draw k2 b2
  obtain ⟨way, μ3, e3, w0, w6, k3, b3, n3⟩ := take_eq h2.bg (n := 6) (by decide) (by decide)
  have h3 := h2.draw k3 b3
  obtain ⟨l, μ4, e4, l0, l7, k4, b4, n4⟩ := take_eq h3.bg (n := 7) (by decide) (by decide)
  have h4 := h3.draw k4 b4
  have h4' := h4.any (Kee.new (o := .lst [.str "level", .str "edge", .str "once"]))
  obtain ⟨y, μ5, e5, y1, k5, b5, n5⟩ := of_eq h4'.bg (l := μ4.nx) (seqOf_new μ4 _) (Nat.lt_succ_self _) (fun z => by have := h4.bg.1; omega) (by decide) (by decide)
  have h5 := h4'.draw k5 b5
  have kk : Kee [b, x, lr] μ μ5 := (((k1.trans k2).trans (k3.trans k4)).trans (Kee.new.trans k5)).mono (by simp)
  obtain ⟨t, rfl, ht⟩ : ∃ t : Str, y = .str t ∧ t ∈ words := by
    simp only [List.mem_cons, List.not_mem_nil, or_false] at y1
    unfold words
    rcases y1 with rfl | rfl | rfl
    · exact ⟨_, rfl, by simp⟩
    · exact ⟨_, rfl, by simp⟩
    · exact ⟨_, rfl, by simp⟩
  obtain ⟨p, rfl⟩ : ∃ p : Nat, pi = (p : Int) := ⟨pi.toNat, by omega⟩
  have hp : p < 2 := by omega
  refine Gets.run rfl ?_
  have A0 : sAsg (tgT [4, 5]) (mTup (mCons (mCall 2 d__law_take (mCons (mV 0) (mCons (mC (.int 2)) (mNil)))) (mCons (mCall 2 d__law_take (mCons (mV 0) (mCons (mC (.int 6)) (mNil)))) (mNil)))) (startV 11 [.loc b, .loc x, .loc lt, .loc lr]) μ = .ok (.nx [some (.loc b), some (.loc x), some (.loc lt), some (.loc lr), some (.int (p : Int)), some (.int n), none, none, none, none, none]) μ2 := by
    simp only [Wn.R.bind_ok, Wn.R.bind_no, Wn.R.cut_ok, Wn.R.cut_no, sThen_nx, sThen_rt, sThen_bk, sThen_ct, mC, mV, mNil, mCons, mTup, mLst, mOp, mUn, mFn, mMt, boolM, mTest, mAnd, mOr, mNot, mIf, mBl, mAndV, mOrV, mNotV, mAndT, mOrT, truM, List.isEmpty_cons, List.isEmpty_nil, addM, subM, mulM, modM, fdivM, powM, negM, ltM, leM, gtM, geM, cmpI, isM', isntM, isNon, getM, dgetM, slM, mSl, mP, mP0, lenM, listM, tupleM, minM, maxM, absM, intM, sortedM, mBm, lstOf, appM, popM, extM, idxM, remLM, sNil, sSeq, sSet, sExpr, sRet, sRetN, sIf, sBrk, sCnt, sPar, sPar3, sAsg, tgN, tgT, unp, stoM, dstoM, sSto, Wk.items, iSeq, iRng1, iRng2, iEnm, mCall, mMeth, sysOf, onSys, mMethK, mMake, mMakeK, makM, mYes, mListR1, mListR2, intBM, startV, seqOf, keyOf, List.getElem?_cons_zero, List.getElem?_cons_succ, List.getElem?_nil, List.set_cons_zero, List.set_cons_succ, List.map_cons, List.map_nil, List.length_cons, List.length_nil, List.cons_append, List.nil_append, List.append_nil, List.replicate, Nat.reduceAdd, Nat.reduceSub, Nat.reduceLeDiff, Nat.reduceLT, Nat.reduceEqDiff, Int.reduceLT, Int.reduceLE, Int.reduceNeg, Int.reducePow, ite_true, ite_false, if_true, if_false, reduceIte, Bool.false_eq_true, Bool.true_eq_false, Bool.not_true, Bool.not_false, and_self, and_true, true_and, Mu.put_same, Mu.new_same, Mu.put_nx, Mu.new_nx, Nat.zero_add, Nat.le_refl, Goes_nx, Gets_ok, Rets_nx, Rets_rt, CMul, CDiv, CPow, or_true, true_or, or_self, not_true, not_false_iff, mDm, dctV, popDM, getDM, mDisp, mPrs, kvOf, decide_false, decide_true, Int.reduceToNat, Nat.reducePow, Int.reduceAdd, Int.reduceSub, Int.reduceMul, e1, e2]
  have A1 : sAsg (tgT [6, 7, 8]) (mTup (mCons (mCall 2 d__law_take (mCons (mV 0) (mCons (mC (.int 6)) (mNil)))) (mCons (mCall 2 d__law_take (mCons (mV 0) (mCons (mC (.int 7)) (mNil)))) (mCons (mCall 2 d__law_of (mCons (mV 0) (mCons (mLst (mCons (mC (.str "level")) (mCons (mC (.str "edge")) (mCons (mC (.str "once")) (mNil))))) (mNil)))) (mNil))))) [some (.loc b), some (.loc x), some (.loc lt), some (.loc lr), some (.int (p : Int)), some (.int n), none, none, none, none, none] μ2 = .ok (.nx (st07 b x lt lr p n way l t none none)) μ5 := by
    unfold st07
    simp only [Wn.R.bind_ok, Wn.R.bind_no, Wn.R.cut_ok, Wn.R.cut_no, sThen_nx, sThen_rt, sThen_bk, sThen_ct, mC, mV, mNil, mCons, mTup, mLst, mOp, mUn, mFn, mMt, boolM, mTest, mAnd, mOr, mNot, mIf, mBl, mAndV, mOrV, mNotV, mAndT, mOrT, truM, List.isEmpty_cons, List.isEmpty_nil, addM, subM, mulM, modM, fdivM, powM, negM, ltM, leM, gtM, geM, cmpI, isM', isntM, isNon, getM, dgetM, slM, mSl, mP, mP0, lenM, listM, tupleM, minM, maxM, absM, intM, sortedM, mBm, lstOf, appM, popM, extM, idxM, remLM, sNil, sSeq, sSet, sExpr, sRet, sRetN, sIf, sBrk, sCnt, sPar, sPar3, sAsg, tgN, tgT, unp, stoM, dstoM, sSto, Wk.items, iSeq, iRng1, iRng2, iEnm, mCall, mMeth, sysOf, onSys, mMethK, mMake, mMakeK, makM, mYes, mListR1, mListR2, intBM, startV, seqOf, keyOf, List.getElem?_cons_zero, List.getElem?_cons_succ, List.getElem?_nil, List.set_cons_zero, List.set_cons_succ, List.map_cons, List.map_nil, List.length_cons, List.length_nil, List.cons_append, List.nil_append, List.append_nil, List.replicate, Nat.reduceAdd, Nat.reduceSub, Nat.reduceLeDiff, Nat.reduceLT, Nat.reduceEqDiff, Int.reduceLT, Int.reduceLE, Int.reduceNeg, Int.reducePow, ite_true, ite_false, if_true, if_false, reduceIte, Bool.false_eq_true, Bool.true_eq_false, Bool.not_true, Bool.not_false, and_self, and_true, true_and, Mu.put_same, Mu.new_same, Mu.put_nx, Mu.new_nx, Nat.zero_add, Nat.le_refl, Goes_nx, Gets_ok, Rets_nx, Rets_rt, CMul, CDiv, CPow, or_true, true_or, or_self, not_true, not_false_iff, mDm, dctV, popDM, getDM, mDisp, mPrs, kvOf, decide_false, decide_true, Int.reduceToNat, Nat.reducePow, Int.reduceAdd, Int.reduceSub, Int.reduceMul, e3, e4, e5]
  unfold m__law_done
  rw [seq_nx A0, seq_nx A1]
  obtain ⟨kvs, rows, od, hrows, D⟩ := h5.dt p hp
  have ot := h5.ot
  have n7 : n ≠ 7 := by omega
  have hget : kGet kvs (.inl n) = (lk rows n).map Val.int := by
    rw [D.get n, lk_dr, if_neg n7]
  have A2 : sSet 9 (mDm getDM (mOp getM (mV 2) (mV 4)) (mV 5)) (st07 b x lt lr p n way l t none none) μ5 = .ok (.nx (st07 b x lt lr p n way l t (some (((lk rows n).map Val.int).getD .non)) none)) μ5 := by
    unfold st07
    simp only [Wn.R.bind_ok, Wn.R.bind_no, Wn.R.cut_ok, Wn.R.cut_no, sThen_nx, sThen_rt, sThen_bk, sThen_ct, mC, mV, mNil, mCons, mTup, mLst, mOp, mUn, mFn, mMt, boolM, mTest, mAnd, mOr, mNot, mIf, mBl, mAndV, mOrV, mNotV, mAndT, mOrT, truM, List.isEmpty_cons, List.isEmpty_nil, addM, subM, mulM, modM, fdivM, powM, negM, ltM, leM, gtM, geM, cmpI, isM', isntM, isNon, getM, dgetM, slM, mSl, mP, mP0, lenM, listM, tupleM, minM, maxM, absM, intM, sortedM, mBm, lstOf, appM, popM, extM, idxM, remLM, sNil, sSeq, sSet, sExpr, sRet, sRetN, sIf, sBrk, sCnt, sPar, sPar3, sAsg, tgN, tgT, unp, stoM, dstoM, sSto, Wk.items, iSeq, iRng1, iRng2, iEnm, mCall, mMeth, sysOf, onSys, mMethK, mMake, mMakeK, makM, mYes, mListR1, mListR2, intBM, startV, seqOf, keyOf, List.getElem?_cons_zero, List.getElem?_cons_succ, List.getElem?_nil, List.set_cons_zero, List.set_cons_succ, List.map_cons, List.map_nil, List.length_cons, List.length_nil, List.cons_append, List.nil_append, List.append_nil, List.replicate, Nat.reduceAdd, Nat.reduceSub, Nat.reduceLeDiff, Nat.reduceLT, Nat.reduceEqDiff, Int.reduceLT, Int.reduceLE, Int.reduceNeg, Int.reducePow, ite_true, ite_false, if_true, if_false, reduceIte, Bool.false_eq_true, Bool.true_eq_false, Bool.not_true, Bool.not_false, and_self, and_true, true_and, Mu.put_same, Mu.new_same, Mu.put_nx, Mu.new_nx, Nat.zero_add, Nat.le_refl, Goes_nx, Gets_ok, Rets_nx, Rets_rt, CMul, CDiv, CPow, or_true, true_or, or_self, not_true, not_false_iff, mDm, dctV, popDM, getDM, mDisp, mPrs, kvOf, decide_false, decide_true, Int.reduceToNat, Nat.reducePow, Int.reduceAdd, Int.reduceSub, Int.reduceMul, ot, at_d hp, od, dctOf, hget]
  rw [seq_nx A2]
  have fin : ∀ {fo du : Val} {μ9 : Mu} {v' : Sv} {R' : List Rg}, (∀ μ', Kee [] μ9 μ' → Twin μ' fo du) → M07 μ9 b x lt lr d v' R' → Kee [b, x, lr] μ μ9 → P07 μ b x lt lr d (.loc μ9.nx) (μ9.new (.lst [fo, du])) := fun tw M kq => ⟨_, _, _, _, _, rfl, Mu.new_same _ _, tw _ Kee.new, M.any Kee.new, kq.trans Kee.new⟩
  cases hs : lk rows n with
  | none =>
    have T : mTest (mOp isM' (mV 9) (mC .non)) (st07 b x lt lr p n way l t (some .non) none) μ5 = .ok true μ5 := by
      unfold st07
      simp only [Wn.R.bind_ok, Wn.R.bind_no, Wn.R.cut_ok, Wn.R.cut_no, sThen_nx, sThen_rt, sThen_bk, sThen_ct, mC, mV, mNil, mCons, mTup, mLst, mOp, mUn, mFn, mMt, boolM, mTest, mAnd, mOr, mNot, mIf, mBl, mAndV, mOrV, mNotV, mAndT, mOrT, truM, List.isEmpty_cons, List.isEmpty_nil, addM, subM, mulM, modM, fdivM, powM, negM, ltM, leM, gtM, geM, cmpI, isM', isntM, isNon, getM, dgetM, slM, mSl, mP, mP0, lenM, listM, tupleM, minM, maxM, absM, intM, sortedM, mBm, lstOf, appM, popM, extM, idxM, remLM, sNil, sSeq, sSet, sExpr, sRet, sRetN, sIf, sBrk, sCnt, sPar, sPar3, sAsg, tgN, tgT, unp, stoM, dstoM, sSto, Wk.items, iSeq, iRng1, iRng2, iEnm, mCall, mMeth, sysOf, onSys, mMethK, mMake, mMakeK, makM, mYes, mListR1, mListR2, intBM, startV, seqOf, keyOf, List.getElem?_cons_zero, List.getElem?_cons_succ, List.getElem?_nil, List.set_cons_zero, List.set_cons_succ, List.map_cons, List.map_nil, List.length_cons, List.length_nil, List.cons_append, List.nil_append, List.append_nil, List.replicate, Nat.reduceAdd, Nat.reduceSub, Nat.reduceLeDiff, Nat.reduceLT, Nat.reduceEqDiff, Int.reduceLT, Int.reduceLE, Int.reduceNeg, Int.reducePow, ite_true, ite_false, if_true, if_false, reduceIte, Bool.false_eq_true, Bool.true_eq_false, Bool.not_true, Bool.not_false, and_self, and_true, true_and, Mu.put_same, Mu.new_same, Mu.put_nx, Mu.new_nx, Nat.zero_add, Nat.le_refl, Goes_nx, Gets_ok, Rets_nx, Rets_rt, CMul, CDiv, CPow, or_true, true_or, or_self, not_true, not_false_iff, mDm, dctV, popDM, getDM, mDisp, mPrs, kvOf, decide_false, decide_true, Int.reduceToNat, Nat.reducePow, Int.reduceAdd, Int.reduceSub, Int.reduceMul]
    rw [show (((none : Option Int).map Val.int).getD .non) = Val.non from rfl]
    rw [seq_rt ((if_yes T).trans (ret2 (show mC .non _ _ = _ from rfl) (show mC .non _ _ = _ from rfl)))]
    exact fin (fun μ' _ => twin_non μ') h5 kk
  | some s =>
    rw [show (((some s : Option Int).map Val.int).getD .non) = Val.int s from rfl]
    have T : mTest (mOp isM' (mV 9) (mC .non)) (st07 b x lt lr p n way l t (some (.int s)) none) μ5 = .ok false μ5 := by
      unfold st07
      simp only [Wn.R.bind_ok, Wn.R.bind_no, Wn.R.cut_ok, Wn.R.cut_no, sThen_nx, sThen_rt, sThen_bk, sThen_ct, mC, mV, mNil, mCons, mTup, mLst, mOp, mUn, mFn, mMt, boolM, mTest, mAnd, mOr, mNot, mIf, mBl, mAndV, mOrV, mNotV, mAndT, mOrT, truM, List.isEmpty_cons, List.isEmpty_nil, addM, subM, mulM, modM, fdivM, powM, negM, ltM, leM, gtM, geM, cmpI, isM', isntM, isNon, getM, dgetM, slM, mSl, mP, mP0, lenM, listM, tupleM, minM, maxM, absM, intM, sortedM, mBm, lstOf, appM, popM, extM, idxM, remLM, sNil, sSeq, sSet, sExpr, sRet, sRetN, sIf, sBrk, sCnt, sPar, sPar3, sAsg, tgN, tgT, unp, stoM, dstoM, sSto, Wk.items, iSeq, iRng1, iRng2, iEnm, mCall, mMeth, sysOf, onSys, mMethK, mMake, mMakeK, makM, mYes, mListR1, mListR2, intBM, startV, seqOf, keyOf, List.getElem?_cons_zero, List.getElem?_cons_succ, List.getElem?_nil, List.set_cons_zero, List.set_cons_succ, List.map_cons, List.map_nil, List.length_cons, List.length_nil, List.cons_append, List.nil_append, List.append_nil, List.replicate, Nat.reduceAdd, Nat.reduceSub, Nat.reduceLeDiff, Nat.reduceLT, Nat.reduceEqDiff, Int.reduceLT, Int.reduceLE, Int.reduceNeg, Int.reducePow, ite_true, ite_false, if_true, if_false, reduceIte, Bool.false_eq_true, Bool.true_eq_false, Bool.not_true, Bool.not_false, and_self, and_true, true_and, Mu.put_same, Mu.new_same, Mu.put_nx, Mu.new_nx, Nat.zero_add, Nat.le_refl, Goes_nx, Gets_ok, Rets_nx, Rets_rt, CMul, CDiv, CPow, or_true, true_or, or_self, not_true, not_false_iff, mDm, dctV, popDM, getDM, mDisp, mPrs, kvOf, decide_false, decide_true, Int.reduceToNat, Nat.reducePow, Int.reduceAdd, Int.reduceSub, Int.reduceMul]
    rw [seq_nx (if_no T)]
    obtain ⟨rows', r1, r2, r3⟩ := h5.g.tab p hp
    rw [hrows] at r1
    cases r1
    obtain ⟨s0, s3⟩ := r3 n s hs n7
    have hset := h5.g.set_
    have hsrc := h5.g.src s s0 s3
    have hlen := h5.g.rg.len
    have ke := key_eq (n := n) (s := s) h5.or_ h5.rl (by omega)
    obtain ⟨μ6, hμ6⟩ : ∃ μ6, μ5.new (.lst ((kx n s 0 R).map Val.int)) = μ6 := ⟨_, rfl⟩
    rw [hμ6] at ke
    have o6 : μ6.ob μ5.nx = some (.lst ((kx n s 0 R).map Val.int)) := by rw [← hμ6]; exact Mu.new_same _ _
    have n6 : μ6.nx = μ5.nx + 1 := by rw [← hμ6]; rfl
    have k6 : Kee [] μ5 μ6 := by rw [← hμ6]; exact Kee.new
    have h6 := h5.any k6
    have kk6 : Kee [b, x, lr] μ μ6 := kk.trans (k6.mono (by simp))
    have A3 : sSet 10 (mCall 3 d__law_key (mCons (mV 3) (mCons (mV 5) (mCons (mV 9) (mNil))))) (st07 b x lt lr p n way l t (some (.int s)) none) μ5 = .ok (.nx (st07 b x lt lr p n way l t (some (.int s)) (some (.loc μ5.nx)))) μ6 := by
      unfold st07
      simp only [Wn.R.bind_ok, Wn.R.bind_no, Wn.R.cut_ok, Wn.R.cut_no, sThen_nx, sThen_rt, sThen_bk, sThen_ct, mC, mV, mNil, mCons, mTup, mLst, mOp, mUn, mFn, mMt, boolM, mTest, mAnd, mOr, mNot, mIf, mBl, mAndV, mOrV, mNotV, mAndT, mOrT, truM, List.isEmpty_cons, List.isEmpty_nil, addM, subM, mulM, modM, fdivM, powM, negM, ltM, leM, gtM, geM, cmpI, isM', isntM, isNon, getM, dgetM, slM, mSl, mP, mP0, lenM, listM, tupleM, minM, maxM, absM, intM, sortedM, mBm, lstOf, appM, popM, extM, idxM, remLM, sNil, sSeq, sSet, sExpr, sRet, sRetN, sIf, sBrk, sCnt, sPar, sPar3, sAsg, tgN, tgT, unp, stoM, dstoM, sSto, Wk.items, iSeq, iRng1, iRng2, iEnm, mCall, mMeth, sysOf, onSys, mMethK, mMake, mMakeK, makM, mYes, mListR1, mListR2, intBM, startV, seqOf, keyOf, List.getElem?_cons_zero, List.getElem?_cons_succ, List.getElem?_nil, List.set_cons_zero, List.set_cons_succ, List.map_cons, List.map_nil, List.length_cons, List.length_nil, List.cons_append, List.nil_append, List.append_nil, List.replicate, Nat.reduceAdd, Nat.reduceSub, Nat.reduceLeDiff, Nat.reduceLT, Nat.reduceEqDiff, Int.reduceLT, Int.reduceLE, Int.reduceNeg, Int.reducePow, ite_true, ite_false, if_true, if_false, reduceIte, Bool.false_eq_true, Bool.true_eq_false, Bool.not_true, Bool.not_false, and_self, and_true, true_and, Mu.put_same, Mu.new_same, Mu.put_nx, Mu.new_nx, Nat.zero_add, Nat.le_refl, Goes_nx, Gets_ok, Rets_nx, Rets_rt, CMul, CDiv, CPow, or_true, true_or, or_self, not_true, not_false_iff, mDm, dctV, popDM, getDM, mDisp, mPrs, kvOf, decide_false, decide_true, Int.reduceToNat, Nat.reducePow, Int.reduceAdd, Int.reduceSub, Int.reduceMul, ke]
    rw [seq_nx A3]
    obtain ⟨ρ6, hρ⟩ : ∃ ρ6, st07 b x lt lr p n way l t (some (.int s)) (some (.loc μ5.nx)) = ρ6 := ⟨_, rfl⟩
    have q6' : ρ6[6]? = some (some (.int way)) := by rw [← hρ]; rfl
    have gl : ∀ {e : Int} {μ3 : Mu}, mTest (mOp ltM (mV 6) (mC (.int e))) ρ6 μ3 = .ok (decide (way < e)) μ3 := fun {e μ3} => by
      simp only [Wn.R.bind_ok, Wn.R.bind_no, Wn.R.cut_ok, Wn.R.cut_no, sThen_nx, sThen_rt, sThen_bk, sThen_ct, mC, mV, mNil, mCons, mTup, mLst, mOp, mUn, mFn, mMt, boolM, mTest, mAnd, mOr, mNot, mIf, mBl, mAndV, mOrV, mNotV, mAndT, mOrT, truM, List.isEmpty_cons, List.isEmpty_nil, addM, subM, mulM, modM, fdivM, powM, negM, ltM, leM, gtM, geM, cmpI, isM', isntM, isNon, getM, dgetM, slM, mSl, mP, mP0, lenM, listM, tupleM, minM, maxM, absM, intM, sortedM, mBm, lstOf, appM, popM, extM, idxM, remLM, sNil, sSeq, sSet, sExpr, sRet, sRetN, sIf, sBrk, sCnt, sPar, sPar3, sAsg, tgN, tgT, unp, stoM, dstoM, sSto, Wk.items, iSeq, iRng1, iRng2, iEnm, mCall, mMeth, sysOf, onSys, mMethK, mMake, mMakeK, makM, mYes, mListR1, mListR2, intBM, startV, seqOf, keyOf, List.getElem?_cons_zero, List.getElem?_cons_succ, List.getElem?_nil, List.set_cons_zero, List.set_cons_succ, List.map_cons, List.map_nil, List.length_cons, List.length_nil, List.cons_append, List.nil_append, List.append_nil, List.replicate, Nat.reduceAdd, Nat.reduceSub, Nat.reduceLeDiff, Nat.reduceLT, Nat.reduceEqDiff, Int.reduceLT, Int.reduceLE, Int.reduceNeg, Int.reducePow, ite_true, ite_false, if_true, if_false, reduceIte, Bool.false_eq_true, Bool.true_eq_false, Bool.not_true, Bool.not_false, and_self, and_true, true_and, Mu.put_same, Mu.new_same, Mu.put_nx, Mu.new_nx, Nat.zero_add, Nat.le_refl, Goes_nx, Gets_ok, Rets_nx, Rets_rt, CMul, CDiv, CPow, or_true, true_or, or_self, not_true, not_false_iff, mDm, dctV, popDM, getDM, mDisp, mPrs, kvOf, decide_false, decide_true, Int.reduceToNat, Nat.reducePow, Int.reduceAdd, Int.reduceSub, Int.reduceMul, q6']
    have hx6 := h6.hx
    -- two lists alike
    have two : ∀ {z : Str} {i : Int} {A C : ME} {μa : Mu}, PyData.strOk z = true → z.cps.size ≤ 100 → i.natAbs < 10 ^ 12 → M07 μa b x lt lr d v R → Kee [b, x, lr] μ μa → A ρ6 μa = .ok (.loc μa.nx) (μa.new (.lst [.str z, .int i])) → (∀ μ', Kee [] μa μ' → ∃ q μ'', C ρ6 μ' = .ok (.loc q) μ'' ∧ μ''.ob q = some (.lst [.str z, .int i]) ∧ q < μ''.nx ∧ Kee [] μ' μ'') → ∃ r μ', sRet (mLst (mCons A (mCons C mNil))) ρ6 μa = .ok (.rt r) μ' ∧ P07 μ b x lt lr d r μ' := by
      intro z i A C μa hz hl hi ha ka hA hC
      obtain ⟨qq, μb, c1, c2, c3, c4⟩ := hC _ (Kee.new (o := .lst [.str z, .int i]))
      refine ⟨_, _, ret2 hA c1, ?_⟩
      refine fin (fun μ' kp => twin_two hz hl hi ((kp.ob _ (c4.lt (Nat.lt_succ_self _)) (by simp)).trans ((c4.ob _ (Nat.lt_succ_self _) (by simp)).trans (Mu.new_same _ _))) ((kp.ob _ c3 (by simp)).trans c2)) ((ha.any Kee.new).any c4) (ka.trans (Kee.new.trans (c4.mono (by simp))))
    -- none told, none due
    have non : ∀ {A C : ME} {μa μb μc : Mu} {v' : Sv} {R' : List Rg}, A ρ6 μa = .ok .non μb → C ρ6 μb = .ok .non μc → M07 μc b x lt lr d v' R' → Kee [b, x, lr] μ μc → ∃ r μ', sRet (mLst (mCons A (mCons C mNil))) ρ6 μa = .ok (.rt r) μ' ∧ P07 μ b x lt lr d r μ' := fun hA hC hM hk => ⟨_, _, ret2 hA hC, fin (fun μ' _ => twin_non μ') hM hk⟩
    have o56 : ∀ {μ' : Mu}, Kee [] μ6 μ' → μ'.ob μ5.nx = some (.lst ((kx n s 0 R).map Val.int)) := fun kp => (kp.ob _ (by omega) (by simp)).trans o6
    have h10 := h6.rl
    have eN : ∀ {μ' : Mu} {o : Ob}, (μ'.put x o).ob lr = μ'.ob lr := fun {μ' o} => Mu.put_ne _ _ (Ne.symm h.xr)
    -- no label is set free or taken by a source that is not ready
    by_cases wA : way < 3
    · have hC : ∀ μ', mCall 5 d__law_added (mCons (mV 3) (mCons (mV 5) (mCons (mV 9) (mCons (mV 7) (mCons (mV 8) (mNil)))))) ρ6 μ' = (d__law_added [.loc lr, .int n, .int s, .int l, .str t] μ').cut := fun μ' => by
        rw [← hρ]
        unfold st07
        simp only [Wn.R.bind_ok, Wn.R.bind_no, Wn.R.cut_ok, Wn.R.cut_no, sThen_nx, sThen_rt, sThen_bk, sThen_ct, mC, mV, mNil, mCons, mTup, mLst, mOp, mUn, mFn, mMt, boolM, mTest, mAnd, mOr, mNot, mIf, mBl, mAndV, mOrV, mNotV, mAndT, mOrT, truM, List.isEmpty_cons, List.isEmpty_nil, addM, subM, mulM, modM, fdivM, powM, negM, ltM, leM, gtM, geM, cmpI, isM', isntM, isNon, getM, dgetM, slM, mSl, mP, mP0, lenM, listM, tupleM, minM, maxM, absM, intM, sortedM, mBm, lstOf, appM, popM, extM, idxM, remLM, sNil, sSeq, sSet, sExpr, sRet, sRetN, sIf, sBrk, sCnt, sPar, sPar3, sAsg, tgN, tgT, unp, stoM, dstoM, sSto, Wk.items, iSeq, iRng1, iRng2, iEnm, mCall, mMeth, sysOf, onSys, mMethK, mMake, mMakeK, makM, mYes, mListR1, mListR2, intBM, startV, seqOf, keyOf, List.getElem?_cons_zero, List.getElem?_cons_succ, List.getElem?_nil, List.set_cons_zero, List.set_cons_succ, List.map_cons, List.map_nil, List.length_cons, List.length_nil, List.cons_append, List.nil_append, List.append_nil, List.replicate, Nat.reduceAdd, Nat.reduceSub, Nat.reduceLeDiff, Nat.reduceLT, Nat.reduceEqDiff, Int.reduceLT, Int.reduceLE, Int.reduceNeg, Int.reducePow, ite_true, ite_false, if_true, if_false, reduceIte, Bool.false_eq_true, Bool.true_eq_false, Bool.not_true, Bool.not_false, and_self, and_true, true_and, Mu.put_same, Mu.new_same, Mu.put_nx, Mu.new_nx, Nat.zero_add, Nat.le_refl, Goes_nx, Gets_ok, Rets_nx, Rets_rt, CMul, CDiv, CPow, or_true, true_or, or_self, not_true, not_false_iff, mDm, dctV, popDM, getDM, mDisp, mPrs, kvOf, decide_false, decide_true, Int.reduceToNat, Nat.reducePow, Int.reduceAdd, Int.reduceSub, Int.reduceMul]
      have hM : ∀ {μ' : Mu}, μ'.ob x = some (.sys v) → mMethK (addM') 4 1 (fun xs zs => xs ++ (zs ++ [])) (mV 1) (mCons (mV 4) (mCons (mC (.int 7)) (mCons (mV 5) (mCons (mV 7) (mNil))))) (mCons (mV 8) (mNil)) ρ6 μ' = addM' x v [.int (p : Int), .int 7, .int n, .int l, .str t] μ' := fun {μ'} ho => by
        rw [← hρ]
        unfold st07
        simp only [Wn.R.bind_ok, Wn.R.bind_no, Wn.R.cut_ok, Wn.R.cut_no, sThen_nx, sThen_rt, sThen_bk, sThen_ct, mC, mV, mNil, mCons, mTup, mLst, mOp, mUn, mFn, mMt, boolM, mTest, mAnd, mOr, mNot, mIf, mBl, mAndV, mOrV, mNotV, mAndT, mOrT, truM, List.isEmpty_cons, List.isEmpty_nil, addM, subM, mulM, modM, fdivM, powM, negM, ltM, leM, gtM, geM, cmpI, isM', isntM, isNon, getM, dgetM, slM, mSl, mP, mP0, lenM, listM, tupleM, minM, maxM, absM, intM, sortedM, mBm, lstOf, appM, popM, extM, idxM, remLM, sNil, sSeq, sSet, sExpr, sRet, sRetN, sIf, sBrk, sCnt, sPar, sPar3, sAsg, tgN, tgT, unp, stoM, dstoM, sSto, Wk.items, iSeq, iRng1, iRng2, iEnm, mCall, mMeth, sysOf, onSys, mMethK, mMake, mMakeK, makM, mYes, mListR1, mListR2, intBM, startV, seqOf, keyOf, List.getElem?_cons_zero, List.getElem?_cons_succ, List.getElem?_nil, List.set_cons_zero, List.set_cons_succ, List.map_cons, List.map_nil, List.length_cons, List.length_nil, List.cons_append, List.nil_append, List.append_nil, List.replicate, Nat.reduceAdd, Nat.reduceSub, Nat.reduceLeDiff, Nat.reduceLT, Nat.reduceEqDiff, Int.reduceLT, Int.reduceLE, Int.reduceNeg, Int.reducePow, ite_true, ite_false, if_true, if_false, reduceIte, Bool.false_eq_true, Bool.true_eq_false, Bool.not_true, Bool.not_false, and_self, and_true, true_and, Mu.put_same, Mu.new_same, Mu.put_nx, Mu.new_nx, Nat.zero_add, Nat.le_refl, Goes_nx, Gets_ok, Rets_nx, Rets_rt, CMul, CDiv, CPow, or_true, true_or, or_self, not_true, not_false_iff, mDm, dctV, popDM, getDM, mDisp, mPrs, kvOf, decide_false, decide_true, Int.reduceToNat, Nat.reducePow, Int.reduceAdd, Int.reduceSub, Int.reduceMul, ho]
      have bd : ∃ r μ', sRet (mLst (mCons (mOut hs__law_outcome (mMethK (addM') 4 1 (fun xs zs => xs ++ (zs ++ [])) (mV 1) (mCons (mV 4) (mCons (mC (.int 7)) (mCons (mV 5) (mCons (mV 7) (mNil))))) (mCons (mV 8) (mNil)))) (mCons (mCall 5 d__law_added (mCons (mV 3) (mCons (mV 5) (mCons (mV 9) (mCons (mV 7) (mCons (mV 8) (mNil))))))) (mNil)))) ρ6 μ6 = .ok (.rt r) μ' ∧ P07 μ b x lt lr d r μ' := by
        rcases kx_cases n s R 0 with ⟨_, hno⟩ | ⟨k, rest, r, _, hk2, e1, e2⟩
        · have hk : ¬ ∃ e ∈ R.map rgE, e.num = n ∧ e.ser = s := fun ⟨e, he, q⟩ => by
            obtain ⟨r, hr, rfl⟩ := List.mem_map.mp he
            exact hno r hr q
          by_cases hl : ∃ r ∈ R, r.l = l
          · obtain ⟨r, rm, er⟩ := hl
            have ad := add_tak (x := x) (μ := μ6) hrows r2 hset hs hsrc l0 (by omega) ht hk ⟨rgE r, List.mem_map.mpr ⟨r, rm, rfl⟩, er⟩
            refine two ok_tak (by decide +kernel) (i := l) (by omega) h6 kk6 (out_tak ((hM hx6).trans ad)) fun μ' kp => ?_
            obtain ⟨μ2', a1, a2, a3, a4⟩ := added_no (l := l) (t := t) ((kp.ob _ h6.rl (by simp)).trans h6.or_) (kp.lt h6.rl) (by omega) hno
            obtain ⟨qq, μ'', c1, c2, c3, c4⟩ := a3 r rm er
            exact ⟨qq, μ'', by rw [hC, c1]; rfl, c2, c3, c4⟩
          · have hl' : ∀ r ∈ R, r.l ≠ l := fun r rm e => hl ⟨r, rm, e⟩
            have ad := add_ok (x := x) (μ := μ6) hrows r2 hset hs hsrc l0 (by omega) ht hk (fun ⟨e, he, q⟩ => by
              obtain ⟨r, hr, rfl⟩ := List.mem_map.mp he
              exact hl' r hr q) (by rw [List.length_map]; omega)
            have ea : addV (R.map rgE) [] n s l t (false || decide ((0 : Int) < 0)) = .set ((R ++ [Rg.mk n s l t]).map rgE) [] := by
              unfold addV
              rw [List.map_append]
              rfl
            rw [ea] at ad
            have g' := h6.g.re (R' := R ++ [Rg.mk n s l t]) (h6.g.rg.add (r := Rg.mk n s l t) hl' hno ⟨⟨l0, by show l < 100; omega⟩, q0, by show n < 8; omega⟩ ht) (fun r hr => by
              rcases List.mem_append.mp hr with z | z
              · exact h6.g.rs r z
              · rw [List.mem_singleton.mp z]; exact ⟨s0, s3⟩)
            generalize hv' : v.re 3 (.set ((R ++ [Rg.mk n s l t]).map rgE) []) = v' at ad g'
            have ht' : v'.tabs = v.tabs := by rw [← hv']; rfl
            obtain ⟨μ2', a1, a2, a3, a4⟩ := added_no (l := l) (t := t) (n := n) (s := s) (μ := μ6.put x (.sys v')) (eN.trans h6.or_) h6.rl (by omega) hno
            have kx' : Kee [x, lr] μ6 (μ2'.put lr (.lst ((R ++ [Rg.mk n s l t]).map rgV))) := ((Kee.put (by simp)).trans (a1.mono (by simp))).putN (.inr (by simp))
            refine non (out_ok ((hM hx6).trans ad)) (by rw [hC, a4 hl']; rfl) (h6.reg kx' ((Mu.put_ne _ _ h.xr).trans ((a1.ob _ h6.xl (by simp)).trans (Mu.put_same _ _ _))) ht' g' (Mu.put_same _ _ _)) (kk6.trans (kx'.mono (by simp)))
        · have rm := List.mem_of_getElem? hk2
          have ad := add_reg (x := x) (μ := μ6) hrows r2 hset hs hsrc l0 (by omega) ht ⟨rgE r, List.mem_map.mpr ⟨r, rm, rfl⟩, e1, e2⟩
          refine two ok_reg (by decide +kernel) (i := n) (by omega) h6 kk6 (out_reg ((hM hx6).trans ad)) fun μ' kp => ?_
          obtain ⟨qq, μ'', c1, c2, c3, c4⟩ := added_reg (l := l) (t := t) ((kp.ob _ h6.rl (by simp)).trans h6.or_) (kp.lt h6.rl) (by omega) rm e1 e2
          exact ⟨qq, μ'', by rw [hC, c1]; rfl, c2, c3, c4⟩
      obtain ⟨r, μ', e, q⟩ := bd
      rw [hρ, seq_rt ((if_yes (gl.trans (by rw [decide_eq_true wA]))).trans e)]
      exact q
    rw [hρ, seq_nx (if_no (gl.trans (by rw [decide_eq_false wA])))]
    -- the list of places is empty, or not
    have te := (emp_test o6 (by omega)).2
    obtain ⟨μ7, hμ7⟩ : ∃ μ7, μ6.new (.lst []) = μ7 := ⟨_, rfl⟩
    rw [hμ7] at te
    have n7' : μ7.nx = μ6.nx + 1 := by rw [← hμ7]; rfl
    have k7 : Kee [] μ6 μ7 := by rw [← hμ7]; exact Kee.new
    have h7 := h6.any k7
    have kk7 := kk6.trans (k7.mono (by simp))
    have hx7 := h7.hx
    have o7 := o56 k7
    have T10 : mTest (mOp eqM (mV 10) (mLst (mNil))) ρ6 μ6 = .ok (kx n s 0 R).isEmpty μ7 := by
      rw [← hρ]
      unfold st07
      simp only [Wn.R.bind_ok, Wn.R.bind_no, Wn.R.cut_ok, Wn.R.cut_no, sThen_nx, sThen_rt, sThen_bk, sThen_ct, mC, mV, mNil, mCons, mTup, mLst, mOp, mUn, mFn, mMt, boolM, mTest, mAnd, mOr, mNot, mIf, mBl, mAndV, mOrV, mNotV, mAndT, mOrT, truM, List.isEmpty_cons, List.isEmpty_nil, addM, subM, mulM, modM, fdivM, powM, negM, ltM, leM, gtM, geM, cmpI, isM', isntM, isNon, getM, dgetM, slM, mSl, mP, mP0, lenM, listM, tupleM, minM, maxM, absM, intM, sortedM, mBm, lstOf, appM, popM, extM, idxM, remLM, sNil, sSeq, sSet, sExpr, sRet, sRetN, sIf, sBrk, sCnt, sPar, sPar3, sAsg, tgN, tgT, unp, stoM, dstoM, sSto, Wk.items, iSeq, iRng1, iRng2, iEnm, mCall, mMeth, sysOf, onSys, mMethK, mMake, mMakeK, makM, mYes, mListR1, mListR2, intBM, startV, seqOf, keyOf, List.getElem?_cons_zero, List.getElem?_cons_succ, List.getElem?_nil, List.set_cons_zero, List.set_cons_succ, List.map_cons, List.map_nil, List.length_cons, List.length_nil, List.cons_append, List.nil_append, List.append_nil, List.replicate, Nat.reduceAdd, Nat.reduceSub, Nat.reduceLeDiff, Nat.reduceLT, Nat.reduceEqDiff, Int.reduceLT, Int.reduceLE, Int.reduceNeg, Int.reducePow, ite_true, ite_false, if_true, if_false, reduceIte, Bool.false_eq_true, Bool.true_eq_false, Bool.not_true, Bool.not_false, and_self, and_true, true_and, Mu.put_same, Mu.new_same, Mu.put_nx, Mu.new_nx, Nat.zero_add, Nat.le_refl, Goes_nx, Gets_ok, Rets_nx, Rets_rt, CMul, CDiv, CPow, or_true, true_or, or_self, not_true, not_false_iff, mDm, dctV, popDM, getDM, mDisp, mPrs, kvOf, decide_false, decide_true, Int.reduceToNat, Nat.reducePow, Int.reduceAdd, Int.reduceSub, Int.reduceMul, hμ7, te]
    have due : ∀ μ', ∃ q μ'', mLst (mCons (mC (.str "not registered")) (mCons (mV 5) (mNil))) ρ6 μ' = .ok (.loc q) μ'' ∧ μ''.ob q = some (.lst [.str "not registered", .int n]) ∧ q < μ''.nx ∧ Kee [] μ' μ'' := fun μ' => by
      rw [← hρ]
      unfold st07
      refine ⟨μ'.nx, μ'.new (.lst [.str "not registered", .int n]), ?_, Mu.new_same _ _, Nat.lt_succ_self _, Kee.new⟩
      simp only [Wn.R.bind_ok, Wn.R.bind_no, Wn.R.cut_ok, Wn.R.cut_no, sThen_nx, sThen_rt, sThen_bk, sThen_ct, mC, mV, mNil, mCons, mTup, mLst, mOp, mUn, mFn, mMt, boolM, mTest, mAnd, mOr, mNot, mIf, mBl, mAndV, mOrV, mNotV, mAndT, mOrT, truM, List.isEmpty_cons, List.isEmpty_nil, addM, subM, mulM, modM, fdivM, powM, negM, ltM, leM, gtM, geM, cmpI, isM', isntM, isNon, getM, dgetM, slM, mSl, mP, mP0, lenM, listM, tupleM, minM, maxM, absM, intM, sortedM, mBm, lstOf, appM, popM, extM, idxM, remLM, sNil, sSeq, sSet, sExpr, sRet, sRetN, sIf, sBrk, sCnt, sPar, sPar3, sAsg, tgN, tgT, unp, stoM, dstoM, sSto, Wk.items, iSeq, iRng1, iRng2, iEnm, mCall, mMeth, sysOf, onSys, mMethK, mMake, mMakeK, makM, mYes, mListR1, mListR2, intBM, startV, seqOf, keyOf, List.getElem?_cons_zero, List.getElem?_cons_succ, List.getElem?_nil, List.set_cons_zero, List.set_cons_succ, List.map_cons, List.map_nil, List.length_cons, List.length_nil, List.cons_append, List.nil_append, List.append_nil, List.replicate, Nat.reduceAdd, Nat.reduceSub, Nat.reduceLeDiff, Nat.reduceLT, Nat.reduceEqDiff, Int.reduceLT, Int.reduceLE, Int.reduceNeg, Int.reducePow, ite_true, ite_false, if_true, if_false, reduceIte, Bool.false_eq_true, Bool.true_eq_false, Bool.not_true, Bool.not_false, and_self, and_true, true_and, Mu.put_same, Mu.new_same, Mu.put_nx, Mu.new_nx, Nat.zero_add, Nat.le_refl, Goes_nx, Gets_ok, Rets_nx, Rets_rt, CMul, CDiv, CPow, or_true, true_or, or_self, not_true, not_false_iff, mDm, dctV, popDM, getDM, mDisp, mPrs, kvOf, decide_false, decide_true, Int.reduceToNat, Nat.reducePow, Int.reduceAdd, Int.reduceSub, Int.reduceMul]
    have hR : ∀ {μ' : Mu} {v0 : Sv}, μ'.ob x = some (.sys v0) → mMeth (remM) ([]) (mV 1) (mCons (mV 4) (mCons (mC (.int 7)) (mCons (mV 5) (mNil)))) ρ6 μ' = remM x v0 [.int (p : Int), .int 7, .int n] μ' := fun {μ' v0} ho => by
      rw [← hρ]
      unfold st07
      simp only [Wn.R.bind_ok, Wn.R.bind_no, Wn.R.cut_ok, Wn.R.cut_no, sThen_nx, sThen_rt, sThen_bk, sThen_ct, mC, mV, mNil, mCons, mTup, mLst, mOp, mUn, mFn, mMt, boolM, mTest, mAnd, mOr, mNot, mIf, mBl, mAndV, mOrV, mNotV, mAndT, mOrT, truM, List.isEmpty_cons, List.isEmpty_nil, addM, subM, mulM, modM, fdivM, powM, negM, ltM, leM, gtM, geM, cmpI, isM', isntM, isNon, getM, dgetM, slM, mSl, mP, mP0, lenM, listM, tupleM, minM, maxM, absM, intM, sortedM, mBm, lstOf, appM, popM, extM, idxM, remLM, sNil, sSeq, sSet, sExpr, sRet, sRetN, sIf, sBrk, sCnt, sPar, sPar3, sAsg, tgN, tgT, unp, stoM, dstoM, sSto, Wk.items, iSeq, iRng1, iRng2, iEnm, mCall, mMeth, sysOf, onSys, mMethK, mMake, mMakeK, makM, mYes, mListR1, mListR2, intBM, startV, seqOf, keyOf, List.getElem?_cons_zero, List.getElem?_cons_succ, List.getElem?_nil, List.set_cons_zero, List.set_cons_succ, List.map_cons, List.map_nil, List.length_cons, List.length_nil, List.cons_append, List.nil_append, List.append_nil, List.replicate, Nat.reduceAdd, Nat.reduceSub, Nat.reduceLeDiff, Nat.reduceLT, Nat.reduceEqDiff, Int.reduceLT, Int.reduceLE, Int.reduceNeg, Int.reducePow, ite_true, ite_false, if_true, if_false, reduceIte, Bool.false_eq_true, Bool.true_eq_false, Bool.not_true, Bool.not_false, and_self, and_true, true_and, Mu.put_same, Mu.new_same, Mu.put_nx, Mu.new_nx, Nat.zero_add, Nat.le_refl, Goes_nx, Gets_ok, Rets_nx, Rets_rt, CMul, CDiv, CPow, or_true, true_or, or_self, not_true, not_false_iff, mDm, dctV, popDM, getDM, mDisp, mPrs, kvOf, decide_false, decide_true, Int.reduceToNat, Nat.reducePow, Int.reduceAdd, Int.reduceSub, Int.reduceMul, ho]
    have hG1 : ∀ {μ' : Mu} {v0 : Sv}, μ'.ob x = some (.sys v0) → mMethK (chgM) 3 1 (fun xs zs => xs ++ zs) (mV 1) (mCons (mV 4) (mCons (mC (.int 7)) (mCons (mV 5) (mNil)))) (mCons (mV 8) (mNil)) ρ6 μ' = chgM x v0 [.int (p : Int), .int 7, .int n, .str t] μ' := fun {μ' v0} ho => by
      rw [← hρ]
      unfold st07
      simp only [Wn.R.bind_ok, Wn.R.bind_no, Wn.R.cut_ok, Wn.R.cut_no, sThen_nx, sThen_rt, sThen_bk, sThen_ct, mC, mV, mNil, mCons, mTup, mLst, mOp, mUn, mFn, mMt, boolM, mTest, mAnd, mOr, mNot, mIf, mBl, mAndV, mOrV, mNotV, mAndT, mOrT, truM, List.isEmpty_cons, List.isEmpty_nil, addM, subM, mulM, modM, fdivM, powM, negM, ltM, leM, gtM, geM, cmpI, isM', isntM, isNon, getM, dgetM, slM, mSl, mP, mP0, lenM, listM, tupleM, minM, maxM, absM, intM, sortedM, mBm, lstOf, appM, popM, extM, idxM, remLM, sNil, sSeq, sSet, sExpr, sRet, sRetN, sIf, sBrk, sCnt, sPar, sPar3, sAsg, tgN, tgT, unp, stoM, dstoM, sSto, Wk.items, iSeq, iRng1, iRng2, iEnm, mCall, mMeth, sysOf, onSys, mMethK, mMake, mMakeK, makM, mYes, mListR1, mListR2, intBM, startV, seqOf, keyOf, List.getElem?_cons_zero, List.getElem?_cons_succ, List.getElem?_nil, List.set_cons_zero, List.set_cons_succ, List.map_cons, List.map_nil, List.length_cons, List.length_nil, List.cons_append, List.nil_append, List.append_nil, List.replicate, Nat.reduceAdd, Nat.reduceSub, Nat.reduceLeDiff, Nat.reduceLT, Nat.reduceEqDiff, Int.reduceLT, Int.reduceLE, Int.reduceNeg, Int.reducePow, ite_true, ite_false, if_true, if_false, reduceIte, Bool.false_eq_true, Bool.true_eq_false, Bool.not_true, Bool.not_false, and_self, and_true, true_and, Mu.put_same, Mu.new_same, Mu.put_nx, Mu.new_nx, Nat.zero_add, Nat.le_refl, Goes_nx, Gets_ok, Rets_nx, Rets_rt, CMul, CDiv, CPow, or_true, true_or, or_self, not_true, not_false_iff, mDm, dctV, popDM, getDM, mDisp, mPrs, kvOf, decide_false, decide_true, Int.reduceToNat, Nat.reducePow, Int.reduceAdd, Int.reduceSub, Int.reduceMul, ho]
    have hG2 : ∀ {μ' : Mu} {v0 : Sv}, μ'.ob x = some (.sys v0) → mMethK (chgM) 2 2 (fun xs zs => xs ++ zs.reverse) (mV 1) (mCons (mV 4) (mCons (mC (.int 7)) (mNil))) (mCons (mV 8) (mCons (mV 5) (mNil))) ρ6 μ' = chgM x v0 [.int (p : Int), .int 7, .int n, .str t] μ' := fun {μ' v0} ho => by
      rw [← hρ]
      unfold st07
      simp only [Wn.R.bind_ok, Wn.R.bind_no, Wn.R.cut_ok, Wn.R.cut_no, sThen_nx, sThen_rt, sThen_bk, sThen_ct, mC, mV, mNil, mCons, mTup, mLst, mOp, mUn, mFn, mMt, boolM, mTest, mAnd, mOr, mNot, mIf, mBl, mAndV, mOrV, mNotV, mAndT, mOrT, truM, List.isEmpty_cons, List.isEmpty_nil, addM, subM, mulM, modM, fdivM, powM, negM, ltM, leM, gtM, geM, cmpI, isM', isntM, isNon, getM, dgetM, slM, mSl, mP, mP0, lenM, listM, tupleM, minM, maxM, absM, intM, sortedM, mBm, lstOf, appM, popM, extM, idxM, remLM, sNil, sSeq, sSet, sExpr, sRet, sRetN, sIf, sBrk, sCnt, sPar, sPar3, sAsg, tgN, tgT, unp, stoM, dstoM, sSto, Wk.items, iSeq, iRng1, iRng2, iEnm, mCall, mMeth, sysOf, onSys, mMethK, mMake, mMakeK, makM, mYes, mListR1, mListR2, intBM, startV, seqOf, keyOf, List.getElem?_cons_zero, List.getElem?_cons_succ, List.getElem?_nil, List.set_cons_zero, List.set_cons_succ, List.map_cons, List.map_nil, List.length_cons, List.length_nil, List.cons_append, List.nil_append, List.append_nil, List.replicate, Nat.reduceAdd, Nat.reduceSub, Nat.reduceLeDiff, Nat.reduceLT, Nat.reduceEqDiff, Int.reduceLT, Int.reduceLE, Int.reduceNeg, Int.reducePow, ite_true, ite_false, if_true, if_false, reduceIte, Bool.false_eq_true, Bool.true_eq_false, Bool.not_true, Bool.not_false, and_self, and_true, true_and, Mu.put_same, Mu.new_same, Mu.put_nx, Mu.new_nx, Nat.zero_add, Nat.le_refl, Goes_nx, Gets_ok, Rets_nx, Rets_rt, CMul, CDiv, CPow, or_true, true_or, or_self, not_true, not_false_iff, mDm, dctV, popDM, getDM, mDisp, mPrs, kvOf, decide_false, decide_true, Int.reduceToNat, Nat.reducePow, Int.reduceAdd, Int.reduceSub, Int.reduceMul, ho, List.reverse_cons, List.reverse_nil]
    rcases kx_cases n s R 0 with ⟨hk0, hno⟩ | ⟨k, rest, r, hk1, hk2, e1, e2⟩
    · have T1 : mTest (mOp eqM (mV 10) (mLst (mNil))) ρ6 μ6 = .ok true μ7 := by rw [T10, hk0]; rfl
      have hf := nokey_rgE hno
      by_cases wB : way < 5
      · have rn := rem_no (x := x) (μ := μ7) hrows r2 hset hs hsrc hf
        obtain ⟨rr, μ', e, q⟩ := two ok_nreg (by decide +kernel) (i := n) (by omega) h7 kk7 (out_nreg ((hR hx7).trans rn)) fun μ' _ => due μ'
        rw [seq_rt ((if_yes (gl.trans (by rw [decide_eq_true wB]))).trans (seq_rt ((if_yes T1).trans e)))]
        exact q
      · rw [seq_nx (if_no (gl.trans (by rw [decide_eq_false wB])))]
        have cn := chg_no (x := x) (μ := μ7) hrows r2 hset hs hsrc ht hf
        obtain ⟨rr, μ', e, q⟩ := two ok_nreg (by decide +kernel) (i := n) (by omega) h7 kk7 (out_nreg ((hG1 hx7).trans cn)) fun μ' _ => due μ'
        rw [seq_rt ((if_yes T1).trans e)]
        exact q
    · have T1 : mTest (mOp eqM (mV 10) (mLst (mNil))) ρ6 μ6 = .ok false μ7 := by rw [T10, hk1]; rfl
      have rm := List.mem_of_getElem? hk2
      have kl := (List.getElem?_eq_some_iff.mp hk2).1
      have hf : fKv (R.map rgE) n s = some (rgE r) := by
        have := key_rgE h5.g.rg.nk rm
        rw [e1, e2] at this
        exact this
      rw [hk1, List.map_cons, Nat.zero_add] at o7
      have i0 : atI (Val.int ((k : Nat) : Int) :: rest.map Val.int) 0 = some (.int ((k : Nat) : Int)) := atI_nat (xs := Val.int ((k : Nat) : Int) :: rest.map Val.int) (j := 0) (v := .int ((k : Nat) : Int)) rfl
      have or7 := h7.or_
      have hkV : (R.map rgV)[k]? = some (rgV r) := by rw [List.getElem?_map, hk2]; rfl
      have ik : ixN (R.map rgV).length ((k : Nat) : Int) = some k := by
        rw [ixN_in (by omega) (by rw [List.length_map]; omega)]
        rfl
      have hb : ((R.map rgV).length ≤ 1000000) = True := eq_true (by rw [List.length_map]; omega)
      by_cases wB : way < 5
      · have Po : sExpr (mBm popM (mV 3) (mCons (mOp getM (mV 10) (mC (.int 0))) (mNil))) ρ6 μ7 = .ok (.nx ρ6) (μ7.put lr (.lst ((R.eraseIdx k).map rgV))) := by
          rw [← hρ]
          unfold st07
          simp only [Wn.R.bind_ok, Wn.R.bind_no, Wn.R.cut_ok, Wn.R.cut_no, sThen_nx, sThen_rt, sThen_bk, sThen_ct, mC, mV, mNil, mCons, mTup, mLst, mOp, mUn, mFn, mMt, boolM, mTest, mAnd, mOr, mNot, mIf, mBl, mAndV, mOrV, mNotV, mAndT, mOrT, truM, List.isEmpty_cons, List.isEmpty_nil, addM, subM, mulM, modM, fdivM, powM, negM, ltM, leM, gtM, geM, cmpI, isM', isntM, isNon, getM, dgetM, slM, mSl, mP, mP0, lenM, listM, tupleM, minM, maxM, absM, intM, sortedM, mBm, lstOf, appM, popM, extM, idxM, remLM, sNil, sSeq, sSet, sExpr, sRet, sRetN, sIf, sBrk, sCnt, sPar, sPar3, sAsg, tgN, tgT, unp, stoM, dstoM, sSto, Wk.items, iSeq, iRng1, iRng2, iEnm, mCall, mMeth, sysOf, onSys, mMethK, mMake, mMakeK, makM, mYes, mListR1, mListR2, intBM, startV, seqOf, keyOf, List.getElem?_cons_zero, List.getElem?_cons_succ, List.getElem?_nil, List.set_cons_zero, List.set_cons_succ, List.map_cons, List.map_nil, List.length_cons, List.length_nil, List.cons_append, List.nil_append, List.append_nil, List.replicate, Nat.reduceAdd, Nat.reduceSub, Nat.reduceLeDiff, Nat.reduceLT, Nat.reduceEqDiff, Int.reduceLT, Int.reduceLE, Int.reduceNeg, Int.reducePow, ite_true, ite_false, if_true, if_false, reduceIte, Bool.false_eq_true, Bool.true_eq_false, Bool.not_true, Bool.not_false, and_self, and_true, true_and, Mu.put_same, Mu.new_same, Mu.put_nx, Mu.new_nx, Nat.zero_add, Nat.le_refl, Goes_nx, Gets_ok, Rets_nx, Rets_rt, CMul, CDiv, CPow, or_true, true_or, or_self, not_true, not_false_iff, mDm, dctV, popDM, getDM, mDisp, mPrs, kvOf, decide_false, decide_true, Int.reduceToNat, Nat.reducePow, Int.reduceAdd, Int.reduceSub, Int.reduceMul, or7, o7, i0, hb, ik, hkV, erase_map]
        obtain ⟨g1, g2⟩ := h7.g.rg.drop hk2
        have g' := h7.g.re (R' := R.eraseIdx k) g1 (fun y hy => h7.g.rs y ((List.eraseIdx_sublist _ _).subset hy))
        have k8 : Kee [x, lr] μ7 (μ7.put lr (.lst ((R.eraseIdx k).map rgV))) := Kee.put (by simp)
        have hx8 : (μ7.put lr (.lst ((R.eraseIdx k).map rgV))).ob x = some (.sys v) := (Mu.put_ne _ _ h.xr).trans hx7
        have or8 : (μ7.put lr (.lst ((R.eraseIdx k).map rgV))).ob lr = some (.lst ((R.eraseIdx k).map rgV)) := Mu.put_same _ _ _
        generalize μ7.put lr (.lst ((R.eraseIdx k).map rgV)) = μ8 at Po k8 hx8 or8
        have ro := rem_ok (x := x) (μ := μ8) hrows r2 hset hs hsrc hf
        have er : Tv.set (dropE (rgE r).lab (R.map rgE)) (dropR (rgE r).lab []) = .set ((R.eraseIdx k).map rgE) [] := by
          rw [show (rgE r).lab = r.l from rfl, g2]
          rfl
        rw [er] at ro
        generalize hv' : v.re 3 (.set ((R.eraseIdx k).map rgE) []) = v' at ro g'
        have ht' : v'.tabs = v.tabs := by rw [← hv']; rfl
        have kx' : Kee [x, lr] μ7 (μ8.put x (.sys v')) := k8.putN (.inr (by simp))
        obtain ⟨rr, μ', e, q⟩ := non (C := mC .non) (out_ok ((hR hx8).trans ro)) rfl (h7.reg kx' (Mu.put_same _ _ _) ht' g' (eN.trans or8)) (kk7.trans (kx'.mono (by simp)))
        rw [seq_rt ((if_yes (gl.trans (by rw [decide_eq_true wB]))).trans ((seq_nx (if_no T1)).trans ((seq_nx Po).trans e)))]
        exact q
      · rw [seq_nx (if_no (gl.trans (by rw [decide_eq_false wB]))), seq_nx (if_no T1)]
        have ak : atI (R.map rgV) ((k : Nat) : Int) = some (.tup [.int r.n, .int r.s, .int r.l, .str r.t]) := atI_nat hkV
        have ht3 : (([Val.int r.n, .int r.s, .int r.l] : List Val) ≠ []) = True := eq_true (fun z => nomatch z)
        have es : (R.map rgV).set k (.tup [.int r.n, .int r.s, .int r.l, .str t]) = (R.set k (Rg.mk r.n r.s r.l t)).map rgV := by
          rw [List.map_set]
          rfl
        have St : sSto stoM (mV 3) (mOp getM (mV 10) (mC (.int 0))) (mOp addM (mSl (mOp getM (mV 3) (mOp getM (mV 10) (mC (.int 0)))) (mP0) (mP (mC (.int 3)))) (mTup (mCons (mV 8) (mNil)))) ρ6 μ7 = .ok (.nx ρ6) (μ7.put lr (.lst ((R.set k (Rg.mk r.n r.s r.l t)).map rgV))) := by
          rw [← hρ]
          unfold st07
          simp only [Wn.R.bind_ok, Wn.R.bind_no, Wn.R.cut_ok, Wn.R.cut_no, sThen_nx, sThen_rt, sThen_bk, sThen_ct, mC, mV, mNil, mCons, mTup, mLst, mOp, mUn, mFn, mMt, boolM, mTest, mAnd, mOr, mNot, mIf, mBl, mAndV, mOrV, mNotV, mAndT, mOrT, truM, List.isEmpty_cons, List.isEmpty_nil, addM, subM, mulM, modM, fdivM, powM, negM, ltM, leM, gtM, geM, cmpI, isM', isntM, isNon, getM, dgetM, slM, mSl, mP, mP0, lenM, listM, tupleM, minM, maxM, absM, intM, sortedM, mBm, lstOf, appM, popM, extM, idxM, remLM, sNil, sSeq, sSet, sExpr, sRet, sRetN, sIf, sBrk, sCnt, sPar, sPar3, sAsg, tgN, tgT, unp, stoM, dstoM, sSto, Wk.items, iSeq, iRng1, iRng2, iEnm, mCall, mMeth, sysOf, onSys, mMethK, mMake, mMakeK, makM, mYes, mListR1, mListR2, intBM, startV, seqOf, keyOf, List.getElem?_cons_zero, List.getElem?_cons_succ, List.getElem?_nil, List.set_cons_zero, List.set_cons_succ, List.map_cons, List.map_nil, List.length_cons, List.length_nil, List.cons_append, List.nil_append, List.append_nil, List.replicate, Nat.reduceAdd, Nat.reduceSub, Nat.reduceLeDiff, Nat.reduceLT, Nat.reduceEqDiff, Int.reduceLT, Int.reduceLE, Int.reduceNeg, Int.reducePow, ite_true, ite_false, if_true, if_false, reduceIte, Bool.false_eq_true, Bool.true_eq_false, Bool.not_true, Bool.not_false, and_self, and_true, true_and, Mu.put_same, Mu.new_same, Mu.put_nx, Mu.new_nx, Nat.zero_add, Nat.le_refl, Goes_nx, Gets_ok, Rets_nx, Rets_rt, CMul, CDiv, CPow, or_true, true_or, or_self, not_true, not_false_iff, mDm, dctV, popDM, getDM, mDisp, mPrs, kvOf, decide_false, decide_true, Int.reduceToNat, Nat.reducePow, Int.reduceAdd, Int.reduceSub, Int.reduceMul, or7, o7, i0, ak, sx3, cut_rg3, ht3, ik, es]
        obtain ⟨g1, g2⟩ := h7.g.rg.set hk2 ht
        have g' := h7.g.re (R' := R.set k (Rg.mk r.n r.s r.l t)) g1 (fun y hy => by
          rcases List.mem_or_eq_of_mem_set hy with z | z
          · exact h7.g.rs y z
          · subst z; exact h7.g.rs r rm)
        have k8 : Kee [x, lr] μ7 (μ7.put lr (.lst ((R.set k (Rg.mk r.n r.s r.l t)).map rgV))) := Kee.put (by simp)
        have hx8 : (μ7.put lr (.lst ((R.set k (Rg.mk r.n r.s r.l t)).map rgV))).ob x = some (.sys v) := (Mu.put_ne _ _ h.xr).trans hx7
        have or8 : (μ7.put lr (.lst ((R.set k (Rg.mk r.n r.s r.l t)).map rgV))).ob lr = some (.lst ((R.set k (Rg.mk r.n r.s r.l t)).map rgV)) := Mu.put_same _ _ _
        rw [seq_nx St]
        generalize μ7.put lr (.lst ((R.set k (Rg.mk r.n r.s r.l t)).map rgV)) = μ8 at k8 hx8 or8 ⊢
        have co := chg_ok (x := x) (μ := μ8) hrows r2 hset hs hsrc ht hf
        have er : chgV (R.map rgE) [] n s (rgE r).lab t (false || decide ((0 : Int) < 0)) = .set ((R.set k (Rg.mk r.n r.s r.l t)).map rgE) [] := by
          rw [← g2, e1, e2]
          rfl
        rw [er] at co
        generalize hv' : v.re 3 (.set ((R.set k (Rg.mk r.n r.s r.l t)).map rgE) []) = v' at co g'
        have ht' : v'.tabs = v.tabs := by rw [← hv']; rfl
        have kx' : Kee [x, lr] μ7 (μ8.put x (.sys v')) := k8.putN (.inr (by simp))
        obtain ⟨rr, μ', e, q⟩ := non (C := mC .non) (out_ok ((hG2 hx8).trans co)) rfl (h7.reg kx' (Mu.put_same _ _ _) ht' g' (eN.trans or8)) (kk7.trans (kx'.mono (by simp)))
        rw [e]
        exact q

/-! ### k07: a number turned -/
theorem in_dct {μ : Mu} {t : Nat} {kvs : List (Key × Val)} (h : μ.ob t = some (.dct kvs)) (n : Int) : inM (.int n) (.loc t) μ = .ok (.bl (kGet kvs (.inl n)).isSome) μ := by
  unfold inM hasM keyOf
  simp only [h]
theorem DR.someO {kvs : List (Key × Val)} {rows : List (Int × Int)} {g : Int → Val} (d : DR kvs rows g) (n : Int) : (kGet kvs (.inl n)).isSome = (lk rows n).isSome := by
  rw [d.get n]
  cases lk rows n <;> rfl
theorem turned_eq {μ : Mu} {b x lt lr : Nat} {d : Nat → Nat} {v : Sv} {R : List Rg} (h : M07 μ b x lt lr d v R) : Gets (d__law_turned [.loc b, .loc x, .loc lt] μ) fun r μ' => r = .non ∧ (∃ v', M07 μ' b x lt lr d v' R) ∧ Kee [b, x, d 0, d 1] μ μ' := by
  obtain ⟨pi, μ1, e1, p0, p2, k1, b1, n1⟩ := take_eq h.bg (n := 2) (by decide) (by decide)
  have h1 := h.draw k1 b1
  obtain ⟨a, μ2, e2, a0, a3, k2, b2, n2⟩ := take_eq h1.bg (n := 3) (by decide) (by decide)
  have h2 := h1.draw k2 b2
  obtain ⟨c, μ3, e3, c0, c3, k3, b3, n3⟩ := take_eq h2.bg (n := 3) (by decide) (by decide)
  have h3 := h2.draw k3 b3
  obtain ⟨z, μ4, e4, z0, z3, k4, b4, n4⟩ := take_eq h3.bg (n := 3) (by decide) (by decide)
  have h4 := h3.draw k4 b4
  have kk : Kee [b, x, d 0, d 1] μ μ4 := ((k1.trans k2).trans (k3.trans k4)).mono (by simp)
  obtain ⟨p, rfl⟩ : ∃ p : Nat, pi = (p : Int) := ⟨pi.toNat, by omega⟩
  have hp : p < 2 := by omega
  have dp : d p ∈ [b, x, d 0, d 1] := by
    match p, hp with
    | 0, _ => simp
    | 1, _ => simp
  generalize hnn : 3 + a = n
  have n35 : 3 ≤ n ∧ n < 6 := by omega
  have n7 : n ≠ 7 := by omega
  have c7 : c ≠ 7 := by omega
  refine Gets.run rfl ?_
  have A0 : sPar3 3 4 5 (mCons (mCall 2 d__law_take (mCons (mV 0) (mCons (mC (.int 2)) (mNil)))) (mCons (mOp addM (mC (.int 3)) (mCall 2 d__law_take (mCons (mV 0) (mCons (mC (.int 3)) (mNil))))) (mCons (mCall 2 d__law_take (mCons (mV 0) (mCons (mC (.int 3)) (mNil)))) (mNil)))) (startV 7 [.loc b, .loc x, .loc lt]) μ = .ok (.nx [some (.loc b), some (.loc x), some (.loc lt), some (.int (p : Int)), some (.int n), some (.int c), none]) μ3 := by
    simp only [Wn.R.bind_ok, Wn.R.bind_no, Wn.R.cut_ok, Wn.R.cut_no, sThen_nx, sThen_rt, sThen_bk, sThen_ct, mC, mV, mNil, mCons, mTup, mLst, mOp, mUn, mFn, mMt, boolM, mTest, mAnd, mOr, mNot, mIf, mBl, mAndV, mOrV, mNotV, mAndT, mOrT, truM, List.isEmpty_cons, List.isEmpty_nil, addM, subM, mulM, modM, fdivM, powM, negM, ltM, leM, gtM, geM, cmpI, isM', isntM, isNon, getM, dgetM, slM, mSl, mP, mP0, lenM, listM, tupleM, minM, maxM, absM, intM, sortedM, mBm, lstOf, appM, popM, extM, idxM, remLM, sNil, sSeq, sSet, sExpr, sRet, sRetN, sIf, sBrk, sCnt, sPar, sPar3, sAsg, tgN, tgT, unp, stoM, dstoM, sSto, Wk.items, iSeq, iRng1, iRng2, iEnm, mCall, mMeth, sysOf, onSys, mMethK, mMake, mMakeK, makM, mYes, mListR1, mListR2, intBM, startV, seqOf, keyOf, List.getElem?_cons_zero, List.getElem?_cons_succ, List.getElem?_nil, List.set_cons_zero, List.set_cons_succ, List.map_cons, List.map_nil, List.length_cons, List.length_nil, List.cons_append, List.nil_append, List.append_nil, List.replicate, Nat.reduceAdd, Nat.reduceSub, Nat.reduceLeDiff, Nat.reduceLT, Nat.reduceEqDiff, Int.reduceLT, Int.reduceLE, Int.reduceNeg, Int.reducePow, ite_true, ite_false, if_true, if_false, reduceIte, Bool.false_eq_true, Bool.true_eq_false, Bool.not_true, Bool.not_false, and_self, and_true, true_and, Mu.put_same, Mu.new_same, Mu.put_nx, Mu.new_nx, Nat.zero_add, Nat.le_refl, Goes_nx, Gets_ok, Rets_nx, Rets_rt, CMul, CDiv, CPow, or_true, true_or, or_self, not_true, not_false_iff, mDm, dctV, popDM, getDM, mDisp, mPrs, kvOf, decide_false, decide_true, Int.reduceToNat, Nat.reducePow, Int.reduceAdd, Int.reduceSub, Int.reduceMul, e1, e2, e3, hnn]
  have ot := h3.ot
  have A1 : sSet 6 (mOp getM (mV 2) (mV 3)) [some (.loc b), some (.loc x), some (.loc lt), some (.int (p : Int)), some (.int n), some (.int c), none] μ3 = .ok (.nx [some (.loc b), some (.loc x), some (.loc lt), some (.int (p : Int)), some (.int n), some (.int c), some (.loc (d p))]) μ3 := by
    simp only [Wn.R.bind_ok, Wn.R.bind_no, Wn.R.cut_ok, Wn.R.cut_no, sThen_nx, sThen_rt, sThen_bk, sThen_ct, mC, mV, mNil, mCons, mTup, mLst, mOp, mUn, mFn, mMt, boolM, mTest, mAnd, mOr, mNot, mIf, mBl, mAndV, mOrV, mNotV, mAndT, mOrT, truM, List.isEmpty_cons, List.isEmpty_nil, addM, subM, mulM, modM, fdivM, powM, negM, ltM, leM, gtM, geM, cmpI, isM', isntM, isNon, getM, dgetM, slM, mSl, mP, mP0, lenM, listM, tupleM, minM, maxM, absM, intM, sortedM, mBm, lstOf, appM, popM, extM, idxM, remLM, sNil, sSeq, sSet, sExpr, sRet, sRetN, sIf, sBrk, sCnt, sPar, sPar3, sAsg, tgN, tgT, unp, stoM, dstoM, sSto, Wk.items, iSeq, iRng1, iRng2, iEnm, mCall, mMeth, sysOf, onSys, mMethK, mMake, mMakeK, makM, mYes, mListR1, mListR2, intBM, startV, seqOf, keyOf, List.getElem?_cons_zero, List.getElem?_cons_succ, List.getElem?_nil, List.set_cons_zero, List.set_cons_succ, List.map_cons, List.map_nil, List.length_cons, List.length_nil, List.cons_append, List.nil_append, List.append_nil, List.replicate, Nat.reduceAdd, Nat.reduceSub, Nat.reduceLeDiff, Nat.reduceLT, Nat.reduceEqDiff, Int.reduceLT, Int.reduceLE, Int.reduceNeg, Int.reducePow, ite_true, ite_false, if_true, if_false, reduceIte, Bool.false_eq_true, Bool.true_eq_false, Bool.not_true, Bool.not_false, and_self, and_true, true_and, Mu.put_same, Mu.new_same, Mu.put_nx, Mu.new_nx, Nat.zero_add, Nat.le_refl, Goes_nx, Gets_ok, Rets_nx, Rets_rt, CMul, CDiv, CPow, or_true, true_or, or_self, not_true, not_false_iff, mDm, dctV, popDM, getDM, mDisp, mPrs, kvOf, decide_false, decide_true, Int.reduceToNat, Nat.reducePow, Int.reduceAdd, Int.reduceSub, Int.reduceMul, ot, at_d hp]
  obtain ⟨ρ, hρ⟩ : ∃ ρ : Rho, [some (.loc b), some (.loc x), some (.loc lt), some (.int (p : Int)), some (.int n), some (.int c), some (.loc (d p))] = ρ := ⟨_, rfl⟩
  obtain ⟨kvs, rows, od, hrows, D⟩ := h4.dt p hp
  have hn : (kGet kvs (.inl n)).isSome = (lk rows n).isSome := by rw [D.someO, lk_dr, if_neg n7]
  have hc : (kGet kvs (.inl c)).isSome = (lk rows c).isSome := by rw [D.someO, lk_dr, if_neg c7]
  have in1 := in_dct od n
  rw [hn] at in1
  have in2 := in_dct od c
  rw [hc] at in2
  have ox := h4.hx
  have hmd : v.made ≤ 1000000 := by have := h4.g.md; omega
  have T1 : mAnd (mTest (mOp eqM (mCall 2 d__law_take (mCons (mV 0) (mCons (mC (.int 3)) (mNil)))) (mC (.int 0)))) (mTest (mOp inM (mV 4) (mV 6))) ρ μ3 = .ok (z == 0 && (lk rows n).isSome) μ4 := by
    rw [← hρ]
    cases hz : (z == 0) with
    | true =>
      simp only [Wn.R.bind_ok, Wn.R.bind_no, Wn.R.cut_ok, Wn.R.cut_no, sThen_nx, sThen_rt, sThen_bk, sThen_ct, mC, mV, mNil, mCons, mTup, mLst, mOp, mUn, mFn, mMt, boolM, mTest, mAnd, mOr, mNot, mIf, mBl, mAndV, mOrV, mNotV, mAndT, mOrT, truM, List.isEmpty_cons, List.isEmpty_nil, addM, subM, mulM, modM, fdivM, powM, negM, ltM, leM, gtM, geM, cmpI, isM', isntM, isNon, getM, dgetM, slM, mSl, mP, mP0, lenM, listM, tupleM, minM, maxM, absM, intM, sortedM, mBm, lstOf, appM, popM, extM, idxM, remLM, sNil, sSeq, sSet, sExpr, sRet, sRetN, sIf, sBrk, sCnt, sPar, sPar3, sAsg, tgN, tgT, unp, stoM, dstoM, sSto, Wk.items, iSeq, iRng1, iRng2, iEnm, mCall, mMeth, sysOf, onSys, mMethK, mMake, mMakeK, makM, mYes, mListR1, mListR2, intBM, startV, seqOf, keyOf, List.getElem?_cons_zero, List.getElem?_cons_succ, List.getElem?_nil, List.set_cons_zero, List.set_cons_succ, List.map_cons, List.map_nil, List.length_cons, List.length_nil, List.cons_append, List.nil_append, List.append_nil, List.replicate, Nat.reduceAdd, Nat.reduceSub, Nat.reduceLeDiff, Nat.reduceLT, Nat.reduceEqDiff, Int.reduceLT, Int.reduceLE, Int.reduceNeg, Int.reducePow, ite_true, ite_false, if_true, if_false, reduceIte, Bool.false_eq_true, Bool.true_eq_false, Bool.not_true, Bool.not_false, and_self, and_true, true_and, Mu.put_same, Mu.new_same, Mu.put_nx, Mu.new_nx, Nat.zero_add, Nat.le_refl, Goes_nx, Gets_ok, Rets_nx, Rets_rt, CMul, CDiv, CPow, or_true, true_or, or_self, not_true, not_false_iff, mDm, dctV, popDM, getDM, mDisp, mPrs, kvOf, decide_false, decide_true, Int.reduceToNat, Nat.reducePow, Int.reduceAdd, Int.reduceSub, Int.reduceMul, e4, eqM, dat_int, eqv_int, hz, in1]
      rfl
    | false =>
      simp only [Wn.R.bind_ok, Wn.R.bind_no, Wn.R.cut_ok, Wn.R.cut_no, sThen_nx, sThen_rt, sThen_bk, sThen_ct, mC, mV, mNil, mCons, mTup, mLst, mOp, mUn, mFn, mMt, boolM, mTest, mAnd, mOr, mNot, mIf, mBl, mAndV, mOrV, mNotV, mAndT, mOrT, truM, List.isEmpty_cons, List.isEmpty_nil, addM, subM, mulM, modM, fdivM, powM, negM, ltM, leM, gtM, geM, cmpI, isM', isntM, isNon, getM, dgetM, slM, mSl, mP, mP0, lenM, listM, tupleM, minM, maxM, absM, intM, sortedM, mBm, lstOf, appM, popM, extM, idxM, remLM, sNil, sSeq, sSet, sExpr, sRet, sRetN, sIf, sBrk, sCnt, sPar, sPar3, sAsg, tgN, tgT, unp, stoM, dstoM, sSto, Wk.items, iSeq, iRng1, iRng2, iEnm, mCall, mMeth, sysOf, onSys, mMethK, mMake, mMakeK, makM, mYes, mListR1, mListR2, intBM, startV, seqOf, keyOf, List.getElem?_cons_zero, List.getElem?_cons_succ, List.getElem?_nil, List.set_cons_zero, List.set_cons_succ, List.map_cons, List.map_nil, List.length_cons, List.length_nil, List.cons_append, List.nil_append, List.append_nil, List.replicate, Nat.reduceAdd, Nat.reduceSub, Nat.reduceLeDiff, Nat.reduceLT, Nat.reduceEqDiff, Int.reduceLT, Int.reduceLE, Int.reduceNeg, Int.reducePow, ite_true, ite_false, if_true, if_false, reduceIte, Bool.false_eq_true, Bool.true_eq_false, Bool.not_true, Bool.not_false, and_self, and_true, true_and, Mu.put_same, Mu.new_same, Mu.put_nx, Mu.new_nx, Nat.zero_add, Nat.le_refl, Goes_nx, Gets_ok, Rets_nx, Rets_rt, CMul, CDiv, CPow, or_true, true_or, or_self, not_true, not_false_iff, mDm, dctV, popDM, getDM, mDisp, mPrs, kvOf, decide_false, decide_true, Int.reduceToNat, Nat.reducePow, Int.reduceAdd, Int.reduceSub, Int.reduceMul, e4, eqM, dat_int, eqv_int, hz]
      rfl
  have T2 : mTest (mOp inM (mV 5) (mV 6)) ρ μ4 = .ok (lk rows c).isSome μ4 := by
    rw [← hρ]
    simp only [Wn.R.bind_ok, Wn.R.bind_no, Wn.R.cut_ok, Wn.R.cut_no, sThen_nx, sThen_rt, sThen_bk, sThen_ct, mC, mV, mNil, mCons, mTup, mLst, mOp, mUn, mFn, mMt, boolM, mTest, mAnd, mOr, mNot, mIf, mBl, mAndV, mOrV, mNotV, mAndT, mOrT, truM, List.isEmpty_cons, List.isEmpty_nil, addM, subM, mulM, modM, fdivM, powM, negM, ltM, leM, gtM, geM, cmpI, isM', isntM, isNon, getM, dgetM, slM, mSl, mP, mP0, lenM, listM, tupleM, minM, maxM, absM, intM, sortedM, mBm, lstOf, appM, popM, extM, idxM, remLM, sNil, sSeq, sSet, sExpr, sRet, sRetN, sIf, sBrk, sCnt, sPar, sPar3, sAsg, tgN, tgT, unp, stoM, dstoM, sSto, Wk.items, iSeq, iRng1, iRng2, iEnm, mCall, mMeth, sysOf, onSys, mMethK, mMake, mMakeK, makM, mYes, mListR1, mListR2, intBM, startV, seqOf, keyOf, List.getElem?_cons_zero, List.getElem?_cons_succ, List.getElem?_nil, List.set_cons_zero, List.set_cons_succ, List.map_cons, List.map_nil, List.length_cons, List.length_nil, List.cons_append, List.nil_append, List.append_nil, List.replicate, Nat.reduceAdd, Nat.reduceSub, Nat.reduceLeDiff, Nat.reduceLT, Nat.reduceEqDiff, Int.reduceLT, Int.reduceLE, Int.reduceNeg, Int.reducePow, ite_true, ite_false, if_true, if_false, reduceIte, Bool.false_eq_true, Bool.true_eq_false, Bool.not_true, Bool.not_false, and_self, and_true, true_and, Mu.put_same, Mu.new_same, Mu.put_nx, Mu.new_nx, Nat.zero_add, Nat.le_refl, Goes_nx, Gets_ok, Rets_nx, Rets_rt, CMul, CDiv, CPow, or_true, true_or, or_self, not_true, not_false_iff, mDm, dctV, popDM, getDM, mDisp, mPrs, kvOf, decide_false, decide_true, Int.reduceToNat, Nat.reducePow, Int.reduceAdd, Int.reduceSub, Int.reduceMul, in2]
  have px : ∀ o : Ob, (μ4.put x o).ob (d p) = some (.dct kvs) := fun o => (Mu.put_ne _ _ (h.dn p hp).2.1).trans od
  unfold m__law_turned
  rw [seq_nx A0, seq_nx A1, hρ]
  have fin : ∀ {μ9 : Mu} {v' : Sv}, M07 μ9 b x lt lr d v' R → Kee [b, x, d 0, d 1] μ μ9 → Rets (.ok (.nx ρ) μ9) fun r μ' => r = .non ∧ (∃ v', M07 μ' b x lt lr d v' R) ∧ Kee [b, x, d 0, d 1] μ μ' := fun M k => ⟨rfl, ⟨_, M⟩, k⟩
  have sub : ∀ {μ9 : Mu}, Kee [x, d p] μ4 μ9 → Kee [b, x, d 0, d 1] μ μ9 := fun k9 => kk.trans (k9.mono (by
    intro y hy
    simp only [List.mem_cons, List.not_mem_nil, or_false] at hy
    rcases hy with rfl | rfl
    · simp
    · exact dp))
  cases hT : (z == 0 && (lk rows n).isSome) with
  | true =>
    rw [if_yes (T1.trans (by rw [hT]))]
    obtain ⟨s, hs⟩ : ∃ s, lk rows n = some s := Option.isSome_iff_exists.mp (Bool.and_eq_true_iff.mp hT).2
    obtain ⟨g1, g2, g3⟩ := h4.g.close hp hrows hs n7 (fun _ => by omega)
    have cl := clo_ok (x := x) (μ := μ4) hrows hs hmd
    rw [g1] at cl
    have hg : kGet kvs (.inl n) = some (.int s) := by rw [D.get n, lk_dr, if_neg n7, hs]; rfl
    have B1 : sExpr (mMeth (cloM) ([]) (mV 1) (mCons (mV 3) (mCons (mV 4) (mNil)))) ρ μ4 = .ok (.nx ρ) (μ4.put x (.sys (v.cut (p : Int) n))) := by
      rw [← hρ]
      simp only [Wn.R.bind_ok, Wn.R.bind_no, Wn.R.cut_ok, Wn.R.cut_no, sThen_nx, sThen_rt, sThen_bk, sThen_ct, mC, mV, mNil, mCons, mTup, mLst, mOp, mUn, mFn, mMt, boolM, mTest, mAnd, mOr, mNot, mIf, mBl, mAndV, mOrV, mNotV, mAndT, mOrT, truM, List.isEmpty_cons, List.isEmpty_nil, addM, subM, mulM, modM, fdivM, powM, negM, ltM, leM, gtM, geM, cmpI, isM', isntM, isNon, getM, dgetM, slM, mSl, mP, mP0, lenM, listM, tupleM, minM, maxM, absM, intM, sortedM, mBm, lstOf, appM, popM, extM, idxM, remLM, sNil, sSeq, sSet, sExpr, sRet, sRetN, sIf, sBrk, sCnt, sPar, sPar3, sAsg, tgN, tgT, unp, stoM, dstoM, sSto, Wk.items, iSeq, iRng1, iRng2, iEnm, mCall, mMeth, sysOf, onSys, mMethK, mMake, mMakeK, makM, mYes, mListR1, mListR2, intBM, startV, seqOf, keyOf, List.getElem?_cons_zero, List.getElem?_cons_succ, List.getElem?_nil, List.set_cons_zero, List.set_cons_succ, List.map_cons, List.map_nil, List.length_cons, List.length_nil, List.cons_append, List.nil_append, List.append_nil, List.replicate, Nat.reduceAdd, Nat.reduceSub, Nat.reduceLeDiff, Nat.reduceLT, Nat.reduceEqDiff, Int.reduceLT, Int.reduceLE, Int.reduceNeg, Int.reducePow, ite_true, ite_false, if_true, if_false, reduceIte, Bool.false_eq_true, Bool.true_eq_false, Bool.not_true, Bool.not_false, and_self, and_true, true_and, Mu.put_same, Mu.new_same, Mu.put_nx, Mu.new_nx, Nat.zero_add, Nat.le_refl, Goes_nx, Gets_ok, Rets_nx, Rets_rt, CMul, CDiv, CPow, or_true, true_or, or_self, not_true, not_false_iff, mDm, dctV, popDM, getDM, mDisp, mPrs, kvOf, decide_false, decide_true, Int.reduceToNat, Nat.reducePow, Int.reduceAdd, Int.reduceSub, Int.reduceMul, ox, cl]
    have od5 := px (.sys (v.cut (p : Int) n))
    have B2 : sExpr (mDm popDM (mV 6) (mV 4)) ρ (μ4.put x (.sys (v.cut (p : Int) n))) = .ok (.nx ρ) ((μ4.put x (.sys (v.cut (p : Int) n))).put (d p) (.dct (kDrop kvs (.inl n)))) := by
      rw [← hρ]
      simp only [Wn.R.bind_ok, Wn.R.bind_no, Wn.R.cut_ok, Wn.R.cut_no, sThen_nx, sThen_rt, sThen_bk, sThen_ct, mC, mV, mNil, mCons, mTup, mLst, mOp, mUn, mFn, mMt, boolM, mTest, mAnd, mOr, mNot, mIf, mBl, mAndV, mOrV, mNotV, mAndT, mOrT, truM, List.isEmpty_cons, List.isEmpty_nil, addM, subM, mulM, modM, fdivM, powM, negM, ltM, leM, gtM, geM, cmpI, isM', isntM, isNon, getM, dgetM, slM, mSl, mP, mP0, lenM, listM, tupleM, minM, maxM, absM, intM, sortedM, mBm, lstOf, appM, popM, extM, idxM, remLM, sNil, sSeq, sSet, sExpr, sRet, sRetN, sIf, sBrk, sCnt, sPar, sPar3, sAsg, tgN, tgT, unp, stoM, dstoM, sSto, Wk.items, iSeq, iRng1, iRng2, iEnm, mCall, mMeth, sysOf, onSys, mMethK, mMake, mMakeK, makM, mYes, mListR1, mListR2, intBM, startV, seqOf, keyOf, List.getElem?_cons_zero, List.getElem?_cons_succ, List.getElem?_nil, List.set_cons_zero, List.set_cons_succ, List.map_cons, List.map_nil, List.length_cons, List.length_nil, List.cons_append, List.nil_append, List.append_nil, List.replicate, Nat.reduceAdd, Nat.reduceSub, Nat.reduceLeDiff, Nat.reduceLT, Nat.reduceEqDiff, Int.reduceLT, Int.reduceLE, Int.reduceNeg, Int.reducePow, ite_true, ite_false, if_true, if_false, reduceIte, Bool.false_eq_true, Bool.true_eq_false, Bool.not_true, Bool.not_false, and_self, and_true, true_and, Mu.put_same, Mu.new_same, Mu.put_nx, Mu.new_nx, Nat.zero_add, Nat.le_refl, Goes_nx, Gets_ok, Rets_nx, Rets_rt, CMul, CDiv, CPow, or_true, true_or, or_self, not_true, not_false_iff, mDm, dctV, popDM, getDM, mDisp, mPrs, kvOf, decide_false, decide_true, Int.reduceToNat, Nat.reducePow, Int.reduceAdd, Int.reduceSub, Int.reduceMul, dctOf, od5, hg]
    rw [seq_nx B1, B2]
    have kx' : Kee [x, d p] μ4 ((μ4.put x (.sys (v.cut (p : Int) n))).put (d p) (.dct (kDrop kvs (.inl n)))) := (Kee.put (by simp)).putN (.inr (by simp))
    refine fin (h4.tab hp kx' ((Mu.put_ne _ _ (Ne.symm (h.dn p hp).2.1)).trans (Mu.put_same _ _ _)) g2 g3 (Mu.put_same _ _ _) (D.drop fun m => ?_)) (sub kx')
    rw [lk_dr, lk_dr, lk_dr]
    by_cases e7 : m = 7
    · rw [if_pos e7, if_pos e7]
      split <;> rfl
    · rw [if_neg e7, if_neg e7]
  | false =>
    rw [if_no (T1.trans (by rw [hT]))]
    cases hc2 : lk rows c with
    | none =>
      rw [if_no (T2.trans (by rw [hc2]; rfl))]
      exact fin h4 kk
    | some s =>
      rw [if_yes (T2.trans (by rw [hc2]; rfl))]
      obtain ⟨rj, r1, r2, r3⟩ := h4.g.tab p hp
      rw [hrows] at r1
      cases r1
      obtain ⟨s0, s3⟩ := r3 c s hc2 c7
      obtain ⟨rows', g1, g2, g3⟩ := h4.g.copy hp hrows hc2 c7 n7 ⟨by omega, by omega⟩ (fun _ => ⟨by omega, by omega⟩)
      have cp := copTo_ok (x := x) (μ := μ4) hrows hc2 hmd (k := n) (by omega) (by rw [h4.g.n8]; omega)
      have hg : kGet kvs (.inl c) = some (.int s) := by rw [D.get c, lk_dr, if_neg c7, hc2]; rfl
      generalize copyV v (p : Int) n s rows = v' at cp g1 g2
      have B1 : sExpr (mMeth (copM) ([]) (mV 1) (mCons (mV 3) (mCons (mV 5) (mCons (mV 4) (mNil))))) ρ μ4 = .ok (.nx ρ) (μ4.put x (.sys v')) := by
        rw [← hρ]
        simp only [Wn.R.bind_ok, Wn.R.bind_no, Wn.R.cut_ok, Wn.R.cut_no, sThen_nx, sThen_rt, sThen_bk, sThen_ct, mC, mV, mNil, mCons, mTup, mLst, mOp, mUn, mFn, mMt, boolM, mTest, mAnd, mOr, mNot, mIf, mBl, mAndV, mOrV, mNotV, mAndT, mOrT, truM, List.isEmpty_cons, List.isEmpty_nil, addM, subM, mulM, modM, fdivM, powM, negM, ltM, leM, gtM, geM, cmpI, isM', isntM, isNon, getM, dgetM, slM, mSl, mP, mP0, lenM, listM, tupleM, minM, maxM, absM, intM, sortedM, mBm, lstOf, appM, popM, extM, idxM, remLM, sNil, sSeq, sSet, sExpr, sRet, sRetN, sIf, sBrk, sCnt, sPar, sPar3, sAsg, tgN, tgT, unp, stoM, dstoM, sSto, Wk.items, iSeq, iRng1, iRng2, iEnm, mCall, mMeth, sysOf, onSys, mMethK, mMake, mMakeK, makM, mYes, mListR1, mListR2, intBM, startV, seqOf, keyOf, List.getElem?_cons_zero, List.getElem?_cons_succ, List.getElem?_nil, List.set_cons_zero, List.set_cons_succ, List.map_cons, List.map_nil, List.length_cons, List.length_nil, List.cons_append, List.nil_append, List.append_nil, List.replicate, Nat.reduceAdd, Nat.reduceSub, Nat.reduceLeDiff, Nat.reduceLT, Nat.reduceEqDiff, Int.reduceLT, Int.reduceLE, Int.reduceNeg, Int.reducePow, ite_true, ite_false, if_true, if_false, reduceIte, Bool.false_eq_true, Bool.true_eq_false, Bool.not_true, Bool.not_false, and_self, and_true, true_and, Mu.put_same, Mu.new_same, Mu.put_nx, Mu.new_nx, Nat.zero_add, Nat.le_refl, Goes_nx, Gets_ok, Rets_nx, Rets_rt, CMul, CDiv, CPow, or_true, true_or, or_self, not_true, not_false_iff, mDm, dctV, popDM, getDM, mDisp, mPrs, kvOf, decide_false, decide_true, Int.reduceToNat, Nat.reducePow, Int.reduceAdd, Int.reduceSub, Int.reduceMul, ox, cp]
      have od5 := px (.sys v')
      have hb : (kvs.length ≤ 1000000) = True := eq_true (by
        have := D.len ((h4.g.wf.ndn _ (lk_mem hrows)).sublist ((dr_sub rows 7).map _))
        have l2 := (dr_sub rows 7).length_le
        have l8 := h4.g.wf.rows8 (lk_mem hrows)
        have : (dr rows 7).length ≤ 8 := Nat.le_trans l2 l8
        omega)
      have B2 : sSto dstoM (mV 6) (mV 4) (mOp dgetM (mV 6) (mV 5)) ρ (μ4.put x (.sys v')) = .ok (.nx ρ) ((μ4.put x (.sys v')).put (d p) (.dct (kPut kvs (.inl n) (.int s)))) := by
        rw [← hρ]
        simp only [Wn.R.bind_ok, Wn.R.bind_no, Wn.R.cut_ok, Wn.R.cut_no, sThen_nx, sThen_rt, sThen_bk, sThen_ct, mC, mV, mNil, mCons, mTup, mLst, mOp, mUn, mFn, mMt, boolM, mTest, mAnd, mOr, mNot, mIf, mBl, mAndV, mOrV, mNotV, mAndT, mOrT, truM, List.isEmpty_cons, List.isEmpty_nil, addM, subM, mulM, modM, fdivM, powM, negM, ltM, leM, gtM, geM, cmpI, isM', isntM, isNon, getM, dgetM, slM, mSl, mP, mP0, lenM, listM, tupleM, minM, maxM, absM, intM, sortedM, mBm, lstOf, appM, popM, extM, idxM, remLM, sNil, sSeq, sSet, sExpr, sRet, sRetN, sIf, sBrk, sCnt, sPar, sPar3, sAsg, tgN, tgT, unp, stoM, dstoM, sSto, Wk.items, iSeq, iRng1, iRng2, iEnm, mCall, mMeth, sysOf, onSys, mMethK, mMake, mMakeK, makM, mYes, mListR1, mListR2, intBM, startV, seqOf, keyOf, List.getElem?_cons_zero, List.getElem?_cons_succ, List.getElem?_nil, List.set_cons_zero, List.set_cons_succ, List.map_cons, List.map_nil, List.length_cons, List.length_nil, List.cons_append, List.nil_append, List.append_nil, List.replicate, Nat.reduceAdd, Nat.reduceSub, Nat.reduceLeDiff, Nat.reduceLT, Nat.reduceEqDiff, Int.reduceLT, Int.reduceLE, Int.reduceNeg, Int.reducePow, ite_true, ite_false, if_true, if_false, reduceIte, Bool.false_eq_true, Bool.true_eq_false, Bool.not_true, Bool.not_false, and_self, and_true, true_and, Mu.put_same, Mu.new_same, Mu.put_nx, Mu.new_nx, Nat.zero_add, Nat.le_refl, Goes_nx, Gets_ok, Rets_nx, Rets_rt, CMul, CDiv, CPow, or_true, true_or, or_self, not_true, not_false_iff, mDm, dctV, popDM, getDM, mDisp, mPrs, kvOf, decide_false, decide_true, Int.reduceToNat, Nat.reducePow, Int.reduceAdd, Int.reduceSub, Int.reduceMul, dctOf, od5, hg, hb]
      rw [seq_nx B1, B2]
      have kx' : Kee [x, d p] μ4 ((μ4.put x (.sys v')).put (d p) (.dct (kPut kvs (.inl n) (.int s)))) := (Kee.put (by simp)).putN (.inr (by simp))
      refine fin (h4.tab hp kx' ((Mu.put_ne _ _ (Ne.symm (h.dn p hp).2.1)).trans (Mu.put_same _ _ _)) g1 g2 (Mu.put_same _ _ _) (D.put (ser := s) fun m => ?_)) (sub kx')
      rw [lk_dr, lk_dr, g3]
      by_cases e7 : m = 7
      · rw [if_pos e7, if_pos e7, if_neg (by omega)]
      · rw [if_neg e7, if_neg e7]

/-! ### k07: a turn, and the law -/
def r07 (sc : Nat) (v1 : Option Val) (b x lr : Nat) (v5 : Option Val) (lt : Nat) (v7 v8 v9 v10 v11 v12 v13 : Option Val) : Rho := [some (.loc sc), v1, some (.loc b), some (.loc x), some (.loc lr), v5, some (.loc lt), v7, v8, v9, v10, v11, v12, v13]
theorem turn_eq {μ : Mu} {sc b x lt lr : Nat} {d : Nat → Nat} {v : Sv} {R : List Rg} {v1 v5 v7 v8 v9 v10 v11 v12 v13 : Option Val} (h : M07 μ b x lt lr d v R) :
    Goes (m_law_2 (r07 sc v1 b x lr v5 lt v7 v8 v9 v10 v11 v12 v13) μ) fun ρ' μ' => (∃ v8 v9 v10, ρ' = r07 sc v1 b x lr v5 lt v7 v8 v9 v10 v11 v12 v13) ∧ (∃ v' R', M07 μ' b x lt lr d v' R') ∧ Kee [b, x, lr, d 0, d 1] μ μ' := by
  obtain ⟨r1, μ1, e1, rfl, ⟨va, h1⟩, k1⟩ := (turned_eq h).ex
  have A1 : sExpr (mCall 3 d__law_turned (mCons (mV 2) (mCons (mV 3) (mCons (mV 6) (mNil))))) (r07 sc v1 b x lr v5 lt v7 v8 v9 v10 v11 v12 v13) μ = .ok (.nx (r07 sc v1 b x lr v5 lt v7 v8 v9 v10 v11 v12 v13)) μ1 := by
    unfold r07
    simp only [Wn.R.bind_ok, Wn.R.bind_no, Wn.R.cut_ok, Wn.R.cut_no, sThen_nx, sThen_rt, sThen_bk, sThen_ct, mC, mV, mNil, mCons, mTup, mLst, mOp, mUn, mFn, mMt, boolM, mTest, mAnd, mOr, mNot, mIf, mBl, mAndV, mOrV, mNotV, mAndT, mOrT, truM, List.isEmpty_cons, List.isEmpty_nil, addM, subM, mulM, modM, fdivM, powM, negM, ltM, leM, gtM, geM, cmpI, isM', isntM, isNon, getM, dgetM, slM, mSl, mP, mP0, lenM, listM, tupleM, minM, maxM, absM, intM, sortedM, mBm, lstOf, appM, popM, extM, idxM, remLM, sNil, sSeq, sSet, sExpr, sRet, sRetN, sIf, sBrk, sCnt, sPar, sPar3, sAsg, tgN, tgT, unp, stoM, dstoM, sSto, Wk.items, iSeq, iRng1, iRng2, iEnm, mCall, mMeth, sysOf, onSys, mMethK, mMake, mMakeK, makM, mYes, mListR1, mListR2, intBM, startV, seqOf, keyOf, List.getElem?_cons_zero, List.getElem?_cons_succ, List.getElem?_nil, List.set_cons_zero, List.set_cons_succ, List.map_cons, List.map_nil, List.length_cons, List.length_nil, List.cons_append, List.nil_append, List.append_nil, List.replicate, Nat.reduceAdd, Nat.reduceSub, Nat.reduceLeDiff, Nat.reduceLT, Nat.reduceEqDiff, Int.reduceLT, Int.reduceLE, Int.reduceNeg, Int.reducePow, ite_true, ite_false, if_true, if_false, reduceIte, Bool.false_eq_true, Bool.true_eq_false, Bool.not_true, Bool.not_false, and_self, and_true, true_and, Mu.put_same, Mu.new_same, Mu.put_nx, Mu.new_nx, Nat.zero_add, Nat.le_refl, Goes_nx, Gets_ok, Rets_nx, Rets_rt, CMul, CDiv, CPow, or_true, true_or, or_self, not_true, not_false_iff, mDm, dctV, popDM, getDM, mDisp, mPrs, kvOf, decide_false, decide_true, Int.reduceToNat, Nat.reducePow, Int.reduceAdd, Int.reduceSub, Int.reduceMul, e1]
  obtain ⟨r2, μ2, e2, q, fo, du, v', R', rfl, oq, tw, h2, k2⟩ := (done_eq h1).ex
  have U : sUnp [8, 9] (mCall 4 d__law_done (mCons (mV 2) (mCons (mV 3) (mCons (mV 6) (mCons (mV 4) (mNil)))))) (r07 sc v1 b x lr v5 lt v7 v8 v9 v10 v11 v12 v13) μ1 = .ok (.nx (r07 sc v1 b x lr v5 lt v7 (some fo) (some du) v10 v11 v12 v13)) μ2 := by
    unfold r07
    simp only [Wn.R.bind_ok, Wn.R.bind_no, Wn.R.cut_ok, Wn.R.cut_no, sThen_nx, sThen_rt, sThen_bk, sThen_ct, mC, mV, mNil, mCons, mTup, mLst, mOp, mUn, mFn, mMt, boolM, mTest, mAnd, mOr, mNot, mIf, mBl, mAndV, mOrV, mNotV, mAndT, mOrT, truM, List.isEmpty_cons, List.isEmpty_nil, addM, subM, mulM, modM, fdivM, powM, negM, ltM, leM, gtM, geM, cmpI, isM', isntM, isNon, getM, dgetM, slM, mSl, mP, mP0, lenM, listM, tupleM, minM, maxM, absM, intM, sortedM, mBm, lstOf, appM, popM, extM, idxM, remLM, sNil, sSeq, sSet, sExpr, sRet, sRetN, sIf, sBrk, sCnt, sPar, sPar3, sAsg, tgN, tgT, unp, stoM, dstoM, sSto, Wk.items, iSeq, iRng1, iRng2, iEnm, mCall, mMeth, sysOf, onSys, mMethK, mMake, mMakeK, makM, mYes, mListR1, mListR2, intBM, startV, seqOf, keyOf, List.getElem?_cons_zero, List.getElem?_cons_succ, List.getElem?_nil, List.set_cons_zero, List.set_cons_succ, List.map_cons, List.map_nil, List.length_cons, List.length_nil, List.cons_append, List.nil_append, List.append_nil, List.replicate, Nat.reduceAdd, Nat.reduceSub, Nat.reduceLeDiff, Nat.reduceLT, Nat.reduceEqDiff, Int.reduceLT, Int.reduceLE, Int.reduceNeg, Int.reducePow, ite_true, ite_false, if_true, if_false, reduceIte, Bool.false_eq_true, Bool.true_eq_false, Bool.not_true, Bool.not_false, and_self, and_true, true_and, Mu.put_same, Mu.new_same, Mu.put_nx, Mu.new_nx, Nat.zero_add, Nat.le_refl, Goes_nx, Gets_ok, Rets_nx, Rets_rt, CMul, CDiv, CPow, or_true, true_or, or_self, not_true, not_false_iff, mDm, dctV, popDM, getDM, mDisp, mPrs, kvOf, decide_false, decide_true, Int.reduceToNat, Nat.reducePow, Int.reduceAdd, Int.reduceSub, Int.reduceMul, e2, sUnp, oq]
  obtain ⟨y, y1, y2⟩ := twin_ne tw
  have Te : mTest (mOp neSM (mFn reprM (mCons (mV 8) (mNil))) (mFn reprM (mCons (mV 9) (mNil)))) (r07 sc v1 b x lr v5 lt v7 (some fo) (some du) v10 v11 v12 v13) μ2 = .ok false μ2 := by
    unfold r07
    simp only [Wn.R.bind_ok, Wn.R.bind_no, Wn.R.cut_ok, Wn.R.cut_no, sThen_nx, sThen_rt, sThen_bk, sThen_ct, mC, mV, mNil, mCons, mTup, mLst, mOp, mUn, mFn, mMt, boolM, mTest, mAnd, mOr, mNot, mIf, mBl, mAndV, mOrV, mNotV, mAndT, mOrT, truM, List.isEmpty_cons, List.isEmpty_nil, addM, subM, mulM, modM, fdivM, powM, negM, ltM, leM, gtM, geM, cmpI, isM', isntM, isNon, getM, dgetM, slM, mSl, mP, mP0, lenM, listM, tupleM, minM, maxM, absM, intM, sortedM, mBm, lstOf, appM, popM, extM, idxM, remLM, sNil, sSeq, sSet, sExpr, sRet, sRetN, sIf, sBrk, sCnt, sPar, sPar3, sAsg, tgN, tgT, unp, stoM, dstoM, sSto, Wk.items, iSeq, iRng1, iRng2, iEnm, mCall, mMeth, sysOf, onSys, mMethK, mMake, mMakeK, makM, mYes, mListR1, mListR2, intBM, startV, seqOf, keyOf, List.getElem?_cons_zero, List.getElem?_cons_succ, List.getElem?_nil, List.set_cons_zero, List.set_cons_succ, List.map_cons, List.map_nil, List.length_cons, List.length_nil, List.cons_append, List.nil_append, List.append_nil, List.replicate, Nat.reduceAdd, Nat.reduceSub, Nat.reduceLeDiff, Nat.reduceLT, Nat.reduceEqDiff, Int.reduceLT, Int.reduceLE, Int.reduceNeg, Int.reducePow, ite_true, ite_false, if_true, if_false, reduceIte, Bool.false_eq_true, Bool.true_eq_false, Bool.not_true, Bool.not_false, and_self, and_true, true_and, Mu.put_same, Mu.new_same, Mu.put_nx, Mu.new_nx, Nat.zero_add, Nat.le_refl, Goes_nx, Gets_ok, Rets_nx, Rets_rt, CMul, CDiv, CPow, or_true, true_or, or_self, not_true, not_false_iff, mDm, dctV, popDM, getDM, mDisp, mPrs, kvOf, decide_false, decide_true, Int.reduceToNat, Nat.reducePow, Int.reduceAdd, Int.reduceSub, Int.reduceMul, y1, y2, neSM]
  have or2 := h2.or_
  have rl2 := h2.rl
  have len2 := h2.g.rg.len
  have L := mLc_pure (it := iSeq (mV 4)) (own := [11, 5, 12, 13]) (g := tgT [11, 5, 12, 13]) (c := mYes) (elt := mTup (mCons (mTup (mCons (mC (.int 0)) (mCons (mC (.int 7)) (mNil)))) (mCons (mV 12) (mCons (mV 11) (mCons (mTup (mCons (mC (.int 0)) (mCons (mV 5) (mNil)))) (mCons (mV 13) (mCons (mC (.bl true)) (mNil)))))))) (ρ0 := r07 sc v1 b x lr v5 lt v7 (some fo) (some du) v10 v11 v12 v13) (μ0 := μ2) (μ := μ2) (k := .seq (.loc lr)) (vs := R'.map rgV) (rv := fun y => match y with | .tup [n, s, l, t] => r07 sc v1 b x lr (some s) lt v7 (some fo) (some du) v10 (some n) (some l) (some t) | _ => []) (p := fun _ => true) (f := fun y => match y with | .tup [n, s, l, t] => .tup [.tup [.int 0, .int 7], l, n, .tup [.int 0, s], t, .bl true] | _ => .non) (by unfold r07; simp only [Wn.R.bind_ok, Wn.R.bind_no, Wn.R.cut_ok, Wn.R.cut_no, sThen_nx, sThen_rt, sThen_bk, sThen_ct, mC, mV, mNil, mCons, mTup, mLst, mOp, mUn, mFn, mMt, boolM, mTest, mAnd, mOr, mNot, mIf, mBl, mAndV, mOrV, mNotV, mAndT, mOrT, truM, List.isEmpty_cons, List.isEmpty_nil, addM, subM, mulM, modM, fdivM, powM, negM, ltM, leM, gtM, geM, cmpI, isM', isntM, isNon, getM, dgetM, slM, mSl, mP, mP0, lenM, listM, tupleM, minM, maxM, absM, intM, sortedM, mBm, lstOf, appM, popM, extM, idxM, remLM, sNil, sSeq, sSet, sExpr, sRet, sRetN, sIf, sBrk, sCnt, sPar, sPar3, sAsg, tgN, tgT, unp, stoM, dstoM, sSto, Wk.items, iSeq, iRng1, iRng2, iEnm, mCall, mMeth, sysOf, onSys, mMethK, mMake, mMakeK, makM, mYes, mListR1, mListR2, intBM, startV, seqOf, keyOf, List.getElem?_cons_zero, List.getElem?_cons_succ, List.getElem?_nil, List.set_cons_zero, List.set_cons_succ, List.map_cons, List.map_nil, List.length_cons, List.length_nil, List.cons_append, List.nil_append, List.append_nil, List.replicate, Nat.reduceAdd, Nat.reduceSub, Nat.reduceLeDiff, Nat.reduceLT, Nat.reduceEqDiff, Int.reduceLT, Int.reduceLE, Int.reduceNeg, Int.reducePow, ite_true, ite_false, if_true, if_false, reduceIte, Bool.false_eq_true, Bool.true_eq_false, Bool.not_true, Bool.not_false, and_self, and_true, true_and, Mu.put_same, Mu.new_same, Mu.put_nx, Mu.new_nx, Nat.zero_add, Nat.le_refl, Goes_nx, Gets_ok, Rets_nx, Rets_rt, CMul, CDiv, CPow, or_true, true_or, or_self, not_true, not_false_iff, mDm, dctV, popDM, getDM, mDisp, mPrs, kvOf, decide_false, decide_true, Int.reduceToNat, Nat.reducePow, Int.reduceAdd, Int.reduceSub, Int.reduceMul, or2]) (seqOf_lst or2) (by rw [List.length_map]; omega) (fun acc => seqOf_lst ((Mu.new_ne _ _ (by omega)).trans or2)) (fun y hy => by
      obtain ⟨r, _, rfl⟩ := List.mem_map.mp hy
      rfl) (fun _ _ _ => rfl) (fun y hy _ acc => by
      obtain ⟨r, _, rfl⟩ := List.mem_map.mp hy
      show mTup _ (r07 sc v1 b x lr (some (.int r.s)) lt v7 (some fo) (some du) v10 (some (.int r.n)) (some (.int r.l)) (some (.str r.t))) (μ2.new (.lst acc)) = .ok (.tup [.tup [.int 0, .int 7], .int r.l, .int r.n, .tup [.int 0, .int r.s], .str r.t, .bl true]) (μ2.new (.lst acc))
      unfold r07
      simp only [Wn.R.bind_ok, Wn.R.bind_no, Wn.R.cut_ok, Wn.R.cut_no, sThen_nx, sThen_rt, sThen_bk, sThen_ct, mC, mV, mNil, mCons, mTup, mLst, mOp, mUn, mFn, mMt, boolM, mTest, mAnd, mOr, mNot, mIf, mBl, mAndV, mOrV, mNotV, mAndT, mOrT, truM, List.isEmpty_cons, List.isEmpty_nil, addM, subM, mulM, modM, fdivM, powM, negM, ltM, leM, gtM, geM, cmpI, isM', isntM, isNon, getM, dgetM, slM, mSl, mP, mP0, lenM, listM, tupleM, minM, maxM, absM, intM, sortedM, mBm, lstOf, appM, popM, extM, idxM, remLM, sNil, sSeq, sSet, sExpr, sRet, sRetN, sIf, sBrk, sCnt, sPar, sPar3, sAsg, tgN, tgT, unp, stoM, dstoM, sSto, Wk.items, iSeq, iRng1, iRng2, iEnm, mCall, mMeth, sysOf, onSys, mMethK, mMake, mMakeK, makM, mYes, mListR1, mListR2, intBM, startV, seqOf, keyOf, List.getElem?_cons_zero, List.getElem?_cons_succ, List.getElem?_nil, List.set_cons_zero, List.set_cons_succ, List.map_cons, List.map_nil, List.length_cons, List.length_nil, List.cons_append, List.nil_append, List.append_nil, List.replicate, Nat.reduceAdd, Nat.reduceSub, Nat.reduceLeDiff, Nat.reduceLT, Nat.reduceEqDiff, Int.reduceLT, Int.reduceLE, Int.reduceNeg, Int.reducePow, ite_true, ite_false, if_true, if_false, reduceIte, Bool.false_eq_true, Bool.true_eq_false, Bool.not_true, Bool.not_false, and_self, and_true, true_and, Mu.put_same, Mu.new_same, Mu.put_nx, Mu.new_nx, Nat.zero_add, Nat.le_refl, Goes_nx, Gets_ok, Rets_nx, Rets_rt, CMul, CDiv, CPow, or_true, true_or, or_self, not_true, not_false_iff, mDm, dctV, popDM, getDM, mDisp, mPrs, kvOf, decide_false, decide_true, Int.reduceToNat, Nat.reducePow, Int.reduceAdd, Int.reduceSub, Int.reduceMul])
  rw [List.filter_eq_self.mpr fun _ _ => rfl, List.map_map] at L
  have eL : (R'.map ((fun y => match y with | .tup [n, s, l, t] => .tup [.tup [.int 0, .int 7], l, n, .tup [.int 0, s], t, .bl true] | _ => .non) ∘ rgV)) = R'.map (told 7) := List.map_congr_left fun r _ => rfl
  rw [eL] at L
  obtain ⟨μ3, hμ3⟩ : ∃ μ3, μ2.new (.lst (R'.map (told 7))) = μ3 := ⟨_, rfl⟩
  rw [hμ3] at L
  have o3 : μ3.ob μ2.nx = some (.lst (R'.map (told 7))) := by rw [← hμ3]; exact Mu.new_same _ _
  have n3 : μ3.nx = μ2.nx + 1 := by rw [← hμ3]; rfl
  have k3 : Kee [] μ2 μ3 := by rw [← hμ3]; exact Kee.new
  have h3 := h2.any k3
  have hx3 := h3.hx
  have A3 : sSet 10 (mLc (iSeq (mV 4)) [11, 5, 12, 13] (tgT [11, 5, 12, 13]) (mYes) (mTup (mCons (mTup (mCons (mC (.int 0)) (mCons (mC (.int 7)) (mNil)))) (mCons (mV 12) (mCons (mV 11) (mCons (mTup (mCons (mC (.int 0)) (mCons (mV 5) (mNil)))) (mCons (mV 13) (mCons (mC (.bl true)) (mNil))))))))) (r07 sc v1 b x lr v5 lt v7 (some fo) (some du) v10 v11 v12 v13) μ2 = .ok (.nx (r07 sc v1 b x lr v5 lt v7 (some fo) (some du) (some (.loc μ2.nx)) v11 v12 v13)) μ3 := by
    unfold sSet
    rw [L]
    rfl
  have rg := h3.g.reg_ok (x := x) (μ := μ3)
  obtain ⟨μ4, hμ4⟩ : ∃ μ4, μ3.new (.lst (R'.map (told 7))) = μ4 := ⟨_, rfl⟩
  rw [hμ4] at rg
  have k4 : Kee [] μ3 μ4 := by rw [← hμ4]; exact Kee.new
  have d1 : datM μ4 (.loc μ3.nx) = _ := dat_told (q := 7) h3.g.rg.wd (by rw [← hμ4]; exact Mu.new_same _ _)
  have d2 : datM μ4 (.loc μ2.nx) = _ := dat_told (q := 7) h3.g.rg.wd ((k4.ob _ (by omega) (by simp)).trans o3)
  have ee := eqv_told (q := 7) h3.g.rg.wd
  have T4 : mTest (mOp neM (mMeth (regM) [] (mV 3) mNil) (mV 10)) (r07 sc v1 b x lr v5 lt v7 (some fo) (some du) (some (.loc μ2.nx)) v11 v12 v13) μ3 = .ok false μ4 := by
    unfold r07
    simp only [Wn.R.bind_ok, Wn.R.bind_no, Wn.R.cut_ok, Wn.R.cut_no, sThen_nx, sThen_rt, sThen_bk, sThen_ct, mC, mV, mNil, mCons, mTup, mLst, mOp, mUn, mFn, mMt, boolM, mTest, mAnd, mOr, mNot, mIf, mBl, mAndV, mOrV, mNotV, mAndT, mOrT, truM, List.isEmpty_cons, List.isEmpty_nil, addM, subM, mulM, modM, fdivM, powM, negM, ltM, leM, gtM, geM, cmpI, isM', isntM, isNon, getM, dgetM, slM, mSl, mP, mP0, lenM, listM, tupleM, minM, maxM, absM, intM, sortedM, mBm, lstOf, appM, popM, extM, idxM, remLM, sNil, sSeq, sSet, sExpr, sRet, sRetN, sIf, sBrk, sCnt, sPar, sPar3, sAsg, tgN, tgT, unp, stoM, dstoM, sSto, Wk.items, iSeq, iRng1, iRng2, iEnm, mCall, mMeth, sysOf, onSys, mMethK, mMake, mMakeK, makM, mYes, mListR1, mListR2, intBM, startV, seqOf, keyOf, List.getElem?_cons_zero, List.getElem?_cons_succ, List.getElem?_nil, List.set_cons_zero, List.set_cons_succ, List.map_cons, List.map_nil, List.length_cons, List.length_nil, List.cons_append, List.nil_append, List.append_nil, List.replicate, Nat.reduceAdd, Nat.reduceSub, Nat.reduceLeDiff, Nat.reduceLT, Nat.reduceEqDiff, Int.reduceLT, Int.reduceLE, Int.reduceNeg, Int.reducePow, ite_true, ite_false, if_true, if_false, reduceIte, Bool.false_eq_true, Bool.true_eq_false, Bool.not_true, Bool.not_false, and_self, and_true, true_and, Mu.put_same, Mu.new_same, Mu.put_nx, Mu.new_nx, Nat.zero_add, Nat.le_refl, Goes_nx, Gets_ok, Rets_nx, Rets_rt, CMul, CDiv, CPow, or_true, true_or, or_self, not_true, not_false_iff, mDm, dctV, popDM, getDM, mDisp, mPrs, kvOf, decide_false, decide_true, Int.reduceToNat, Nat.reducePow, Int.reduceAdd, Int.reduceSub, Int.reduceMul, hx3, rg, neM, d1, d2, ee]
  unfold m_law_2
  rw [seq_nx A1, seq_nx U, seq_nx (if_no Te), seq_nx A3, if_no T4]
  exact ⟨⟨_, _, _, rfl⟩, ⟨_, _, h3.any k4⟩, (k1.mono (by simp)).trans ((k2.mono (by simp)).trans ((k3.trans k4).mono (by simp)))⟩
/-! ### k07: the home -/
def R07 : List (Int × Int) := [(0, 0), (1, 1), (2, 2), (7, 3)]
def sv07 : Sv := ⟨2, 8, 4, [(0, R07), (1, R07)], [(0, .src 0 false), (1, .src 0 false), (2, .src 0 false), (3, .set [] [])]⟩
def svk : Nat → Sv
  | 0 => newSv 2 8
  | 1 => ⟨2, 8, 1, [(0, [(0, 0)])], [(0, .src 0 false)]⟩
  | 2 => ⟨2, 8, 2, [(0, [(0, 0), (1, 1)])], [(0, .src 0 false), (1, .src 0 false)]⟩
  | _ => ⟨2, 8, 3, [(0, [(0, 0), (1, 1), (2, 2)])], [(0, .src 0 false), (1, .src 0 false), (2, .src 0 false)]⟩
def svS : Sv := ⟨2, 8, 4, [(0, [(0, 0), (1, 1), (2, 2), (3, 3)])], [(0, .src 0 false), (1, .src 0 false), (2, .src 0 false), (3, .set [] [])]⟩
def svC : Sv := ⟨2, 8, 4, [(0, [(0, 0), (1, 1), (2, 2), (3, 3), (7, 3)])], [(0, .src 0 false), (1, .src 0 false), (2, .src 0 false), (3, .set [] [])]⟩
def svD : Sv := ⟨2, 8, 4, [(0, R07)], [(0, .src 0 false), (1, .src 0 false), (2, .src 0 false), (3, .set [] [])]⟩
theorem k07_new (x : Nat) (μ : Mu) : ∀ q : Nat, q < 3 → newM (.src 0 false) x (svk q) [.int 0] μ = .ok (.int (q : Int)) (μ.put x (.sys (svk (q + 1))))
  | 0, _ => new_ok (rows := []) (k := 0) _ rfl (by decide) (by decide)
  | 1, _ => new_ok (rows := [(0, 0)]) (k := 1) _ rfl (by decide) (by decide)
  | 2, _ => new_ok (rows := [(0, 0), (1, 1)]) (k := 2) _ rfl (by decide) (by decide)
theorem k07_set (x : Nat) (μ : Mu) : newM (.set [] []) x (svk 3) [.int 0] μ = .ok (.int 3) (μ.put x (.sys svS)) := new_ok (rows := [(0, 0), (1, 1), (2, 2)]) (k := 3) _ rfl (by decide) (by decide)
theorem k07_cop (x : Nat) (μ : Mu) : copM x svS [.int 0, .int 3, .int 7] μ = .ok (.int 7) (μ.put x (.sys svC)) := copTo_ok (rows := [(0, 0), (1, 1), (2, 2), (3, 3)]) (ser := 3) rfl rfl (by decide) (by decide) (by decide)
theorem k07_clo (x : Nat) (μ : Mu) : cloM x svC [.int 0, .int 3] μ = .ok .non (μ.put x (.sys svD)) := by
  have := clo_ok (x := x) (μ := μ) (v := svC) (p := 0) (n := 3) (rows := [(0, 0), (1, 1), (2, 2), (3, 3), (7, 3)]) (ser := 3) rfl rfl (by decide)
  rw [this]
  have w0 : WF0 (svC.cut 0 3) := ⟨by decide, by decide, by decide, by decide, by decide, by decide, by decide, by decide⟩
  have e : closeV svC 0 3 3 = svD := if_neg (holds_of w0 ⟨(0, R07), by decide, (7, 3), by decide, rfl⟩)
  rw [e]
theorem k07_for (x : Nat) (μ : Mu) : forM x svD [.int 0] μ = .ok (.int 1) (μ.put x (.sys sv07)) := for_ok (rows := R07) (c := 1) rfl (by decide)
theorem lk07 {n s : Int} (h : lk R07 n = some s) : (n = 0 ∧ s = 0) ∨ (n = 1 ∧ s = 1) ∨ (n = 2 ∧ s = 2) ∨ (n = 7 ∧ s = 3) := by
  have := lk_mem h
  unfold R07 at this
  simp only [List.mem_cons, List.not_mem_nil, or_false, Prod.mk.injEq] at this
  exact this
theorem g07 : G 2 7 3 0 3 sv07 [] := by
  have t0 : lk sv07.tabs 0 = some R07 := rfl
  have t1 : lk sv07.tabs 1 = some R07 := rfl
  refine ⟨⟨by decide, by decide, by decide, by decide, by decide, by decide, by decide, by decide, by decide, by decide, fun t ht es row e => ?_⟩, rfl, rfl, fun p hp => ⟨R07, ?_, rfl, fun n s hn nq => ?_⟩, ⟨R07, rfl, fun s s0 s3 => ?_, fun n s hn nq => ?_⟩, rfl, fun s s0 s3 => ?_, fun s tv hs => ?_, RG.nil, (fun _ h => nomatch h), by decide, by decide, by decide, by decide⟩
  · simp only [sv07, List.mem_cons, List.not_mem_nil, or_false] at ht
    rcases ht with rfl | rfl | rfl | rfl
    · cases e
    · cases e
    · cases e
    · cases e
      exact ⟨List.nodup_nil, List.nodup_nil, List.nodup_nil, (fun _ h => nomatch h), (fun _ h => nomatch h), Nat.zero_le _⟩
  · match p, hp with
    | 0, _ => rfl
    | 1, _ => rfl
  · rcases lk07 hn with h | h | h | h <;> omega
  · have : s = 0 ∨ s = 1 ∨ s = 2 := by omega
    rcases this with rfl | rfl | rfl <;> rfl
  · rcases lk07 hn with h | h | h | h <;> omega
  · have : s = 0 ∨ s = 1 ∨ s = 2 := by omega
    rcases this with rfl | rfl | rfl <;> rfl
  · have := lk_mem hs
    simp only [sv07, List.mem_cons, List.not_mem_nil, or_false, Prod.mk.injEq] at this
    omega
def kv07 : List (Key × Val) := [(.inl 0, .int 0), (.inl 1, .int 1), (.inl 2, .int 2)]
theorem dr07 : DR kv07 (dr R07 7) Val.int := by
  have e : dr R07 7 = [(0, 0), (1, 1), (2, 2)] := by decide
  refine ⟨by decide, ⟨[0, 1, 2], rfl⟩, fun n => ?_⟩
  rw [e]
  unfold kv07
  by_cases c0 : n = 0
  · subst c0; rfl
  · rw [kGet_neg (fun z => c0 (Sum.inl.inj z).symm), lk_neg (fun z => c0 z.symm)]
    by_cases c1 : n = 1
    · subst c1; rfl
    · rw [kGet_neg (fun z => c1 (Sum.inl.inj z).symm), lk_neg (fun z => c1 z.symm)]
      by_cases c2 : n = 2
      · subst c2; rfl
      · rw [kGet_neg (fun z => c2 (Sum.inl.inj z).symm), lk_neg (fun z => c2 z.symm)]
        rfl
theorem disp07 (ρ : Rho) (μ : Mu) : mDisp [(mC (.int 0), mC (.int 0)), (mC (.int 1), mC (.int 1)), (mC (.int 2), mC (.int 2))] ρ μ = .ok (.loc μ.nx) (μ.new (.dct kv07)) := by
  have hb : ((kv07.map (·.1)).Nodup ∧ kv07.length ≤ 15) := by decide
  unfold mDisp
  have e : mPrs [(mC (.int 0), mC (.int 0)), (mC (.int 1), mC (.int 1)), (mC (.int 2), mC (.int 2))] ρ (μ.new (.dct [])) = .ok [(.int 0, .int 0), (.int 1, .int 1), (.int 2, .int 2)] (μ.new (.dct [])) := rfl
  have k : kvOf [(.int 0, .int 0), (.int 1, .int 1), (.int 2, .int 2)] = some kv07 := rfl
  rw [e, Wn.R.bind_ok]
  simp only [k, Mu.new_same]
  rw [if_pos hb, Mu.new_put]
theorem law_eq (μ : Mu) (s : Nat) (ns : List Int) (hl : ns.length ≤ 63) (hs : seqOf μ s = some (ns.map Val.int)) (sl : s < μ.nx) : Gets (d_law [.loc s] μ) fun v _ => v = .bl true := by
  refine Gets.run rfl ?_
  unfold m_law
  have hs' := hs
  unfold seqOf at hs'
  unfold sSeq
  refine Rets.then ?_
  refine sFor_rng (lo := 0) (μ1 := μ) (n := (if (if (ns.length : Int) < 4 then (ns.length : Int) else 4) > 1 then (if (ns.length : Int) < 4 then (ns.length : Int) else 4) else 1).toNat) ?_ (fun _ ρ μ' => (∃ v1 v2 v3 v4 v5 v6 v7 v8 v9 v10 v11 v12 v13, ρ = [some (.loc s), v1, v2, v3, v4, v5, v6, v7, v8, v9, v10, v11, v12, v13]) ∧ Kee [] μ μ') ⟨⟨_, _, _, _, _, _, _, _, _, _, _, _, _, rfl⟩, Kee.refl _ _⟩ ?_ ?_
  · have hb : ((if (if (ns.length : Int) < 4 then (ns.length : Int) else 4) > 1 then (if (ns.length : Int) < 4 then (ns.length : Int) else 4) else 1) ≤ 1000000 ∧ -1000000 ≤ (if (if (ns.length : Int) < 4 then (ns.length : Int) else 4) > 1 then (if (ns.length : Int) < 4 then (ns.length : Int) else 4) else 1)) = True := eq_true (by constructor <;> (split <;> split <;> omega))
    simp only [Wn.R.bind_ok, Wn.R.bind_no, Wn.R.cut_ok, Wn.R.cut_no, sThen_nx, sThen_rt, sThen_bk, sThen_ct, mC, mV, mNil, mCons, mTup, mLst, mOp, mUn, mFn, mMt, boolM, mTest, mAnd, mOr, mNot, mIf, mBl, mAndV, mOrV, mNotV, mAndT, mOrT, truM, List.isEmpty_cons, List.isEmpty_nil, addM, subM, mulM, modM, fdivM, powM, negM, ltM, leM, gtM, geM, cmpI, isM', isntM, isNon, getM, dgetM, slM, mSl, mP, mP0, lenM, listM, tupleM, minM, maxM, absM, intM, sortedM, mBm, lstOf, appM, popM, extM, idxM, remLM, sNil, sSeq, sSet, sExpr, sRet, sRetN, sIf, sBrk, sCnt, sPar, sPar3, sAsg, tgN, tgT, unp, stoM, dstoM, sSto, Wk.items, iSeq, iRng1, iRng2, iEnm, mCall, mMeth, sysOf, onSys, mMethK, mMake, mMakeK, makM, mYes, mListR1, mListR2, intBM, startV, seqOf, keyOf, List.getElem?_cons_zero, List.getElem?_cons_succ, List.getElem?_nil, List.set_cons_zero, List.set_cons_succ, List.map_cons, List.map_nil, List.length_cons, List.length_nil, List.cons_append, List.nil_append, List.append_nil, List.replicate, Nat.reduceAdd, Nat.reduceSub, Nat.reduceLeDiff, Nat.reduceLT, Nat.reduceEqDiff, Int.reduceLT, Int.reduceLE, Int.reduceNeg, Int.reducePow, ite_true, ite_false, if_true, if_false, reduceIte, Bool.false_eq_true, Bool.true_eq_false, Bool.not_true, Bool.not_false, and_self, and_true, true_and, Mu.put_same, Mu.new_same, Mu.put_nx, Mu.new_nx, Nat.zero_add, Nat.le_refl, Goes_nx, Gets_ok, Rets_nx, Rets_rt, CMul, CDiv, CPow, or_true, true_or, or_self, not_true, not_false_iff, mDm, dctV, popDM, getDM, mDisp, mPrs, kvOf, decide_false, decide_true, Int.reduceToNat, Nat.reducePow, Int.reduceAdd, Int.reduceSub, Int.reduceMul, hs', List.length_map, hb]
  · rintro j ρ μ' _ ⟨⟨v1, v2, v3, v4, v5, v6, v7, v8, v9, v10, v11, v12, v13, rfl⟩, kp⟩
    refine ⟨_, rfl, ?_⟩
    have hs2 : seqOf μ' s = some (ns.map Val.int) := (seqOf_keep kp sl (by simp)).trans hs
    obtain ⟨b, μ1, e1, k1, g1, b1⟩ := bag_eq hs2 (kp.lt sl) (i := 0 + (j : Int)) (by omega)
    have le1 := k1.le
    have bl1 := g1.1
    have A : sSet 2 (mCall 2 d__law_bag (mCons (mV 0) (mCons (mV 1) (mNil)))) [some (.loc s), some (.int (0 + (j : Int))), v2, v3, v4, v5, v6, v7, v8, v9, v10, v11, v12, v13] μ' = .ok (.nx [some (.loc s), some (.int (0 + (j : Int))), some (.loc b), v3, v4, v5, v6, v7, v8, v9, v10, v11, v12, v13]) μ1 := by
      simp only [Wn.R.bind_ok, Wn.R.bind_no, Wn.R.cut_ok, Wn.R.cut_no, sThen_nx, sThen_rt, sThen_bk, sThen_ct, mC, mV, mNil, mCons, mTup, mLst, mOp, mUn, mFn, mMt, boolM, mTest, mAnd, mOr, mNot, mIf, mBl, mAndV, mOrV, mNotV, mAndT, mOrT, truM, List.isEmpty_cons, List.isEmpty_nil, addM, subM, mulM, modM, fdivM, powM, negM, ltM, leM, gtM, geM, cmpI, isM', isntM, isNon, getM, dgetM, slM, mSl, mP, mP0, lenM, listM, tupleM, minM, maxM, absM, intM, sortedM, mBm, lstOf, appM, popM, extM, idxM, remLM, sNil, sSeq, sSet, sExpr, sRet, sRetN, sIf, sBrk, sCnt, sPar, sPar3, sAsg, tgN, tgT, unp, stoM, dstoM, sSto, Wk.items, iSeq, iRng1, iRng2, iEnm, mCall, mMeth, sysOf, onSys, mMethK, mMake, mMakeK, makM, mYes, mListR1, mListR2, intBM, startV, seqOf, keyOf, List.getElem?_cons_zero, List.getElem?_cons_succ, List.getElem?_nil, List.set_cons_zero, List.set_cons_succ, List.map_cons, List.map_nil, List.length_cons, List.length_nil, List.cons_append, List.nil_append, List.append_nil, List.replicate, Nat.reduceAdd, Nat.reduceSub, Nat.reduceLeDiff, Nat.reduceLT, Nat.reduceEqDiff, Int.reduceLT, Int.reduceLE, Int.reduceNeg, Int.reducePow, ite_true, ite_false, if_true, if_false, reduceIte, Bool.false_eq_true, Bool.true_eq_false, Bool.not_true, Bool.not_false, and_self, and_true, true_and, Mu.put_same, Mu.new_same, Mu.put_nx, Mu.new_nx, Nat.zero_add, Nat.le_refl, Goes_nx, Gets_ok, Rets_nx, Rets_rt, CMul, CDiv, CPow, or_true, true_or, or_self, not_true, not_false_iff, mDm, dctV, popDM, getDM, mDisp, mPrs, kvOf, decide_false, decide_true, Int.reduceToNat, Nat.reducePow, Int.reduceAdd, Int.reduceSub, Int.reduceMul, e1]
    obtain ⟨μ2, hμ2⟩ : ∃ μ2, (μ1.new (.sys (svk 0))).new (.lst []) = μ2 := ⟨_, rfl⟩
    have k2 : Kee [] μ1 μ2 := by rw [← hμ2]; exact Kee.new.newN
    have n2 : μ2.nx = μ1.nx + 2 := by rw [← hμ2]; rfl
    have x2 : μ2.ob μ1.nx = some (.sys (svk 0)) := by
      rw [← hμ2, Mu.new_ne _ _ (by simp only [Mu.new_nx]; omega)]
      exact Mu.new_same _ _
    have l2 : μ2.ob (μ1.nx + 1) = some (.lst []) := by rw [← hμ2]; exact Mu.new_same _ _
    have Bs : sPar 3 4 (mCons (mMakeK makM 1 (fun zs => zs ++ [.int 8]) (mCons (mC (.int 2)) (mNil))) (mCons (mLst (mNil)) (mNil))) [some (.loc s), some (.int (0 + (j : Int))), some (.loc b), v3, v4, v5, v6, v7, v8, v9, v10, v11, v12, v13] μ1 = .ok (.nx [some (.loc s), some (.int (0 + (j : Int))), some (.loc b), some (.loc μ1.nx), some (.loc (μ1.nx + 1)), v5, v6, v7, v8, v9, v10, v11, v12, v13]) μ2 := by
      rw [← hμ2]
      simp only [Wn.R.bind_ok, Wn.R.bind_no, Wn.R.cut_ok, Wn.R.cut_no, sThen_nx, sThen_rt, sThen_bk, sThen_ct, mC, mV, mNil, mCons, mTup, mLst, mOp, mUn, mFn, mMt, boolM, mTest, mAnd, mOr, mNot, mIf, mBl, mAndV, mOrV, mNotV, mAndT, mOrT, truM, List.isEmpty_cons, List.isEmpty_nil, addM, subM, mulM, modM, fdivM, powM, negM, ltM, leM, gtM, geM, cmpI, isM', isntM, isNon, getM, dgetM, slM, mSl, mP, mP0, lenM, listM, tupleM, minM, maxM, absM, intM, sortedM, mBm, lstOf, appM, popM, extM, idxM, remLM, sNil, sSeq, sSet, sExpr, sRet, sRetN, sIf, sBrk, sCnt, sPar, sPar3, sAsg, tgN, tgT, unp, stoM, dstoM, sSto, Wk.items, iSeq, iRng1, iRng2, iEnm, mCall, mMeth, sysOf, onSys, mMethK, mMake, mMakeK, makM, mYes, mListR1, mListR2, intBM, startV, seqOf, keyOf, List.getElem?_cons_zero, List.getElem?_cons_succ, List.getElem?_nil, List.set_cons_zero, List.set_cons_succ, List.map_cons, List.map_nil, List.length_cons, List.length_nil, List.cons_append, List.nil_append, List.append_nil, List.replicate, Nat.reduceAdd, Nat.reduceSub, Nat.reduceLeDiff, Nat.reduceLT, Nat.reduceEqDiff, Int.reduceLT, Int.reduceLE, Int.reduceNeg, Int.reducePow, ite_true, ite_false, if_true, if_false, reduceIte, Bool.false_eq_true, Bool.true_eq_false, Bool.not_true, Bool.not_false, and_self, and_true, true_and, Mu.put_same, Mu.new_same, Mu.put_nx, Mu.new_nx, Nat.zero_add, Nat.le_refl, Goes_nx, Gets_ok, Rets_nx, Rets_rt, CMul, CDiv, CPow, or_true, true_or, or_self, not_true, not_false_iff, mDm, dctV, popDM, getDM, mDisp, mPrs, kvOf, decide_false, decide_true, Int.reduceToNat, Nat.reducePow, Int.reduceAdd, Int.reduceSub, Int.reduceMul]
      rfl
    unfold m_law_3
    simp only [List.set_cons_zero, List.set_cons_succ]
    rw [seq_nx A, seq_nx Bs, sSeq]
    refine Goes.then ?_
    refine sFor_rng (lo := 0) (n := 3) (μ1 := μ2) (by simp only [Wn.R.bind_ok, Wn.R.bind_no, Wn.R.cut_ok, Wn.R.cut_no, sThen_nx, sThen_rt, sThen_bk, sThen_ct, mC, mV, mNil, mCons, mTup, mLst, mOp, mUn, mFn, mMt, boolM, mTest, mAnd, mOr, mNot, mIf, mBl, mAndV, mOrV, mNotV, mAndT, mOrT, truM, List.isEmpty_cons, List.isEmpty_nil, addM, subM, mulM, modM, fdivM, powM, negM, ltM, leM, gtM, geM, cmpI, isM', isntM, isNon, getM, dgetM, slM, mSl, mP, mP0, lenM, listM, tupleM, minM, maxM, absM, intM, sortedM, mBm, lstOf, appM, popM, extM, idxM, remLM, sNil, sSeq, sSet, sExpr, sRet, sRetN, sIf, sBrk, sCnt, sPar, sPar3, sAsg, tgN, tgT, unp, stoM, dstoM, sSto, Wk.items, iSeq, iRng1, iRng2, iEnm, mCall, mMeth, sysOf, onSys, mMethK, mMake, mMakeK, makM, mYes, mListR1, mListR2, intBM, startV, seqOf, keyOf, List.getElem?_cons_zero, List.getElem?_cons_succ, List.getElem?_nil, List.set_cons_zero, List.set_cons_succ, List.map_cons, List.map_nil, List.length_cons, List.length_nil, List.cons_append, List.nil_append, List.append_nil, List.replicate, Nat.reduceAdd, Nat.reduceSub, Nat.reduceLeDiff, Nat.reduceLT, Nat.reduceEqDiff, Int.reduceLT, Int.reduceLE, Int.reduceNeg, Int.reducePow, ite_true, ite_false, if_true, if_false, reduceIte, Bool.false_eq_true, Bool.true_eq_false, Bool.not_true, Bool.not_false, and_self, and_true, true_and, Mu.put_same, Mu.new_same, Mu.put_nx, Mu.new_nx, Nat.zero_add, Nat.le_refl, Goes_nx, Gets_ok, Rets_nx, Rets_rt, CMul, CDiv, CPow, or_true, true_or, or_self, not_true, not_false_iff, mDm, dctV, popDM, getDM, mDisp, mPrs, kvOf, decide_false, decide_true, Int.reduceToNat, Nat.reducePow, Int.reduceAdd, Int.reduceSub, Int.reduceMul]) (fun q ρ μ3 => (∃ v5, ρ = [some (.loc s), some (.int (0 + (j : Int))), some (.loc b), some (.loc μ1.nx), some (.loc (μ1.nx + 1)), v5, v6, v7, v8, v9, v10, v11, v12, v13]) ∧ Kee [μ1.nx] μ2 μ3 ∧ μ3.nx = μ2.nx ∧ μ3.ob μ1.nx = some (.sys (svk q))) ⟨⟨_, rfl⟩, Kee.refl _ _, rfl, x2⟩ ?_ ?_
    · rintro q ρ μ3 hq ⟨⟨v5, rfl⟩, k3, n3, x3⟩
      refine ⟨_, rfl, ?_⟩
      have nok := k07_new μ1.nx μ3 q hq
      unfold m_law_1
      simp only [Wn.R.bind_ok, Wn.R.bind_no, Wn.R.cut_ok, Wn.R.cut_no, sThen_nx, sThen_rt, sThen_bk, sThen_ct, mC, mV, mNil, mCons, mTup, mLst, mOp, mUn, mFn, mMt, boolM, mTest, mAnd, mOr, mNot, mIf, mBl, mAndV, mOrV, mNotV, mAndT, mOrT, truM, List.isEmpty_cons, List.isEmpty_nil, addM, subM, mulM, modM, fdivM, powM, negM, ltM, leM, gtM, geM, cmpI, isM', isntM, isNon, getM, dgetM, slM, mSl, mP, mP0, lenM, listM, tupleM, minM, maxM, absM, intM, sortedM, mBm, lstOf, appM, popM, extM, idxM, remLM, sNil, sSeq, sSet, sExpr, sRet, sRetN, sIf, sBrk, sCnt, sPar, sPar3, sAsg, tgN, tgT, unp, stoM, dstoM, sSto, Wk.items, iSeq, iRng1, iRng2, iEnm, mCall, mMeth, sysOf, onSys, mMethK, mMake, mMakeK, makM, mYes, mListR1, mListR2, intBM, startV, seqOf, keyOf, List.getElem?_cons_zero, List.getElem?_cons_succ, List.getElem?_nil, List.set_cons_zero, List.set_cons_succ, List.map_cons, List.map_nil, List.length_cons, List.length_nil, List.cons_append, List.nil_append, List.append_nil, List.replicate, Nat.reduceAdd, Nat.reduceSub, Nat.reduceLeDiff, Nat.reduceLT, Nat.reduceEqDiff, Int.reduceLT, Int.reduceLE, Int.reduceNeg, Int.reducePow, ite_true, ite_false, if_true, if_false, reduceIte, Bool.false_eq_true, Bool.true_eq_false, Bool.not_true, Bool.not_false, and_self, and_true, true_and, Mu.put_same, Mu.new_same, Mu.put_nx, Mu.new_nx, Nat.zero_add, Nat.le_refl, Goes_nx, Gets_ok, Rets_nx, Rets_rt, CMul, CDiv, CPow, or_true, true_or, or_self, not_true, not_false_iff, mDm, dctV, popDM, getDM, mDisp, mPrs, kvOf, decide_false, decide_true, Int.reduceToNat, Nat.reducePow, Int.reduceAdd, Int.reduceSub, Int.reduceMul, x3, nok]
      exact ⟨⟨_, rfl⟩, k3.putN (.inr (by simp)), n3⟩
    rintro ρ μ3 ⟨⟨v5, rfl⟩, k3, n3, x3⟩
    obtain ⟨ρ3, hρ3⟩ : ∃ ρ3 : Rho, [some (.loc s), some (.int (0 + (j : Int))), some (.loc b), some (.loc μ1.nx), some (.loc (μ1.nx + 1)), v5, v6, v7, v8, v9, v10, v11, v12, v13] = ρ3 := ⟨_, rfl⟩
    have C1 : sExpr (mMeth (copM) ([]) (mV 3) (mCons (mC (.int 0)) (mCons (mMeth (newM (.set [] [])) ([]) (mV 3) (mCons (mC (.int 0)) (mNil))) (mCons (mC (.int 7)) (mNil))))) ρ3 μ3 = .ok (.nx ρ3) ((μ3.put μ1.nx (.sys svS)).put μ1.nx (.sys svC)) := by
      have a1 := k07_set μ1.nx μ3
      have a2 := k07_cop μ1.nx (μ3.put μ1.nx (.sys svS))
      rw [← hρ3]
      simp only [Wn.R.bind_ok, Wn.R.bind_no, Wn.R.cut_ok, Wn.R.cut_no, sThen_nx, sThen_rt, sThen_bk, sThen_ct, mC, mV, mNil, mCons, mTup, mLst, mOp, mUn, mFn, mMt, boolM, mTest, mAnd, mOr, mNot, mIf, mBl, mAndV, mOrV, mNotV, mAndT, mOrT, truM, List.isEmpty_cons, List.isEmpty_nil, addM, subM, mulM, modM, fdivM, powM, negM, ltM, leM, gtM, geM, cmpI, isM', isntM, isNon, getM, dgetM, slM, mSl, mP, mP0, lenM, listM, tupleM, minM, maxM, absM, intM, sortedM, mBm, lstOf, appM, popM, extM, idxM, remLM, sNil, sSeq, sSet, sExpr, sRet, sRetN, sIf, sBrk, sCnt, sPar, sPar3, sAsg, tgN, tgT, unp, stoM, dstoM, sSto, Wk.items, iSeq, iRng1, iRng2, iEnm, mCall, mMeth, sysOf, onSys, mMethK, mMake, mMakeK, makM, mYes, mListR1, mListR2, intBM, startV, seqOf, keyOf, List.getElem?_cons_zero, List.getElem?_cons_succ, List.getElem?_nil, List.set_cons_zero, List.set_cons_succ, List.map_cons, List.map_nil, List.length_cons, List.length_nil, List.cons_append, List.nil_append, List.append_nil, List.replicate, Nat.reduceAdd, Nat.reduceSub, Nat.reduceLeDiff, Nat.reduceLT, Nat.reduceEqDiff, Int.reduceLT, Int.reduceLE, Int.reduceNeg, Int.reducePow, ite_true, ite_false, if_true, if_false, reduceIte, Bool.false_eq_true, Bool.true_eq_false, Bool.not_true, Bool.not_false, and_self, and_true, true_and, Mu.put_same, Mu.new_same, Mu.put_nx, Mu.new_nx, Nat.zero_add, Nat.le_refl, Goes_nx, Gets_ok, Rets_nx, Rets_rt, CMul, CDiv, CPow, or_true, true_or, or_self, not_true, not_false_iff, mDm, dctV, popDM, getDM, mDisp, mPrs, kvOf, decide_false, decide_true, Int.reduceToNat, Nat.reducePow, Int.reduceAdd, Int.reduceSub, Int.reduceMul, x3, a1, a2]
    rw [Mu.put_put] at C1
    have C2 : sExpr (mMeth (cloM) ([]) (mV 3) (mCons (mC (.int 0)) (mCons (mC (.int 3)) (mNil)))) ρ3 (μ3.put μ1.nx (.sys svC)) = .ok (.nx ρ3) ((μ3.put μ1.nx (.sys svC)).put μ1.nx (.sys svD)) := by
      have a1 := k07_clo μ1.nx (μ3.put μ1.nx (.sys svC))
      rw [← hρ3]
      simp only [Wn.R.bind_ok, Wn.R.bind_no, Wn.R.cut_ok, Wn.R.cut_no, sThen_nx, sThen_rt, sThen_bk, sThen_ct, mC, mV, mNil, mCons, mTup, mLst, mOp, mUn, mFn, mMt, boolM, mTest, mAnd, mOr, mNot, mIf, mBl, mAndV, mOrV, mNotV, mAndT, mOrT, truM, List.isEmpty_cons, List.isEmpty_nil, addM, subM, mulM, modM, fdivM, powM, negM, ltM, leM, gtM, geM, cmpI, isM', isntM, isNon, getM, dgetM, slM, mSl, mP, mP0, lenM, listM, tupleM, minM, maxM, absM, intM, sortedM, mBm, lstOf, appM, popM, extM, idxM, remLM, sNil, sSeq, sSet, sExpr, sRet, sRetN, sIf, sBrk, sCnt, sPar, sPar3, sAsg, tgN, tgT, unp, stoM, dstoM, sSto, Wk.items, iSeq, iRng1, iRng2, iEnm, mCall, mMeth, sysOf, onSys, mMethK, mMake, mMakeK, makM, mYes, mListR1, mListR2, intBM, startV, seqOf, keyOf, List.getElem?_cons_zero, List.getElem?_cons_succ, List.getElem?_nil, List.set_cons_zero, List.set_cons_succ, List.map_cons, List.map_nil, List.length_cons, List.length_nil, List.cons_append, List.nil_append, List.append_nil, List.replicate, Nat.reduceAdd, Nat.reduceSub, Nat.reduceLeDiff, Nat.reduceLT, Nat.reduceEqDiff, Int.reduceLT, Int.reduceLE, Int.reduceNeg, Int.reducePow, ite_true, ite_false, if_true, if_false, reduceIte, Bool.false_eq_true, Bool.true_eq_false, Bool.not_true, Bool.not_false, and_self, and_true, true_and, Mu.put_same, Mu.new_same, Mu.put_nx, Mu.new_nx, Nat.zero_add, Nat.le_refl, Goes_nx, Gets_ok, Rets_nx, Rets_rt, CMul, CDiv, CPow, or_true, true_or, or_self, not_true, not_false_iff, mDm, dctV, popDM, getDM, mDisp, mPrs, kvOf, decide_false, decide_true, Int.reduceToNat, Nat.reducePow, Int.reduceAdd, Int.reduceSub, Int.reduceMul, a1]
    rw [Mu.put_put] at C2
    have C3 : sExpr (mMeth (forM) ([]) (mV 3) (mCons (mC (.int 0)) (mNil))) ρ3 (μ3.put μ1.nx (.sys svD)) = .ok (.nx ρ3) ((μ3.put μ1.nx (.sys svD)).put μ1.nx (.sys sv07)) := by
      have a1 := k07_for μ1.nx (μ3.put μ1.nx (.sys svD))
      rw [← hρ3]
      simp only [Wn.R.bind_ok, Wn.R.bind_no, Wn.R.cut_ok, Wn.R.cut_no, sThen_nx, sThen_rt, sThen_bk, sThen_ct, mC, mV, mNil, mCons, mTup, mLst, mOp, mUn, mFn, mMt, boolM, mTest, mAnd, mOr, mNot, mIf, mBl, mAndV, mOrV, mNotV, mAndT, mOrT, truM, List.isEmpty_cons, List.isEmpty_nil, addM, subM, mulM, modM, fdivM, powM, negM, ltM, leM, gtM, geM, cmpI, isM', isntM, isNon, getM, dgetM, slM, mSl, mP, mP0, lenM, listM, tupleM, minM, maxM, absM, intM, sortedM, mBm, lstOf, appM, popM, extM, idxM, remLM, sNil, sSeq, sSet, sExpr, sRet, sRetN, sIf, sBrk, sCnt, sPar, sPar3, sAsg, tgN, tgT, unp, stoM, dstoM, sSto, Wk.items, iSeq, iRng1, iRng2, iEnm, mCall, mMeth, sysOf, onSys, mMethK, mMake, mMakeK, makM, mYes, mListR1, mListR2, intBM, startV, seqOf, keyOf, List.getElem?_cons_zero, List.getElem?_cons_succ, List.getElem?_nil, List.set_cons_zero, List.set_cons_succ, List.map_cons, List.map_nil, List.length_cons, List.length_nil, List.cons_append, List.nil_append, List.append_nil, List.replicate, Nat.reduceAdd, Nat.reduceSub, Nat.reduceLeDiff, Nat.reduceLT, Nat.reduceEqDiff, Int.reduceLT, Int.reduceLE, Int.reduceNeg, Int.reducePow, ite_true, ite_false, if_true, if_false, reduceIte, Bool.false_eq_true, Bool.true_eq_false, Bool.not_true, Bool.not_false, and_self, and_true, true_and, Mu.put_same, Mu.new_same, Mu.put_nx, Mu.new_nx, Nat.zero_add, Nat.le_refl, Goes_nx, Gets_ok, Rets_nx, Rets_rt, CMul, CDiv, CPow, or_true, true_or, or_self, not_true, not_false_iff, mDm, dctV, popDM, getDM, mDisp, mPrs, kvOf, decide_false, decide_true, Int.reduceToNat, Nat.reducePow, Int.reduceAdd, Int.reduceSub, Int.reduceMul, a1]
    rw [Mu.put_put] at C3
    obtain ⟨μ4, hμ4⟩ : ∃ μ4, μ3.put μ1.nx (.sys sv07) = μ4 := ⟨_, rfl⟩
    rw [hμ4] at C3
    have k4 : Kee [μ1.nx] μ2 μ4 := by rw [← hμ4]; exact k3.putN (.inr (by simp))
    have n4 : μ4.nx = μ2.nx := by rw [← hμ4]; exact n3
    have x4 : μ4.ob μ1.nx = some (.sys sv07) := by rw [← hμ4]; exact Mu.put_same _ _ _
    have l4 : μ4.ob (μ1.nx + 1) = some (.lst []) := (k4.ob _ (by omega) (by simp)).trans l2
    obtain ⟨μ5, hμ5⟩ : ∃ μ5, ((μ4.new (.dct kv07)).new (.dct kv07)).new (.lst [.loc μ4.nx, .loc (μ4.nx + 1)]) = μ5 := ⟨_, rfl⟩
    have n5 : μ5.nx = μ4.nx + 3 := by rw [← hμ5]; rfl
    have k5 : Kee [] μ4 μ5 := by rw [← hμ5]; exact Kee.new.newN.newN
    have o50 : μ5.ob μ4.nx = some (.dct kv07) := by
      rw [← hμ5, Mu.new_ne _ _ (by simp only [Mu.new_nx]; omega), Mu.new_ne _ _ (by simp only [Mu.new_nx]; omega)]
      exact Mu.new_same _ _
    have o51 : μ5.ob (μ4.nx + 1) = some (.dct kv07) := by
      rw [← hμ5, Mu.new_ne _ _ (by simp only [Mu.new_nx]; omega)]
      exact Mu.new_same _ _
    have o52 : μ5.ob (μ4.nx + 2) = some (.lst [.loc μ4.nx, .loc (μ4.nx + 1)]) := by rw [← hμ5]; exact Mu.new_same _ _
    have C4 : sSet 6 (mLst (mCons (mDisp [(mC (.int 0), mC (.int 0)), (mC (.int 1), mC (.int 1)), (mC (.int 2), mC (.int 2))]) (mCons (mDisp [(mC (.int 0), mC (.int 0)), (mC (.int 1), mC (.int 1)), (mC (.int 2), mC (.int 2))]) (mNil)))) ρ3 μ4 = .ok (.nx (r07 s (some (.int (0 + (j : Int)))) b μ1.nx (μ1.nx + 1) v5 (μ4.nx + 2) v7 v8 v9 v10 v11 v12 v13)) μ5 := by
      unfold sSet mLst mCons
      rw [disp07, Wn.R.bind_ok, disp07, Wn.R.bind_ok, ← hρ3, ← hμ5]
      rfl
    rw [hρ3, seq_nx C1, seq_nx C2, seq_nx C3, seq_nx C4]
    have h5 : M07 μ5 b μ1.nx (μ4.nx + 2) (μ1.nx + 1) (fun p => μ4.nx + p) sv07 [] := by
      have kb : Kee [μ1.nx] μ1 μ5 := (k2.mono (by simp)).trans (k4.trans (k5.mono (by simp)))
      refine ⟨g1.keep kb (by simp; omega), (k5.ob _ (by omega) (by simp)).trans x4, g07, o52, fun p hp => ⟨kv07, R07, ?_, ?_, dr07⟩, (k5.ob _ (by omega) (by simp)).trans l4, by omega, by omega, by omega, fun p hp => by show μ4.nx + p < μ5.nx; omega, by omega, by omega, by omega, by omega, by omega, by omega, fun p hp => ⟨?_, ?_, ?_, ?_⟩, by show μ4.nx + 0 ≠ μ4.nx + 1; omega⟩
      · match p, hp with
        | 0, _ => exact o50
        | 1, _ => exact o51
      · match p, hp with
        | 0, _ => rfl
        | 1, _ => rfl
      · show μ4.nx + p ≠ b; omega
      · show μ4.nx + p ≠ μ1.nx; omega
      · show μ4.nx + p ≠ μ4.nx + 2; omega
      · show μ4.nx + p ≠ μ1.nx + 1; omega
    obtain ⟨c3, μ6, e6, f0, f4, k6, b6, n6⟩ := take_eq h5.bg (n := 29) (by decide) (by decide)
    have h6 := h5.draw k6 b6
    have lw6 : Low μ'.nx μ' μ6 := (k1.low (Nat.le_refl _) (by simp)).trans ((k2.low le1 (by simp)).trans ((k4.low (by omega) (by simp; omega)).trans ((k5.low (by omega) (by simp)).trans (k6.low (by omega) (by simp; omega)))))
    have hb6 : (12 + c3 ≤ 1000000 ∧ -1000000 ≤ 12 + c3) = True := eq_true (by omega)
    refine sFor_rng (lo := 0) (n := (12 + c3).toNat) (μ1 := μ6) (by unfold r07; simp only [Wn.R.bind_ok, Wn.R.bind_no, Wn.R.cut_ok, Wn.R.cut_no, sThen_nx, sThen_rt, sThen_bk, sThen_ct, mC, mV, mNil, mCons, mTup, mLst, mOp, mUn, mFn, mMt, boolM, mTest, mAnd, mOr, mNot, mIf, mBl, mAndV, mOrV, mNotV, mAndT, mOrT, truM, List.isEmpty_cons, List.isEmpty_nil, addM, subM, mulM, modM, fdivM, powM, negM, ltM, leM, gtM, geM, cmpI, isM', isntM, isNon, getM, dgetM, slM, mSl, mP, mP0, lenM, listM, tupleM, minM, maxM, absM, intM, sortedM, mBm, lstOf, appM, popM, extM, idxM, remLM, sNil, sSeq, sSet, sExpr, sRet, sRetN, sIf, sBrk, sCnt, sPar, sPar3, sAsg, tgN, tgT, unp, stoM, dstoM, sSto, Wk.items, iSeq, iRng1, iRng2, iEnm, mCall, mMeth, sysOf, onSys, mMethK, mMake, mMakeK, makM, mYes, mListR1, mListR2, intBM, startV, seqOf, keyOf, List.getElem?_cons_zero, List.getElem?_cons_succ, List.getElem?_nil, List.set_cons_zero, List.set_cons_succ, List.map_cons, List.map_nil, List.length_cons, List.length_nil, List.cons_append, List.nil_append, List.append_nil, List.replicate, Nat.reduceAdd, Nat.reduceSub, Nat.reduceLeDiff, Nat.reduceLT, Nat.reduceEqDiff, Int.reduceLT, Int.reduceLE, Int.reduceNeg, Int.reducePow, ite_true, ite_false, if_true, if_false, reduceIte, Bool.false_eq_true, Bool.true_eq_false, Bool.not_true, Bool.not_false, and_self, and_true, true_and, Mu.put_same, Mu.new_same, Mu.put_nx, Mu.new_nx, Nat.zero_add, Nat.le_refl, Goes_nx, Gets_ok, Rets_nx, Rets_rt, CMul, CDiv, CPow, or_true, true_or, or_self, not_true, not_false_iff, mDm, dctV, popDM, getDM, mDisp, mPrs, kvOf, decide_false, decide_true, Int.reduceToNat, Nat.reducePow, Int.reduceAdd, Int.reduceSub, Int.reduceMul, e6, hb6]) (fun q ρ μi => (∃ v7 v8 v9 v10, ρ = r07 s (some (.int (0 + (j : Int)))) b μ1.nx (μ1.nx + 1) v5 (μ4.nx + 2) v7 v8 v9 v10 v11 v12 v13) ∧ Low μ'.nx μ' μi ∧ ∃ v R, M07 μi b μ1.nx (μ4.nx + 2) (μ1.nx + 1) (fun p => μ4.nx + p) v R) ⟨⟨_, _, _, _, rfl⟩, lw6, _, _, h6⟩ ?_ ?_
    · rintro q ρ μi hq ⟨⟨v7, v8, v9, v10, rfl⟩, lw, v, R, hM⟩
      refine ⟨_, rfl, ?_⟩
      show Goes (m_law_2 (r07 s (some (.int (0 + (j : Int)))) b μ1.nx (μ1.nx + 1) v5 (μ4.nx + 2) (some (.int (0 + (q : Int)))) v8 v9 v10 v11 v12 v13) μi) _
      refine (turn_eq (sc := s) (v1 := some (.int (0 + (j : Int)))) (v5 := v5) (v7 := some (.int (0 + (q : Int)))) (v8 := v8) (v9 := v9) (v10 := v10) (v11 := v11) (v12 := v12) (v13 := v13) hM).mono fun ρ' μ9 ⟨⟨w8, w9, w10, e⟩, ⟨v', R', h9⟩, k9⟩ => ?_
      subst e
      refine ⟨⟨_, _, _, _, rfl⟩, lw.trans (k9.low lw.1 ?_), v', R', h9⟩
      intro a ha
      simp only [List.mem_cons, List.not_mem_nil, or_false] at ha
      rcases ha with rfl | rfl | rfl | rfl | rfl <;> omega
    · rintro ρ μi ⟨⟨v7, v8, v9, v10, rfl⟩, lw, _⟩
      exact ⟨⟨_, _, _, _, _, _, _, _, _, _, _, _, _, rfl⟩, kp.trans lw.kee⟩
  · rintro ρ μ' ⟨⟨v1, v2, v3, v4, v5, v6, v7, v8, v9, v10, v11, v12, v13, rfl⟩, kp⟩
    exact rfl

/-! ### the end -/
theorem facts {w : World} {K : PySem.W.Frag} {mg : Str → Option Value} {fa : Addr} {h : Heap} (X : K.In h) (G : h.Ns mainGlobals mg) (hf : mg ("law" : Str) = some (.ref fa)) (c : SaysW fcL fwL tsL tfL w h K) : LawG PySem.Challenge.rw_waitnumbers_k07_keys_of_registrations w K CX0 12 63 "_law_script" mg fa h := by
  have T := tx_of X G c
  have e : fa = gA "law" K := by
    have z := hf.symm.trans T.g_law
    cases z
    rfl
  subst e
  have b := FunD.bindsA (ps := ["_law_script"]) T.f_law fun _ _ _ _ _ _ us hl => match us, hl with | [_], _ => rfl
  have tl : ∀ x ∈ lamL, ((x, none) : Defn) ∈ tfL := by decide
  have cm : ∀ p ∈ lamL.map (fun x => cT K (x, none)), ∃ q ∈ tfL, p = cT K q := fun p hp => by
    obtain ⟨x, hx, rfl⟩ := List.mem_map.mp hp
    exact ⟨_, tl x hx, rfl⟩
  refine ⟨_, lamL.map (fun x => cT K (x, none)), spM K 1 d_law, fun p hp => ?_, fun p hp => ?_, fun p hp => ?_, fun s u => b s [u] rfl, fun H a ns hl hH hS => law_sp law_eq H a ns hl (fun p hp => ?_) hS, fun base _ _ TB => okm_law T (fun x hx => TB _ (List.mem_map.mpr ⟨x, hx, rfl⟩))⟩
  · obtain ⟨q, hq, rfl⟩ := cm p hp
    exact c.x.empty q hq
  · obtain ⟨q, hq, rfl⟩ := cm p hp
    exact c.x.out q hq
  · obtain ⟨q, hq, rfl⟩ := cm p hp
    exact PySem.W.codeHd_of_K X (c.x.hd q hq)
  · obtain ⟨x, hx, rfl⟩ := List.mem_map.mp hp
    exact ⟨#[], hH _ (List.mem_map.mpr ⟨x, hx, rfl⟩), True.intro, fun pos cv h => nomatch h⟩

end Wn

open PySem PySem.W PySem.Calls PyProof.Rows
theorem PySem.Challenge.cw_waitnumbers_k07_keys_of_registrations_holds : PySem.Challenge.rw_waitnumbers_k07_keys_of_registrations.Holds := by
  w_on; o_law
  refine HandSHeadRun.head_any (r := OpenLaw.row PySem.Challenge.rw_waitnumbers_k07_keys_of_registrations) (q := view (OpenLaw.row PySem.Challenge.rw_waitnumbers_k07_keys_of_registrations).prog [45]) (H := Wn.hk) (ob := Wn.obs) (M := 20000) (loose := Wn.loose) (d := HandSHeadRun.topDef (OpenLaw.row PySem.Challenge.rw_waitnumbers_k07_keys_of_registrations).prog 45) (kwd := []) Wn.obs_eq
    (by kernel_rfl) (fun s => by kernel_rfl) Wn.run (by kernel_rfl) (by kernel_rfl) (by kernel_rfl) (by rfl) (by first | assumption | decide +kernel) (by decide +kernel) ⟨rfl, rfl, rfl, rfl, rfl, by decide +kernel⟩ ?hw ?hc
  case hw => w_witness2
  case hc =>
    refine Wn.walk_g (l := PySem.Challenge.rw_waitnumbers_k07_keys_of_registrations) (n := 63) (k := 12) (x := "_law_script") (CX := fun _ => L2.CX0) rfl (by decide) (by kernel_rfl) ⟨rfl, by decide, by decide⟩ ?F (fun _ _ _ _ _ z => z)
    intro w mg fa h ⟨K, KX, c⟩ G hm
    have e : (HandSHeadRun.topDef (OpenLaw.row PySem.Challenge.rw_waitnumbers_k07_keys_of_registrations).prog 45).name = ("law" : PySem.Str) := by kernel_rfl
    exact ⟨K, KX, Wn.facts KX G (by rw [← e]; exact hm) c⟩
