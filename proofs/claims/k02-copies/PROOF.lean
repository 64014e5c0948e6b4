import PyProof.Rows.All
import Wide.All
import OpenK.AllK
import Wide.FinOn
import HandS.ForMost
import HandS.ForExc
import HandS.ExcInit
import HandS.ExcField
import HandS.ExcIs
import HandS.TryMany
import KE.KExcInit
import HandS.Defaults
import HandS.Lambda
import HandS.EndTab
import HandS.HeadWalk
import PyProof.ReprRoads
import PyProof.CallFns
import HandS.Property
import HandS.ClsMeth
import HandS.Head0
import HandS.Head1
import HandS.Head2
import HandS.HeadEnd
import HandS.HeadHook1
import HandS.HeadHook2
import HandS.HeadHook3
import HandS.HeadHook4
import HandS.IsInst
import KE.KExcIs
import HandS.Exc
import HandS.SortKw
import HandS.More
import KE.SortKeyHeap
import HandS.DictComp
import HandS.Walk
import HandS.CallSlots
import HandS.MakeKwOnly
import PyProof.ListRange
import HandS.WordsExc
import PyProof.InstSpecial
import HandS.Words
import HandS.Deep
import HandS.Flow
import HandS.SortInts
import HandS.Style
import HandS.Iter
import HandS.Dict
import HandS.SetFor
import HandS.TryOnly
import HandS.Small
import HandS.MakeKw
import HandS.NoneIn
import HandS.Conv
import PySem.Challenge.RW_waitnumbers_k02_copies_onto_numbers
set_option Elab.async false
set_option linter.all false
set_option maxRecDepth 100000
set_option maxHeartbeats 0
/-! the defs of the law that make lambdas -/
namespace Wn
open PySem
def lamL : List Str := ["law"]
/-- how many registrations a set may have -/
abbrev mostE : Nat := 0
end Wn
/-! errors of one's own over any built-in base, with fields that __init__ stores -/
namespace Wn
open PySem PySem.Spec PyProof.Rows L2
open Builtin Builtin.ObjectAttr

/-- what the written part says of an own error class over the built-in B -/
structure XC (K : PySem.W.Frag) (C : Addr) (B nw it : String) (bm : List Value) : Prop where
  bf : ExcBaseFacts B nw it bm
  sf : StoreFacts B bm "object.__setattr__" "object"
  ini : PySem.W.excInitIn K C bm nw = true
  ovr : PySem.W.excOver K C bm = true
  hdi : PySem.W.hasDictIn K C = true
  sa : PySem.W.findIn K (.ref C) "__setattr__" = some (some (.builtin "object.__setattr__"))
  exC : PySem.W.subIn K (.ref C) (.type "BaseException") = some true
  tyC : PySem.W.typeIn K (.ref C) = some (.type "type")
  kC : PySem.W.keepIn K (.ref C) = true

theorem taker0 {K : PySem.W.Frag} {C : Addr} {f : Str} (h : PySem.W.findIn K (.ref C) f = some none) : PySem.W.takerIn K C f = some none := by
  unfold PySem.W.takerIn
  rw [h]
  rfl
theorem hasD {K : PySem.W.Frag} {C : Addr} (h : PySem.W.hasDictIn K C = true) : ∃ cd, PySem.W.clsIn K C = some cd ∧ cd.hasDict = true := by
  unfold PySem.W.hasDictIn at h
  cases e : PySem.W.clsIn K C with
  | none =>
    rw [e] at h
    cases h
  | some cd =>
    rw [e] at h
    exact ⟨cd, rfl, h⟩

section
variable {prog : Program} {w : World} {A : Around} {R : Result → Shared → Prop} {hp : Heap} {g : Array GenState} {d : Drawn} {t : Nat} {os : OsState}
variable {K : PySem.W.Frag} {name : Str} {tk : Tok} {v : Value} {x C dx : Addr} {fv : Array Value} {B nw it : String} {bm : List Value}
/-- the first field: the dict is laid -/
theorem osa_first (T : XC K C B nw it bm) (X : K.In hp) (hx : hp.get? x = some { cls := .ref C, data := .fields fv }) (ha : PySem.W.findIn K (.ref C) name = some none)
    (hq : ∀ h' tk' dx, (∀ b o, b ≠ x → hp.get? b = some o → h'.get? b = some o) → hp.objs.size ≤ dx → dx ≠ x →
      h'.get? x = some { cls := .ref C, dict := some dx, data := .fields fv } → h'.Ns1 dx (fun y => if y = name then some v else none) →
      R (.ok (.ret .none)) ⟨h', g, d, tk', os⟩) :
    codeAny (model prog w) A (.call (.builtin "object.__setattr__") ⟨[.ref x, .str name tk, v], []⟩) R ⟨hp, g, d, t, os⟩ := by
  obtain ⟨cd, hcd, hh⟩ := hasD T.hdi
  have hcls : PySem.W.Looks (model prog w) hp (classData C) cd := PySem.W.looks_clsIn X hcd
  have hxs : x ≠ hp.objs.size := Nat.ne_of_lt (Heap.lt_size hx)
  refine PySem.W.osa_openX T.sf X (ox := { cls := .ref C, data := .fields fv }) (od := none) ⟨hx, rfl, rfl, trivial⟩ T.ovr (taker0 ha) fun b => ?_
  show wpAny _ _ (storeInOwnDict (.ref x) (.ref C) (.str name tk) name v b) _ _ _
  obtain ⟨nm, bs, mro, ns, qn, hd, sn, sb, ab, col, de⟩ := cd
  dsimp only at hh
  subst hh
  unfold storeInOwnDict ownDictForStores
  repeat (first | with_reducible refine PySem.HandSPX.store_in_new ?_ ?_ | with_reducible refine wpAny_loadPart_at hx ?_ | with_reducible refine hcls.at ?_ | wp_step)
  · exact ⟨_, #[], _, (Heap.get?_update_ne _ _ _ _ hxs.symm).trans (Heap.get?_push_at rfl rfl), rfl, fun e he => absurd he (by simp), fun _ => rfl⟩
  · intro h' tk' hn' hs
    have hx1 : (hp.push { cls := .type "dict", data := .dict #[] }).get? x = some { cls := .ref C, data := .fields fv } := Heap.get?_push_of_some _ hx
    refine hq h' tk' hp.objs.size (fun b o hb ho => ?_) (Nat.le_refl _) hxs.symm ?_ hn'
    · exact (hs.2 b (Nat.ne_of_lt (Heap.lt_size ho))).trans ((Heap.get?_update_ne _ _ _ _ hb).trans (Heap.get?_push_of_some _ ho))
    · exact (hs.2 x hxs).trans (Heap.get?_update_self _ hx1 rfl)
/-- a further field -/
theorem osa_more {m0 : Str → Option Value} {nl : List Str} (T : XC K C B nw it bm) (X : K.In hp) (hx : hp.get? x = some { cls := .ref C, dict := some dx, data := .fields fv }) (hns : hp.Ns1 dx m0) (hw : Within m0 nl) (hz : nl.length ≤ 1000)
    (ha : PySem.W.findIn K (.ref C) name = some none)
    (hq : ∀ h' tk', (∀ b o, b ≠ dx → hp.get? b = some o → h'.get? b = some o) → h'.Ns1 dx (fun y => if y = name then some v else m0 y) → R (.ok (.ret .none)) ⟨h', g, d, tk', os⟩) :
    codeAny (model prog w) A (.call (.builtin "object.__setattr__") ⟨[.ref x, .str name tk, v], []⟩) R ⟨hp, g, d, t, os⟩ := by
  obtain ⟨cd, hcd, hh⟩ := hasD T.hdi
  obtain ⟨oD, _, _, hoD, _, _⟩ := hns.count hw
  have hcls : PySem.W.Looks (model prog w) hp (classData C) cd := PySem.W.looks_clsIn X hcd
  refine PySem.W.osa_openX T.sf X (ox := { cls := .ref C, dict := some dx, data := .fields fv }) (od := some oD) ⟨hx, rfl, rfl, hoD⟩ T.ovr (taker0 ha) fun b => ?_
  show wpAny _ _ (storeInOwnDict (.ref x) (.ref C) (.str name tk) name v b) _ _ _
  obtain ⟨nm, bs, mro, ns, qn, hd, sn, sb, ab, col, de⟩ := cd
  dsimp only at hh
  subst hh
  unfold storeInOwnDict ownDictForStores
  repeat (first | with_reducible refine PySem.OEX.store_in_old hns hw hz ?_ | with_reducible refine wpAny_loadPart_at hx ?_ | with_reducible refine hcls.at ?_ | wp_step)
  intro h' tk' hn' hs
  exact hq h' tk' (fun b o hb ho => (hs.2 b hb).trans ho) hn'
end

section
variable {X : Cx} {pins : List (Addr × Obj)} {σ : L2.St} {H : Hp} {s : Shared} {a C dx : Addr} {f : Str} {y : V} {u : Value} {fs : List (Str × V)} {Q : Unit → Shared → Prop} {E : Value → Shared → Prop} {A : Around} {B nw it : String} {bm : List Value}
/-- self.f = y in __init__, the first one -/
theorem xs_first (T : XC X.K C B nw it bm) (I : Inv X pins σ H s) (e : H a = some (exo a C none)) (hno : PySem.W.findIn X.K (.ref C) f = some none) (ry : RelV y u)
    (h : ∀ dx s', H dx = none → dx ≠ a → Inv X pins σ (upd (upd H dx (exd dx [(f, y)])) a (exo a C (some dx))) s' → Q () s') : wpAny (model X.prog X.w) A (setAttr (.ref a) f u) Q E s := by
  obtain ⟨t1, ho⟩ := exo_at I.hok e
  obtain ⟨hp, g, d, t, os⟩ := s
  refine PySem.W.set_plain I.kIn (ox := { cls := .ref C, dict := none, data := .fields #[.ref t1, .none, .none, .none, .bool false, .none] }) (od := none) ⟨ho, rfl, rfl, trivial⟩ T.sa ?_
  refine osa_first T I.kIn ho hno (fun h' tk' dx k dn dne hx hn => ?_)
  have hnd : H dx = none := I.hok.fresh dn
  have nd : ∀ {b : Addr} {o : Obj}, hp.get? b = some o → b ≠ dx := fun {b o} q => Nat.ne_of_lt (Nat.lt_of_lt_of_le (Heap.lt_size q) dn)
  have na : ∀ {b : Addr}, H b = none → b ≠ a := fun {b} n z => by rw [z, e] at n; cases n
  have kt : ∀ {b : Addr} {o : HO}, H b = some o → (∀ z, o ≠ exo a C z) → upd (upd H dx (exd dx [(f, y)])) a (exo a C (some dx)) b = some o := fun {b o} q ne => by
    have hb : b ≠ a := fun z => by rw [z, e] at q; exact ne _ (Option.some.inj q).symm
    rw [upd_ne hb, upd_ne (ne_of_none q hnd)]
    exact q
  have U : Un X.fs [] H (upd (upd H dx (exd dx [(f, y)])) a (exo a C (some dx))) hp h' := ⟨fun b o q n _ _ => k b o (na n) q, fun b o q n _ _ => ⟨o.slots, k b o (na n) q⟩,
    fun b o q n _ => by rw [upd_ne (na n), upd_ne (nd q)]; exact n,
    fun b o q _ => by
      by_cases hb : b = a
      · exact ⟨_, by rw [hb]; exact hx⟩
      · exact ⟨o, k b o hb q⟩,
    fun b xs q => kt q fun z => (exo_tup (e := a) (C := C) (d := z)).symm, fun b o v q => kt q fun z => (exo_frz (e := a) (C := C) (d := z)).symm,
    fun b ps q => ⟨#[], by rw [kt q fun z => (exo_tbl (e := a) (C := C) (d := z)).symm]; simp⟩⟩
  refine h dx _ hnd dne (I.un (t' := tk') U fun b o q => ?_)
  by_cases hb : b = a
  · subst hb
    rw [upd_same] at q
    cases q
    exact exo_ok hx
  · rw [upd_ne hb] at q
    by_cases hd : b = dx
    · subst hd
      rw [upd_same] at q
      cases q
      exact exd_ok hn (relO_put (fs := []) ry fun g => True.intro)
    · rw [upd_ne hd] at q
      refine (I.hok b o q).stay (fun c v hc z => k c v ?_ z) (fun c hc => kt hc fun z => (exo_own (e := a) (C := C) (d := z)).symm) (fun c xs hc => kt hc fun z => (exo_tup (e := a) (C := C) (d := z)).symm)
      rcases hc with hc | hc
      · rw [hc]
        exact hb
      · exact at_ne e hc exo_own
/-- self.f = y in __init__, a further one -/
theorem xs_more (T : XC X.K C B nw it bm) (I : Inv X pins σ H s) (e : H a = some (exo a C (some dx))) (ed : H dx = some (exd dx fs)) (hl : fs.length ≤ 900) (hno : PySem.W.findIn X.K (.ref C) f = some none) (ry : RelV y u)
    (h : ∀ s', Inv X pins σ (upd H dx (exd dx ((f, y) :: fs))) s' → Q () s') : wpAny (model X.prog X.w) A (setAttr (.ref a) f u) Q E s := by
  obtain ⟨t1, ho⟩ := exo_at I.hok e
  obtain ⟨mA, hns, rel⟩ := exd_at I.hok ed
  have hw := within_of rel
  obtain ⟨hp, g, d, t, os⟩ := s
  obtain ⟨oD, _, _, hoD, _, _⟩ := hns.count hw
  refine PySem.W.set_plain I.kIn (ox := { cls := .ref C, dict := some dx, data := .fields #[.ref t1, .none, .none, .none, .bool false, .none] }) (od := some oD) ⟨ho, rfl, rfl, hoD⟩ T.sa ?_
  refine osa_more T I.kIn ho hns hw (by rw [List.length_map]; omega) hno (fun h' tk' k hn => ?_)
  obtain ⟨oN, _, _, eN, _⟩ := id hn
  exact h _ (I.write (t' := tk') (x := dx) (e := dx) (o := exd dx ((f, y) :: fs)) (by rw [ed]; exact True.intro) (.inl rfl) k ⟨oN, eN⟩ (exd_ok hn (relO_put ry rel)))
end

/-- self.f = e of an error that is being made -/
def tXs (K : PySem.W.Frag) (f : Str) (to te : TE) : TS := fun D σ H => te σ H fun y H1 => to σ H1 fun x H2 => ∃ (a C : Addr) (B nw it : String) (bm : List Value), x = .ref a ∧ XC K C B nw it bm ∧ PySem.W.findIn K (.ref C) f = some none ∧
  ((H2 a = some (exo a C none) ∧ ∀ dx, H2 dx = none → dx ≠ a → D.nx σ (upd (upd H2 dx (exd dx [(f, y)])) a (exo a C (some dx)))) ∨
    ∃ (dx : Addr) (fs : List (Str × V)), H2 a = some (exo a C (some dx)) ∧ H2 dx = some (exd dx fs) ∧ fs.length ≤ 900 ∧ D.nx σ (upd H2 dx (exd dx ((f, y) :: fs))))
section
variable {X : Cx} {o e : Expr} {es : List Expr} {to te : TE} {ta : TA} {f : Str} {p p' p1 p2 pos : Pos}
theorem ps_xs (ho : PE X o to) (he : PE X e te) (hs : swapsWith e (some (.Attribute o f p')) pos.line X.env = pure false := by rfl) : PS X (.Assign [.Attribute o f p'] e pos) (tXs X.K f to te) := by
  refine ⟨fun pins s σ H D I h => ?_⟩
  refine plainObj_wpAny_Assign_Attribute (thn (he.run pins s σ H _ I h) fun v s1 ⟨y, H1, I1, r1, q1⟩ => thn (ho.run pins s1 σ H1 _ I1 q1) fun u s2 ⟨x, H2, I2, r2, a, C, B, nw, it, bm, ex, T, hno, q⟩ => ?_) hs
  subst ex
  obtain rfl : u = Value.ref a := r2
  rcases q with ⟨ea, q⟩ | ⟨dx, fs, ea, ed, hl, q⟩
  · exact xs_first T I2 ea hno r1 fun dx s' n ne J => ⟨σ, _, J, q dx n ne⟩
  · exact xs_more T I2 ea ed hl hno r1 fun s' J => ⟨σ, _, J, q⟩
variable {CX : CXT} {x : Str} {C fI : Addr} {k : Nat} {fd : FuncData} {ps : List Str} {sp : Sp} {B nw it : String} {bm : List Value}
theorem xm_run (T : XC X.K C B nw it bm) (iC : PySem.W.findIn X.K (.ref C) "__init__" = some (some (.ref fI))) (tI : PySem.W.typeIn X.K (.ref fI) = some (.type "function"))
    (F1 : FnOk X.prog X.w X.K X.mg X.base CX k fI fd ps sp) (hr : Room (k + 1) X.A) (hb : Binds X.K fd ps []) (hx : Passes CX X (fun _ _ _ => False)) {pins : List (Addr × Obj)} {σ : L2.St} {H1 : Hp} {s1 : Shared} {us : List Value} {vs : List V} {Q : XK}
    (I1 : Inv X pins σ H1 s1) (r1 : Vals vs us) (hz : vs.length ≤ 1000)
    (q1 : ∀ a, H1 a = none → sp (.ref a :: vs) (upd H1 a (exo a C none)) (fun v H2 => v = .non ∧ ∃ (d : Addr) (fs : List (Str × V)), H2 a = some (exo a C (some d)) ∧ H2 d = some (exd d fs) ∧ H1 d = none ∧ Q (.ref C) (some d) (upd (del H2 a) d (.xd fs))) (fun _ _ _ => False)) :
    wpAny (model X.prog X.w) X.A (call (.ref C) us) (MkP X pins σ Q) X.xe s1 := by
  obtain ⟨hp, g, dr, tk, os⟩ := s1
  obtain ⟨nm, N, q, bs, bl, hdct, sn, sub, ab, col, dd, k0, k1, k2, k3, k5, hC, hT⟩ := PySem.W.excInit_of I1.kIn T.ini
  have hsz : hp.objs.size ≤ hp.objs.size + 1 := Nat.le_succ _
  have hn : H1 (hp.objs.size + 1) = none := I1.hok.fresh hsz
  have hq := q1 (hp.objs.size + 1) hn
  have kk : ∀ b o, hp.get? b = some o → ((hp.push (PySem.W.kdv_tup us)).push (PySem.HandSPX.excO C hp.objs.size)).get? b = some o := fun b o e => Heap.get?_push_of_some _ (Heap.get?_push_of_some _ e)
  have hget : ((hp.push (PySem.W.kdv_tup us)).push (PySem.HandSPX.excO C hp.objs.size)).get? (hp.objs.size + 1) = some (PySem.HandSPX.excO C hp.objs.size) := by heap_get
  have I2 := I1.laid (t' := tk) (a := hp.objs.size + 1) (o := exo (hp.objs.size + 1) C none) kk hsz (exo_ok hget)
  have r2 : Vals (V.ref (hp.objs.size + 1) :: vs) (Value.ref (hp.objs.size + 1) :: us) := .cons rfl r1
  have hl : (Value.ref (hp.objs.size + 1) :: us).length = ps.length := by
    have e := r2.length
    rw [F1.len _ _ _ _ hq] at e
    exact e.symm
  have hus : us.length ≤ sizeLine := by
    rw [← Paired.length r1, sizeLine_eq]
    omega
  have bnd := hb ⟨(hp.push (PySem.W.kdv_tup us)).push (PySem.HandSPX.excO C hp.objs.size), g, dr, tk, os⟩ (Value.ref (hp.objs.size + 1) :: us) I2.kIn (by rw [List.append_nil]; exact hl)
  rw [List.append_nil] at bnd
  refine wpAny_call (PySem.HandSPX.call_own T.bf hT hC (PySem.W.looks_findIn I1.kIn iC) (fun self => PySem.W.bind_fn I1.kIn self tI) hus
    (codeAny_mono (F1.run _ X.stack _ _ ⟨Value.ref (hp.objs.size + 1) :: us, []⟩ _ _ _ (fun _ _ _ => False) (hr.make C us []) (I2.env0.make C us []) bnd r2 hq) fun r s' hq' => ?_))
  cases r with
  | error er => exact hx pins σ _ _ er s' I2 hq'
  | ok fl =>
    cases fl with
    | ret u =>
      obtain ⟨v, H2, os2, bare2, un2, hok2, rv, ev, d, fs, ea, ed, hd1, q2⟩ := hq'
      subst ev
      obtain ⟨h2, g2, d2, t2, os'⟩ := s'
      exact ⟨rv, mk_end (raises_own T.exC T.tyC) I1 hsz kk un2 hok2 os2 bare2 ea ed hd1 q2⟩
    | next => exact False.elim hq'
    | brk => exact False.elim hq'
    | cont => exact False.elim hq'
end
end Wn
/-! repr of data, defs that are called where no repr runs, the law's end for such a def -/
namespace Wn
open PySem PySem.Spec PyProof.Rows L2 LamX

/-! ### repr -/
def rRepr (K : PySem.W.Frag) : List V → Hp → VK → Prop := fun xs H Q => ∃ (x : V) (d : PyData), xs = [x] ∧ Dp K H x d ∧ d.showable = true ∧ d.hasDict = false ∧ d.depth ≤ 100 ∧ d.shown.length ≤ sizeLine ∧ Q (.str d.shown) H
theorem call_repr {X : Cx} (hg : X.A.guards = some []) (hu : X.A.units + 200 < cLine) : CallR X (.builtin "repr") (rRepr X.K) := by
  intro pins s σ H xs us Q I r h
  obtain ⟨x, d, rfl, hd, hs, hh, hdep, hz, q⟩ := h
  obtain ⟨u, rfl, ru⟩ := vals1 r
  obtain ⟨as, hr⟩ := Dp.reads I d x u hd ru
  cases hd with
  | non =>
    cases ru
    exact PySem.P.repr_of_none ⟨.str _, H, I.tok _, ⟨_, rfl⟩, q⟩
  | bl b =>
    cases ru
    have q' : Q (.str (if b then "True" else "False")) H := by cases b <;> exact q
    exact PySem.P.repr_of_bool ⟨.str _, H, I.tok _, ⟨_, rfl⟩, q'⟩
  | int i =>
    obtain ⟨t, rfl⟩ := ru
    exact PySem.P.repr_of_int (of_decide_eq_true hs) ⟨.str _, H, I.tok _, ⟨_, rfl⟩, q⟩
  | str z =>
    obtain ⟨t, rfl⟩ := ru
    exact PySem.P.repr_of_str ⟨.str _, H, I.tok _, ⟨_, rfl⟩, q⟩ hz
  | lst _ _ =>
    cases ru
    exact repr_of_reads' hr hs (PyData.noDict_hsm hh) hg (by omega) (fun _ _ e => e) (fun h' v tk k => ⟨.str _, H, I.kept k, ⟨_, rfl⟩, q⟩) hz
  | tup _ _ =>
    cases ru
    exact repr_of_reads' hr hs (PyData.noDict_hsm hh) hg (by omega) (fun _ _ e => e) (fun h' v tk k => ⟨.str _, H, I.kept k, ⟨_, rfl⟩, q⟩) hz

/-! ### a def that is called where no repr runs -/
structure FnG (P : Program) (w : World) (K : PySem.W.Frag) (mg : Str → Option Value) (base : Heap) (CX : CXT) (k : Nat) (f : Addr) (fd : FuncData) (ps : List Str) (sp : Sp) : Prop where
  len : ∀ vs H Q E, sp vs H Q E → vs.length = ps.length
  run : ∀ (A : Around) (outer : List Env) (s : Shared) (H : Hp) (args : Args) (us : List Value) (vs : List V) (Q : VK) (E : XK), A.guards = some [] → Room k A → Env0 P w K mg base A outer s H →
    BindsTo s fd args (ps.zip us) → Vals vs us → sp vs H Q E → codeAny (model P w) A (.call (.ref f) args) (CR CX outer P w H s Q E) s
theorem FnG.of {P : Program} {w : World} {K : PySem.W.Frag} {mg : Str → Option Value} {base : Heap} {CX : CXT} {k : Nat} {f : Addr} {fd : FuncData} {ps : List Str} {sp : Sp} (F : FnOk P w K mg base CX k f fd ps sp) : FnG P w K mg base CX k f fd ps sp :=
  ⟨F.len, fun A outer s H args us vs Q E _ => F.run A outer s H args us vs Q E⟩
section
variable {P : Program} {w : World} {K : PySem.W.Frag} {mg : Str → Option Value} {base : Heap} {x qual : Str} {params : Arguments} {body : List Stmt} {scope : Scope} {dvs : List V} {kws : List (Str × V)} {f : Addr} {fd : FuncData}
theorem okG {CX : CXT} {N ps : List Str} {k : Nat} {sp : Sp} (F : FunD K x qual params body scope dvs kws f fd) (S : FnScope N ps scope) (len : ∀ vs H Q E, sp vs H Q E → vs.length = ps.length)
    (hbody : ∀ (cdv : Value) (A : Around) (outer : List Env) (s : Shared) (H : Hp) (vs : List V) (Q : VK) (E : XK), A.guards = some [] → Room k (A.deeper (envOfC qual scope s.heap.objs.size f cdv)) → sp vs H Q E →
      ∃ t, PSs (cxOf CX P w K mg base N qual scope f cdv A outer s H E) body t ∧ t { nx := fun _ H' => Q .non H', rt := Q } (L2.start N vs) H) : FnG P w K mg base CX (k + 1) f fd ps sp := by
  obtain ⟨oc, od, dV, kV, doc, pm, an, cdv, ct, osl, rfl, lk, hcd, _, _⟩ := F.ex
  refine ⟨len, fun A outer s H args us vs Q E hg hr e0 hb r hsp => ?_⟩
  exact run_ofS lk hcd S hr e0 hb r (len _ _ _ _ hsp) fun hr' => hbody cdv A outer s H vs Q E hg hr' hsp
end
section
variable {X : Cx} {CX : CXT} {k : Nat} {f C : Addr} {fd : FuncData} {ps : List Str} {sp : Sp} {dvs : List V} {ds : List Value} {E : XK} {x m : Str} {p pos apos : Pos} {e o : Expr} {es : List Expr} {ta : TE} {t : TA}
theorem run_g {pins : List (Addr × Obj)} {σ : L2.St} {H : Hp} {s : Shared} {Q : VK} {us : List Value} {vs : List V} (F : FnG X.prog X.w X.K X.mg X.base CX k f fd ps sp) (hgd : X.A.guards = some []) (hr : Room k X.A) (hb : Binds X.K fd ps ds) (hd : Vals dvs ds) (hx : Passes CX X E)
    (I : Inv X pins σ H s) (r : Vals vs us) (h : sp (vs ++ dvs) H Q E) : wpAny (model X.prog X.w) X.A (call (.ref f) us) (EP X pins σ Q) X.xe s := by
  have r2 : Vals (vs ++ dvs) (us ++ ds) := r.append hd
  have hl : (us ++ ds).length = ps.length := r2.length.symm.trans (F.len _ _ _ _ h)
  refine wpAny_call (codeAny_mono (F.run X.A X.stack s H ⟨us, []⟩ _ _ Q E hgd hr I.env0 (hb s us I.kIn hl) r2 h) fun r s' hq => ?_)
  cases r with
  | error z => exact hx pins σ H s z s' I hq
  | ok fl =>
    cases fl with
    | ret u => exact I.after hq
    | next => exact False.elim hq
    | brk => exact False.elim hq
    | cont => exact False.elim hq
/-- f(e, ..) of such a def -/
theorem pe_callG (F : FnG X.prog X.w X.K X.mg X.base CX k f fd ps sp) (hgd : X.A.guards = some []) (hr : Room k X.A) (hg : Gl X x) (hm : X.mg x = some (.ref f)) (hk : PySem.W.keepIn X.K (.ref f) = true) (hb : Binds X.K fd ps ds) (hd : Vals dvs ds) (hx : Passes CX X E)
    (ha : PA X (e :: es) t) (hdb : (x == ("__debug__" : Str)) = false := by decide) (he : starEach (e :: es) X.env = (false, eval e X.env) :: starEach es X.env := by rfl) (hpl : (backTo pos (starEach es X.env)).any (·.1) = false := by rfl) :
    PE X (.Call (.Name x p) (e :: es) [] pos) (tCall sp dvs E t) := by
  refine ⟨fun pins s σ H Q I h => wpAny_Call_Name_kw (ld_glob I hg hm ?_ hdb)⟩
  exact PySem.W.callWith_K (h₀ := X.base) I.ok.mod.kin hk (thn (ha.run pos pins s σ H _ I h) fun us s1 ⟨vs, H1, I1, r, q⟩ => ⟨I1.kIn, run_g F hgd hr hb hd hx I1 r q⟩) he hpl
end

/-! ### the law's end -/
section
variable {P : Program} {w : World} {K : PySem.W.Frag} {mg mb : Str → Option Value} {CX : CXT} {k : Nat} {fa a : Addr} {cs : List (Addr × Addr)} {fd : FuncData} {x : Str} {sp : Sp} {s1 : Shared} {vs : List Value} {ns : List Int}
/-- what is tracked at the law's entry: the tables, the script -/
def Ent (cs : List (Addr × Addr)) (a : Addr) (o : Obj) (ns : List Int) (H : Hp) : Prop :=
  ∀ b u, H b = some u → (b ∈ cs.map (·.2) ∧ u = .tbl #[]) ∨ (b = a ∧ u = .frz o (.lst (ns.map V.int)))
theorem law_core {H : Hp} (KX : K.In s1.heap) (hns : s1.heap.Ns mainGlobals mg) (hb : s1.heap.Ns builtinsNs mb) (hbb : ∀ x : Str, x ≠ "__name__" → mb x = bootBuiltins x) (hlim : s1.heap.NoLimit) (hg : s1.gens = #[])
    (hT : ∀ p ∈ cs, s1.heap.get? p.2 = some { cls := .none, data := .fields #[] }) (nT : ∀ p ∈ cs, K.lookup p.2 = none) (C : ∀ p ∈ cs, PySem.W.CodeHd s1.heap p.1 p.2)
    (hbm : ∃ (bm : Addr) (ob : Obj), mg "__builtins__" = some (.ref bm) ∧ bm ≠ builtinsNs ∧ s1.heap.get? bm = some ob ∧ ob.cls = .type "module" ∧ ob.dict = some builtinsNs ∧ ob.data = .plain)
    (ha : s1.heap.get? a = some { cls := .type "list", data := .seq vs.toArray }) (rv : Vals (ns.map V.int) vs) (hl : ns.length ≤ sizeLine) (hr : Room k callerA)
    (F : ∀ base : Heap, K.In base → base.Ns mainGlobals mg → (∀ p ∈ cs, TabB base mg p.1 p.2) → FnG P w K mg base CX k fa fd [x] sp) (hbind : ∀ (s : Shared) (u : Value), BindsTo s fd ⟨[u], []⟩ [(x, u)])
    (hH : ∀ p ∈ cs, H p.2 = some (.tbl #[])) (ent : Ent cs a { cls := .type "list", data := .seq vs.toArray } ns H) (hKa : H a ≠ none → K.lookup a = none)
    (hsp : sp [.ref a] H (fun v _ => v = .bl true) fun _ _ _ => False) (hCX : ∀ H e s', CX [] H s1 (fun _ _ _ => False) e s' → False) :
    codeAny (model P w) callerA (.call (.ref fa) ⟨[.ref a], []⟩) (fun r s' => r = .ok (.ret (.bool true)) ∧ OldK s1.heap s'.heap ∧ s'.os = s1.os ∧ AllBare s'.gens) s1 := by
  have tabAt : ∀ {b : Addr}, b ∈ cs.map (·.2) → s1.heap.get? b = some { cls := .none, data := .fields #[] } := fun {b} m => by
    obtain ⟨p, hp, rfl⟩ := List.mem_map.mp m
    exact hT p hp
  have hok : HOk P w H s1.heap := fun b u e => by
    rcases ent b u e with ⟨m, rfl⟩ | ⟨rfl, rfl⟩
    · exact tabAt m
    · exact ⟨ha, by rw [List.length_map]; exact hl, vs, _, rv, ha⟩
  -- what is neither a list nor an empty table is not tracked
  have unt : ∀ {b : Addr} {o : Obj}, s1.heap.get? b = some o → o.data ≠ .seq vs.toArray → o.data ≠ .fields #[] → H b = none := fun {b o} e n1 n2 => by
    cases q : H b with
    | none => rfl
    | some u =>
      rcases ent b u q with ⟨m, _⟩ | ⟨z, _⟩
      · rw [tabAt m] at e
        cases e
        exact (n2 rfl).elim
      · rw [z, ha] at e
        cases e
        exact (n1 rfl).elim
  have bs : ∀ {b : Addr} {o : Obj}, s1.heap.get? b = some o → o.data ≠ .seq vs.toArray → o.data ≠ .fields #[] → (hidT s1.heap H).get? b = some o := fun e n1 n2 => hidT_get e (unt e n1 n2)
  have nsB : ∀ {b : Addr} {m : Str → Option Value}, s1.heap.Ns b m → (hidT s1.heap H).Ns b m := fun {b m} ⟨o, es, ep, e, d, r⟩ => ⟨o, es, ep, bs e (by rw [d]; exact fun z => nomatch z) (by rw [d]; exact fun z => nomatch z), d, r⟩
  have hKb : K.In (hidT s1.heap H) := fun b o e => hidT_get (KX b o e) (by
    cases q : H b with
    | none => rfl
    | some u =>
      rcases ent b u q with ⟨m, _⟩ | ⟨z, _⟩
      · obtain ⟨p, hp, rfl⟩ := List.mem_map.mp m
        rw [nT p hp] at e
        cases e
      · subst z
        rw [hKa (by rw [q]; exact fun z => nomatch z)] at e
        cases e)
  have hM : L2.Mod K mg (hidT s1.heap H) := ⟨hKb, nsB hns, ⟨mb, nsB hb, hbb⟩, let ⟨mc, h1, h2⟩ := hlim; ⟨mc, nsB h1, h2⟩⟩
  have TB : ∀ p ∈ cs, TabB (hidT s1.heap H) mg p.1 p.2 := fun p hp => by
    refine ⟨?_, ?_, fun z => ?_⟩
    · obtain ⟨o, us, file, tf, flags, tg, inF, text, tt, e1, r1, r2, r3, rest⟩ := C p hp
      refine ⟨o, us, file, tf, flags, tg, inF, text, tt, bs e1 (by rw [r2]; exact fun z => nomatch z) (fun z => ?_), r1, r2, r3, rest⟩
      rw [r2] at z
      cases z
      simp at r3
    · obtain ⟨bm, ob, b1, b2, b3, b4, b5, b6⟩ := hbm
      refine ⟨bm, ob, b1, b2, fun q => ?_, fun q => ?_, bs b3 (by rw [b6]; exact fun z => nomatch z) (by rw [b6]; exact fun z => nomatch z), b4, b5, b6⟩
      · obtain ⟨o, es, ep, e, hd, _⟩ := hns
        rw [q, e] at b3
        cases b3
        rw [hd] at b6
        cases b6
      · rw [q, hT p hp] at b3
        cases b3
        cases b6
    · obtain ⟨o, es, ep, e, hd, _⟩ := hns
      rw [z, hT p hp] at e
      cases e
      cases hd
  have e0 : Env0 P w K mg (hidT s1.heap H) callerA [] s1 H := ⟨rfl, hM, fun b o e => of_hidT e, Nat.le_of_eq (hidT_size _ _), trivial, (fun b hb => absurd (show b ∈ ([] : List Addr) from hb) List.not_mem_nil), hok, .of_eq hg⟩
  refine codeAny_mono ((F _ hKb (nsB hns) TB).run callerA [] s1 H ⟨[.ref a], []⟩ [.ref a] [.ref a] _ _ rfl hr e0 (hbind s1 (.ref a)) (.cons rfl .nil) hsp) fun r s' h => ?_
  cases r with
  | error z => exact (hCX H z s' h).elim
  | ok fl =>
   cases fl with
   | next => exact False.elim h
   | brk => exact False.elim h
   | cont => exact False.elim h
   | ret u =>
    obtain ⟨v, H', os, bare, un, hok', r', q⟩ := h
    obtain rfl : v = .bl true := q
    obtain rfl : u = Value.bool true := r'
    have kept : ∀ b o, b ∉ cs.map (·.2) → s1.heap.get? b = some o → s'.heap.get? b = some o := fun b o nb e => by
      cases q : H b with
      | none => exact un.keep b o e q (fun z => absurd (show b ∈ ([] : List Addr) from z) List.not_mem_nil) List.not_mem_nil
      | some u =>
        rcases ent b u q with ⟨m, _⟩ | ⟨z, zu⟩
        · exact absurd m nb
        · subst zu
          have e1 := (hok b _ q).1
          have e2 := (hok' b _ (un.frzs b _ _ q)).1
          rw [e] at e1
          rw [e1]
          exact e2
    have tabN : ∀ b, b ∈ cs.map (·.2) → ∃ more : Array Value, s'.heap.get? b = some { cls := .none, data := .fields more } := fun b m => by
      obtain ⟨p, hp, rfl⟩ := List.mem_map.mp m
      obtain ⟨more, z⟩ := un.tbls p.2 #[] (hH p hp)
      exact ⟨_, hok' p.2 _ z⟩
    refine ⟨rfl, ⟨fun b o e => ?_, fun b o e => ?_⟩, os, bare⟩
    · by_cases m : b ∈ cs.map (·.2)
      · obtain ⟨more, hm⟩ := tabN b m
        obtain ⟨p, hp, rfl⟩ := List.mem_map.mp m
        rw [hT p hp] at e
        cases e
        exact .inr (.inl ⟨((C p hp).tab (hT p hp)).isCodeTable, rfl, #[], more, rfl, by rw [Array.empty_append]; exact hm⟩)
      · exact .inl (kept b o m e)
    · by_cases m : b ∈ cs.map (·.2)
      · obtain ⟨more, hm⟩ := tabN b m
        exact ⟨_, hm⟩
      · exact ⟨o, kept b o m e⟩
end
/-- what the law's def must keep, for the end below -/
def LawG (l : PySem.W.OpenLaw) (w : World) (K : PySem.W.Frag) (CX : CXT) (k n : Nat) (x : Str) (mg : Str → Option Value) (fa : Addr) (h : Heap) : Prop :=
  ∃ (fd : FuncData) (cs : List (Addr × Addr)) (sp : Sp), (∀ p ∈ cs, h.get? p.2 = some { cls := .none, data := .fields #[] }) ∧ (∀ p ∈ cs, K.lookup p.2 = none) ∧ (∀ p ∈ cs, PySem.W.CodeHd h p.1 p.2) ∧
    (∀ (s : Shared) (u : Value), BindsTo s fd ⟨[u], []⟩ [(x, u)]) ∧
    (∀ (H : Hp) (a : Addr) (ns : List Int), ns.length ≤ n → (∀ p ∈ cs, H p.2 = some (.tbl #[])) → SqL K H a (ns.map V.int) → sp [.ref a] H (fun v _ => v = .bl true) fun _ _ _ => False) ∧
    ∀ base : Heap, K.In base → base.Ns mainGlobals mg → (∀ p ∈ cs, TabB base mg p.1 p.2) → FnG l.prog w K mg base CX k fa fd [x] sp
theorem walk_g {l : PySem.W.OpenLaw} {n k : Nat} {q : Program} {loose : List Str} {XP : (Str → Option Value) → Heap → Prop} {YP : World → Heap → Prop} {d : DefRec} {CX : World → CXT} {x : Str}
    (hn : l.most = some n) (hn2 : n ≤ sizeLine) (hdf : d.params.defaults = []) (hr : Room k callerA)
    (F : ∀ (w : World) (mg : Str → Option Value) (fa : Addr) (h : Heap), YP w h → h.Ns mainGlobals mg → mg d.name = some (.ref fa) → ∃ K : PySem.W.Frag, K.In h ∧ LawG l w K (CX w) k n x mg fa h)
    (hCX : ∀ (w : World) (H : Hp) (s : Shared) (e : Value) (s' : Shared), CX w [] H s (fun _ _ _ => False) e s' → False) :
    PySem.W.WalkO q loose XP YP l.row.toRowW d [] (fun f vs => PySem.call f vs) := by
  refine Att.attach_callB hn hdf fun w s0 s1 mg mb fa o pm cd doc a vs ns G Y ho hd hcd hmg hobj hints hlen hbits hg => ?_
  obtain ⟨K, KX, fd, cs, sp, hT, nT, C, hb, hsp, hF⟩ := F w mg fa _ Y G.T.g hmg
  have rv := vals_ints hints
  have hl : ns.length ≤ sizeLine := Nat.le_trans hlen hn2
  have nm : ∀ {b : Addr}, b ∈ cs.map (·.2) → b ≠ a := fun {b} m z => by
    obtain ⟨p, hp, rfl⟩ := List.mem_map.mp m
    have e := hT p hp
    rw [z, hobj] at e
    cases e
  cases hk : K.lookup a with
  | some o =>
    have e := KX a o hk
    rw [hobj] at e
    cases e
    let HA : Hp := fun b => if b ∈ cs.map (·.2) then some (.tbl #[]) else none
    have hH : ∀ p ∈ cs, HA p.2 = some (.tbl #[]) := fun p hp => if_pos (List.mem_map.mpr ⟨p, hp, rfl⟩)
    refine law_core (H := HA) KX G.T.g G.T.b G.T.builtins G.T.nolimit hg hT nT C G.T.bmain hobj rv hl hr hF hb hH (fun b u z => ?_) (fun z => absurd (if_neg fun m => nm m rfl) z) (hsp HA a ns hlen hH (.inr ⟨_, vs.toArray, _, hk, rfl, rfl, rfl, by rw [List.size_toArray, hints.length]; exact hl, by simpa using rv⟩)) fun H e s' => hCX w H s1 e s'
    by_cases m : b ∈ cs.map (·.2)
    · exact .inl ⟨m, (Option.some.inj ((if_pos m).symm.trans z)).symm⟩
    · cases (if_neg m).symm.trans z
  | none =>
    let HB : Hp := fun b => if b = a then some (.frz { cls := .type "list", data := .seq vs.toArray } (.lst (ns.map V.int))) else if b ∈ cs.map (·.2) then some (.tbl #[]) else none
    have hH : ∀ p ∈ cs, HB p.2 = some (.tbl #[]) := fun p hp =>
      (if_neg (nm (List.mem_map.mpr ⟨p, hp, rfl⟩))).trans (if_pos (List.mem_map.mpr ⟨p, hp, rfl⟩))
    refine law_core (H := HB) KX G.T.g G.T.b G.T.builtins G.T.nolimit hg hT nT C G.T.bmain hobj rv hl hr hF hb hH (fun b u z => ?_) (fun _ => hk) (hsp HB a ns hlen hH (.inl (.inr ⟨{ cls := .type "list", data := .seq vs.toArray }, if_pos rfl⟩))) fun H e s' => hCX w H s1 e s'
    by_cases e : b = a
    · exact .inr ⟨e, (Option.some.inj ((if_pos e).symm.trans z)).symm⟩
    · have z2 := (if_neg e).symm.trans z
      by_cases m : b ∈ cs.map (·.2)
      · exact .inl ⟨m, (Option.some.inj ((if_pos m).symm.trans z2)).symm⟩
      · cases (if_neg m).symm.trans z2
end Wn
/-! the head's facts, by a Hook of one's own -/
namespace Wn
open PySem PySem.Spec PyProof.Rows L2 LamX He

/-! ### defs wherever they stand -/
def fnO (K : PySem.W.Frag) (a : Addr) : FnW := match K.lookup a with
  | some ⟨_, _, .func fd, _⟩ => some (fd.name, fd.qualname, fd.params, fd.body, fd.scope, fd.globals, fd.closure, fd.builtins)
  | _ => none
/-- one def, by a function that finds it -/
structure DefW where
  find : PySem.W.Frag → Addr
  name : Str
  qual : Str
  st : Stmt
  dfl : List Dv := []
  kwd : List (Str × Dv) := []
def DefW.val (d : DefW) : FnW := some (d.name, d.qual, defArgs d.st, .stmts (defBody d.st), defScope d.st, mainGlobals, [], builtinsNs)
def DefW.dvs (K : PySem.W.Frag) (d : DefW) : List V := d.dfl.map (Dv.v K)
def DefW.kws (K : PySem.W.Frag) (d : DefW) : List (Str × V) := d.kwd.map fun q => (q.1, q.2.v K)
def DefW.ok (K : PySem.W.Frag) (d : DefW) : Bool := PySem.W.keepIn K (.ref (d.find K)) && (match K.lookup (d.find K) with
  | some ⟨_, _, .func fd, _⟩ => PySem.W.codeIn K fd.code d.qual && (dflB K fd.defaults (d.dvs K) && kwdB K fd.kwdefaults (d.kws K))
  | _ => false)
/-- the function object at an address -/
def fdAt (K : PySem.W.Frag) (a : Addr) : FuncData := match K.lookup a with
  | some ⟨_, _, .func fd, _⟩ => fd
  | _ => PySem.W.fnOf "" "" ⟨[], [], none, [], [], none, []⟩ [] ⟨.function, [], false, false, []⟩ .none .none .none .none none .none .none
/-- the def of the statement st stands at a -/
abbrev FD (K : PySem.W.Frag) (x qual : Str) (st : Stmt) (dvs : List V) (kws : List (Str × V)) (a : Addr) : Prop := FunD K x qual (defArgs st) (defBody st) (defScope st) dvs kws a (fdAt K a)
theorem DefW.fd {K : PySem.W.Frag} {d : DefW} (e : fnO K (d.find K) = d.val) (c : d.ok K = true) : FD K d.name d.qual d.st (d.dvs K) (d.kws K) (d.find K) := by
  obtain ⟨kp, c2⟩ := ba c
  unfold fnO at e
  unfold FD fdAt
  cases q : K.lookup (d.find K) with
  | none =>
    rw [q] at c2
    cases c2
  | some o =>
    obtain ⟨oc, od, dt, osl⟩ := o
    rw [q] at c2 e
    cases dt with
    | func fd =>
      obtain ⟨n1, n2, n3, n4, n5, n6, n7, n8, n9, n10, n11, n12, n13, n14, n15⟩ := fd
      have e2 : (some (n1, n2, n3, n4, n5, n6, n7, n15) : FnW) = some (d.name, d.qual, defArgs d.st, .stmts (defBody d.st), defScope d.st, mainGlobals, [], builtinsNs) := e
      simp only [Option.some.injEq, Prod.mk.injEq] at e2
      obtain ⟨h1, h2, h3, h4, h5, h6, h7, h8⟩ := e2
      subst h1 h2 h3 h4 h5 h6 h7 h8
      obtain ⟨k1, k2⟩ := ba (show (PySem.W.codeIn K n13 d.qual && (dflB K n8 (d.dvs K) && kwdB K n9 (d.kws K))) = true from c2)
      obtain ⟨k3, k4⟩ := ba k2
      exact ⟨⟨oc, od, n8, n9, n10, n11, n12, n13, n14, osl, rfl, q, k1, dflB_ok k3, kwdB_ok k4⟩, kp⟩
    | _ => cases c2

/-! ### where things stand -/
/-- a method's def; a property's getter; a classmethod's def -/
def mA (C m : Str) (K : PySem.W.Frag) : Addr := ma K (ga K C) m
def pA (C m : Str) (K : PySem.W.Frag) : Addr := match PySem.W.recIn K (mA C m K) "property" with
  | some (.ref g :: _) => g
  | _ => 0
def kA (C m : Str) (K : PySem.W.Frag) : Addr := match PySem.W.recIn K (mA C m K) "classmethod" with
  | some (.ref g :: _) => g
  | _ => 0
def gA (x : Str) (K : PySem.W.Frag) : Addr := ga K x

/-! ### facts -/
inductive Fc where
  | fa (f : Fa)
  | prop (C f : Str)
  | exc (C : Str) (bm : List Value) (nw : String) (fs : List Str)
  | cval (C f : Str) (v : Dv)
  | isc (C T : Str) (b : Bool)
  | mro (C : Str)
  | ins (C : Str)
  | sub (C : Str) (T : String) (b : Bool)
  | tup (x : Str) (vs : List Dv)
  | bmt (C m : Str)
def clsRd (K : PySem.W.Frag) (C : Addr) : Bool := PySem.W.readsIn K C (.type "type") && eqO (PySem.W.specialIn K (.ref C) "__getattribute__") (some (some (.builtin "type.__getattribute__")))
def cvalB (K : PySem.W.Frag) (C : Addr) (f : Str) (v : V) : Bool := match PySem.W.findCls K (.ref C) (.type "type") f with
  | some (.val u) => relB v u
  | _ => false
/-- an instance of C is asked for its class in the plain way -/
def insB (K : PySem.W.Frag) (C : Addr) : Bool := eqO (PySem.W.findIn K (.ref C) "__class__") (some (some (.builtin "object.__class__")))
def Fc.ok (K : PySem.W.Frag) : Fc → Bool
  | .fa f => f.ok K
  | .prop C f => eqO (PySem.W.findIn K (.ref (ga K C)) f) (some (some (.ref (mA C f K)))) && (eqO (PySem.W.specialIn K (.ref (mA C f K)) "__get__") (some (some (.builtin "property.__get__"))) &&
      (decide (PySem.W.takesIn K (.ref (mA C f K)) = some true) && (match PySem.W.recIn K (mA C f K) "property" with
        | some (.ref _ :: _) => true
        | _ => false)))
  | .exc C bm nw fs => PySem.W.excInitIn K (ga K C) bm nw && (PySem.W.excOver K (ga K C) bm && (PySem.W.hasDictIn K (ga K C) && (eqO (PySem.W.findIn K (.ref (ga K C)) "__setattr__") (some (some (.builtin "object.__setattr__"))) &&
      (decide (PySem.W.subIn K (.ref (ga K C)) (.type "BaseException") = some true) && (decide (PySem.W.typeIn K (.ref (ga K C)) = some (.type "type")) && (PySem.W.keepIn K (.ref (ga K C)) &&
      (eqO (PySem.W.findIn K (.ref (ga K C)) "__init__") (some (some (.ref (mA C "__init__" K)))) && (decide (PySem.W.typeIn K (.ref (mA C "__init__" K)) = some (.type "function")) && (xfB K (ga K C) &&
      (fs.all (fun f => eqO (PySem.W.findIn K (.ref (ga K C)) f) (some none)) && eqO (PySem.W.findIn K (.ref (ga K C)) "__class__") (some (some (.builtin "object.__class__")))))))))))))
  | .cval C f v => clsRd K (ga K C) && cvalB K (ga K C) f (v.v K)
  | .isc C T b => decide (PySem.W.kitOne K (.ref (ga K C)) (.ref (ga K T)) = some b)
  | .mro C => decide (PySem.W.mroIn K (ga K C) (.type "object") = some true)
  | .ins C => insB K (ga K C)
  | .sub C T b => decide (PySem.W.kitOne K (.ref (ga K C)) (.type T) = some b)
  | .tup x vs => tupB K x vs
  | .bmt C m => eqO (PySem.W.specialIn K (.ref (mA C m K)) "__get__") (some (some (.builtin "function.__get__"))) && (decide (PySem.W.takesIn K (.ref (mA C m K)) = some false) && PySem.W.fnIn K (mA C m K))

/-! ### the Hook -/
/-- what is looked at: what the module's names reach in n steps, and the statics -/
def refsB (g : Addr → Option Obj) (a : Addr) : List Addr := match g a with
  | some o => refsD o
  | none => []
/-- what is new among them, told by the bits of m -/
def seeB : List Addr → Nat → List Addr → (Nat → List Addr → List Addr) → List Addr
  | [], m, l, k => k m l
  | a :: r, m, l, k => match Nat.beq (Nat.land (Nat.shiftRight m a) 1) 1 with
    | true => seeB r m l k
    | false => HandSHeadRun.frNat (Nat.lor m (Nat.shiftLeft 1 a)) fun m => seeB r m (a :: l) k
def growB (g : Addr → Option Obj) : Nat → Nat → List Addr → List Addr → List Addr
  | 0, _, _, all => all
  | n + 1, m, front, all => seeB (front.flatMap (refsB g)) m [] fun m new => growB g n m new (all ++ new)
def asW (g : Addr → Option Obj) (n : Nat) : List Addr := growB g n (Nat.lor (Nat.shiftLeft 1 mainGlobals) (Nat.shiftLeft 1 cStatics)) [mainGlobals] [mainGlobals, cStatics]
structure SaysW (fc : List Fc) (fw : List DefW) (ts : List Tab) (tf : List Defn) (w : World) (h : Heap) (K : PySem.W.Frag) : Prop where
  x : SaysX [] [] ts tf (fun K => fc.all fun f => f.ok K) w h K
  d : ∀ d ∈ fw, FD K d.name d.qual d.st (d.dvs K) (d.kws K) (d.find K)
theorem SaysW.fact {fc : List Fc} {fw : List DefW} {ts : List Tab} {tf : List Defn} {w : World} {h : Heap} {K : PySem.W.Frag} (c : SaysW fc fw ts tf w h K) (i : Nat) {f : Fc} (e : fc[i]? = some f := by rfl) : f.ok K = true :=
  List.all_eq_true.mp c.x.more f (List.mem_of_getElem? e)
theorem SaysW.def_ {fc : List Fc} {fw : List DefW} {ts : List Tab} {tf : List Defn} {w : World} {h : Heap} {K : PySem.W.Frag} (c : SaysW fc fw ts tf w h K) (i : Nat) {d : DefW} (e : fw[i]? = some d := by rfl) :
    FD K d.name d.qual d.st (d.dvs K) (d.kws K) (d.find K) := c.d d (List.mem_of_getElem? e)
abbrev AlW : Type := AlX × (Bool × List FnW)
def obsK (fc : List Fc) (fw : List DefW) (ts : List Tab) (tf : List Defn) (g : Addr → Option Obj) (K : PySem.W.Frag) : AlW :=
  ((obsT [] [] ts K, (fc.all fun f => f.ok K) && tabsB g tf K), (fw.all fun d => d.ok K, fw.map fun d => fnO K (d.find K)))
def obsW (n : Nat) (fc : List Fc) (fw : List DefW) (ts : List Tab) (tf : List Defn) (g : Addr → Option Obj) : AlW := obsK fc fw ts tf g (frT g (asW g n))
def valW (fw : List DefW) (ts : List Tab) (w : World) : AlW := (valX [] ts w, (true, fw.map DefW.val))
theorem saysW_of {n : Nat} {fc : List Fc} {fw : List DefW} {ts : List Tab} {tf : List Defn} {w : World} {h : Heap} (e : obsW n fc fw ts tf h.get? = valW fw ts w) : SaysW fc fw ts tf w h (frT h.get? (asW h.get? n)) := by
  unfold obsW at e
  generalize eK : frT h.get? (asW h.get? n) = K at e
  have out : ∀ {a : Addr} {o : Obj}, h.get? a = some o → emptyTab o = true → K.lookup a = none := fun {a o} q z => by rw [← eK]; exact frT_none q z
  have t1 : obsT [] [] ts K = valT [] ts w := congrArg (fun z : AlW => z.1.1) e
  have t2 : ((fc.all fun f => f.ok K) && tabsB h.get? tf K) = true := congrArg (fun z : AlW => z.1.2) e
  have e1 : (fw.all fun d => d.ok K) = true := congrArg (fun z : AlW => z.2.1) e
  have e2 : (fw.map fun d => fnO K (d.find K)) = fw.map DefW.val := congrArg (fun z : AlW => z.2.2) e
  obtain ⟨t3, t4⟩ := ba t2
  have key : ∀ p ∈ tf, PySem.W.codeHdIn K (cT K p).1 (cT K p).2 = true ∧ ∃ o, h.get? (cT K p).2 = some o ∧ emptyTab o = true := fun p hp => by
    obtain ⟨y1, y2⟩ := ba (List.all_eq_true.mp t4 p hp)
    refine ⟨y1, ?_⟩
    cases q : h.get? (cT K p).2 with
    | none =>
      rw [q] at y2
      cases y2
    | some o =>
      rw [q] at y2
      exact ⟨o, rfl, y2⟩
  refine ⟨⟨t1, t3, fun p hp => (key p hp).1, fun p hp => ?_, fun p hp => ?_⟩, fun d hd => ?_⟩
  · obtain ⟨_, o, q, z⟩ := key p hp
    exact out q z
  · obtain ⟨_, o, q, z⟩ := key p hp
    rw [q, emptyTab_eq z]
  · obtain ⟨i, hi, ei⟩ := List.mem_iff_getElem.mp hd
    have h3 : fw[i]? = some d := by rw [List.getElem?_eq_getElem hi, ei]
    have e3 : (fw.map fun d => fnO K (d.find K))[i]? = (fw.map DefW.val)[i]? := by rw [e2]
    rw [List.getElem?_map, List.getElem?_map, h3] at e3
    exact DefW.fd (Option.some.inj e3) (List.all_eq_true.mp e1 d hd)
def hookW (n : Nat) (fc : List Fc) (fw : List DefW) (ts : List Tab) (tf : List Defn) : PySem.W.Hook where
  α := AlW
  obs := fun s => obsW n fc fw ts tf s.heap.get?
  val := fun w => valW fw ts w
  says := fun w h => ∃ K : PySem.W.Frag, K.In h ∧ SaysW fc fw ts tf w h K
  of := fun _ _ e => ⟨_, frT_in, saysW_of e⟩
  keeps := fun _ _ _ ⟨K, hK, c⟩ k => ⟨K, PySem.W.Frag.In.keeps hK k, ⟨⟨c.x.t, c.x.more, c.x.hd, c.x.out, fun p hp => k _ _ (c.x.empty p hp)⟩, c.d⟩⟩
theorem obsW_eq {n : Nat} {fc : List Fc} {fw : List DefW} {ts : List Tab} {tf : List Defn} {g : Addr → Option Obj} {s : Shared} (h : ∀ a, g a = s.heap.get? a) : obsW n fc fw ts tf g = (hookW n fc fw ts tf).obs s := by
  have e : g = s.heap.get? := funext h
  rw [e] <;> rfl

/-! ### what the facts say -/
section
variable {K : PySem.W.Frag} {h : Heap} {mg : Str → Option Value}
theorem bm_ok {C f : Str} (c : (Fc.bmt C f).ok K = true) : PySem.W.specialIn K (.ref (mA C f K)) "__get__" = some (some (.builtin "function.__get__")) ∧ PySem.W.takesIn K (.ref (mA C f K)) = some false ∧ PySem.W.fnIn K (mA C f K) = true := by
  obtain ⟨h1, c⟩ := ba c
  obtain ⟨h2, h3⟩ := ba c
  exact ⟨eqO_ok h1, of_decide_eq_true h2, h3⟩
theorem prop_ok {C f : Str} (c : (Fc.prop C f).ok K = true) : PropOf K (ga K C) f (mA C f K) (pA C f K) := by
  obtain ⟨h1, c⟩ := ba c
  obtain ⟨h2, c⟩ := ba c
  obtain ⟨h3, h4⟩ := ba c
  refine ⟨eqO_ok h1, eqO_ok h2, of_decide_eq_true h3, ?_⟩
  unfold pA
  cases q : PySem.W.recIn K (mA C f K) "property" with
  | none =>
    rw [q] at h4
    cases h4
  | some l =>
    rw [q] at h4
    cases l with
    | nil => cases h4
    | cons v r =>
      cases v with
      | ref g => exact ⟨r, rfl⟩
      | _ => cases h4
/-- an own error class: what is raised, what its fields need -/
structure XT (K : PySem.W.Frag) (C : Str) (B nw it : String) (bm : List Value) (fs : List Str) : Prop where
  xc : XC K (ga K C) B nw it bm
  ini : PySem.W.findIn K (.ref (ga K C)) "__init__" = some (some (.ref (mA C "__init__" K)))
  fn : PySem.W.typeIn K (.ref (mA C "__init__" K)) = some (.type "function")
  xf : XfC K (ga K C)
  no : ∀ f ∈ fs, PySem.W.findIn K (.ref (ga K C)) f = some none
  cl : PySem.W.findIn K (.ref (ga K C)) "__class__" = some (some (.builtin "object.__class__"))
theorem exc_okW {C : Str} {B nw it : String} {bm : List Value} {fs : List Str} (bf : ExcBaseFacts B nw it bm) (sf : StoreFacts B bm "object.__setattr__" "object") (c : (Fc.exc C bm nw fs).ok K = true) : XT K C B nw it bm fs := by
  obtain ⟨h1, c⟩ := ba c
  obtain ⟨h2, c⟩ := ba c
  obtain ⟨h3, c⟩ := ba c
  obtain ⟨h4, c⟩ := ba c
  obtain ⟨h5, c⟩ := ba c
  obtain ⟨h6, c⟩ := ba c
  obtain ⟨h7, c⟩ := ba c
  obtain ⟨h8, c⟩ := ba c
  obtain ⟨h9, c⟩ := ba c
  obtain ⟨h10, c⟩ := ba c
  obtain ⟨h11, h12⟩ := ba c
  exact ⟨⟨bf, sf, h1, h2, h3, eqO_ok h4, of_decide_eq_true h5, of_decide_eq_true h6, h7⟩, eqO_ok h8, of_decide_eq_true h9, xfB_ok h10, fun f hf => eqO_ok (List.all_eq_true.mp h11 f hf), eqO_ok h12⟩
theorem cval_ok {C f : Str} {v : Dv} (c : (Fc.cval C f v).ok K = true) : ClX.CRead K (ga K C) (.type "type") ∧ ∃ u, ClX.CVal K (ga K C) (.type "type") f (v.v K) u := by
  obtain ⟨h1, h2⟩ := ba c
  obtain ⟨h3, h4⟩ := ba h1
  refine ⟨⟨h3, eqO_ok h4⟩, ?_⟩
  unfold cvalB at h2
  cases q : PySem.W.findCls K (.ref (ga K C)) (.type "type") f with
  | none =>
    rw [q] at h2
    cases h2
  | some r =>
    rw [q] at h2
    cases r with
    | val u => exact ⟨u, q, relB_ok h2⟩
    | _ => cases h2
end
end Wn
/-! isinstance of a caught error that has a dict of its own -/
namespace Wn
open PySem PySem.Spec PyProof.Rows L2 LamX He
theorem cls_get (K : PySem.W.Frag) : PySem.W.specialIn K (.builtin "object.__class__") "__get__" = some (some (.builtin "getset_descriptor.__get__")) := by
  first | rfl | kernel_rfl
theorem cls_tak (K : PySem.W.Frag) : PySem.W.takesIn K (.builtin "object.__class__") = some true := by
  first | rfl | kernel_rfl
theorem some_cls {K : PySem.W.Frag} {C : Addr} (h : PySem.W.hasDictIn K C = true) : (PySem.W.clsIn K C).isSome = true := by
  obtain ⟨cd, e, _⟩ := hasD h
  rw [e]
  rfl
/-- isinstance(e, c) where the suite holds e, an error of the own class D -/
def rIsX (K : PySem.W.Frag) (cls : Value) (a : Addr) : List V → Hp → VK → Prop := fun xs H Q => ∃ (D : Str) (B nw it : String) (bm : List Value) (fs : List Str) (c : V) (cv : Value) (b : Bool), cls = .ref (ga K D) ∧ XT K D B nw it bm fs ∧
  PySem.W.mroIn K (ga K D) (.type "object") = some true ∧ xs = [.ref a, c] ∧ (∀ u, RelV c u → u = cv) ∧ PySem.W.kitOne K cls cv = some b ∧ Q (.bl b) H
theorem call_isX {X : Cx} {a : Addr} {oe : Obj} {cls : Value} {d : Option Addr} {pn : List (Addr × Obj)} (hz : Zc cls d oe) (hf : ∃ vs, oe.data = .fields vs) : CallR (X.suite a ((a, oe) :: pn)) (.builtin "isinstance") (fun xs H Q => rIsX X.K cls a xs H fun v H' => (∃ dd fs, d = some dd ∧ H dd = some (.xd fs)) ∧ Q v H') := by
  intro pins s σ H xs us Q I r h
  obtain ⟨D, B, nw, it, bm, fs, c, cv, b, ec, T, hm, rfl, hcv, e, ⟨dd, fl, ed, hdd⟩, q⟩ := h
  obtain ⟨u1, u2, rfl, r1, r2⟩ := vals2 r
  cases (show u1 = Value.ref a from r1)
  have e2 := hcv _ r2
  subst e2
  subst ec
  subst ed
  obtain ⟨hget, _⟩ := I.pin (a, oe) (List.mem_append.mpr (.inl List.mem_cons_self))
  obtain ⟨vs, hv⟩ := hf
  have hx : ObjOk X.prog X.w H s.heap dd (.xd fl) := I.hok dd _ hdd
  obtain ⟨mA, hns, hr⟩ := hx
  obtain ⟨od, ho, hl⟩ := lookIn_ns hns
  have J : PySem.W.InstAt s.heap a oe (ga X.K D) (some od) := ⟨hget, hz.1, by unfold PySem.W.notCls; rw [hv] <;> rfl, by rw [hz.2]; exact ho⟩
  exact PySem.W.kia_one (PySem.W.kitx_exc (some_cls T.xc.hdi) T.xf.ga T.xf.gg T.xf.exC T.cl (cls_get _) (cls_tak _) hm) I.kIn J e (fun z => nomatch z) fun tk => ⟨.bl b, H, I.kept (t' := tk) fun _ _ z => z, rfl, q⟩
end Wn
/-! several clauses 'except x as n' of one name -/
namespace Wn
open PySem PySem.Spec PyProof.Rows L2 LamX He
abbrev Clause := Value × (Addr → Value → Option Addr → TS)
/-- the ends, with the clause's name gone -/
def gone (i : Nat) (D : Ends) : Ends := { nx := fun σ H => D.nx (σ.set i none) H, rt := D.rt, bk := fun σ H => D.bk (σ.set i none) H, ct := fun σ H => D.ct (σ.set i none) H }
def wAsN (K : PySem.W.Frag) (i : Nat) (Wout : WX) (D : Ends) : List Clause → WX
  | [] => Wout
  | (c, ts) :: r => fun cls d σ H => ∃ b, PySem.W.exmOne K cls c = some b ∧ (b = true → ∀ a, H a = none → ts a cls d (gone i D) (σ.set i (some (.ref a))) H) ∧ (b = false → wAsN K i Wout D r cls d σ H)
inductive HdsA (X : Cx) (n : Str) : List ExceptHandler → List Clause → Prop
  | nil : HdsA X n [] []
  | cons {x : Str} {c : Value} {ts : Addr → Value → Option Addr → TS} {b₀ : Stmt} {suite : List Stmt} {np pos' : Pos} {hds : List ExceptHandler} {l : List Clause} (hc : Names X x c)
      (hsu : ∀ (a : Addr) (oe : Obj) (cls : Value) (d : Option Addr) (pn : List (Addr × Obj)), Zc cls d oe → (∃ vs, oe.data = .fields vs) → PSs (X.suite a ((a, oe) :: pn)) (b₀ :: suite) (ts a cls d)) (r : HdsA X n hds l) :
      HdsA X n (.ExceptHandler (some (.Name x np)) (some n) (b₀ :: suite) pos' :: hds) ((c, ts) :: l)
section
variable {X : Cx} {body : List Stmt} {h₀ : ExceptHandler} {hds : List ExceptHandler} {l : List Clause} {pos : Pos} {tb : WX → TS} {Wout : WX} {i : Nat} {n : Str}
theorem ps_try_asN (hs : X.stack = X.env :: X.outer) (hf : X.env.frame = some X.env.locals) (hN : X.N.Nodup) (hi : X.N[i]? = some n) (hln : X.env.kindOf n = some .local) (tk : Takes X Wout)
    (hb : ∀ (W : WX) (pn : List (Addr × Obj)) (xe : Value → Shared → Prop), Takes (X.tr pn xe) W → PassesOwn (model X.prog X.w) X.A X.env xe → PSs (X.tr pn xe) body (tb W))
    (hh : HdsA X n (h₀ :: hds) l) : PS X (.Try body (h₀ :: hds) [] [] pos) (fun D σ H => tb (wAsN X.K i Wout D l) D σ H) := by
  refine ⟨fun pins s σ H D I h => ?_⟩
  have ok := I.ok
  have hfr : X.A.frames = some (X.env :: X.outer) := by rw [ok.frames, hs]
  have hloc : Loc X.env.scope n := .inl hln
  refine wpAny_Try_except ?_
  refine wpAny_mono ((hb (wAsN X.K i Wout D l) (X.pn ++ pins) (fun e s₁ => wpAny (model X.prog X.w) X.A (noteFrame e X.env) (fun _ s₂ => wpAny (model X.prog X.w) X.A (setFlight e none) (fun _ s₃ =>
    wpAny (model X.prog X.w) X.A (handleBy e X.env (h₀ :: hds)) (SP X pins D) X.xe s₃) X.xe s₂) X.xe s₁) (fun u s' xx => ?_) PassesOwn.looking).run [] s σ H D (I.toTry _) h) (fun f s1 hsp => ?_) (fun e s1 he => he)
  · obtain ⟨a, B, sI, pins', σ', H', cls, d, rfl, J', nb, up, sky, na, os, ag, w⟩ := xx
    have J : Inv X pins σ' H' sI := J'.ofTry ok
    have sky' : Sky B (X.env :: X.outer) a (Zc cls d) X.env.locals s'.heap := by rw [← hs]; exact sky
    show wpAny (model X.prog X.w) X.A (noteFrame (.ref a) X.env) _ _ _
    refine Sky.land Zc.steady hfr hf sky' fun h3 fl3 up3 => ?_
    have J3 : Inv X pins σ' H' { s' with heap := h3 } := J.landed nb fl3.1 (up.trans up3) os ag
    obtain ⟨oe3, vs3, he3, hz3, hd3⟩ := fl3.there
    have nfr : a ∉ frs (X.env :: X.outer) := fun hm => by
      obtain ⟨_, o', e', hnf⟩ := fl3.2.2.1.mem hm
      rw [he3] at e'; cases e'
      exact hnf _ hd3
    have nL : a ≠ X.env.locals := fun z => nfr (List.mem_filterMap.mpr ⟨X.env, List.mem_cons_self, by rw [hf, z]⟩)
    have nF : a ∉ X.fs := fun hm => by
      obtain ⟨e, he, q⟩ := List.mem_filterMap.mp hm
      exact nfr (List.mem_filterMap.mpr ⟨e, List.mem_cons_of_mem _ he, q⟩)
    have S3 := J3.suite he3 hd3 na nL nF
    have go : ∀ {hds' : List ExceptHandler} {l' : List Clause}, HdsA X n hds' l' → wAsN X.K i Wout D l' cls d σ' H' →
        wpAny (model X.prog X.w) X.A (handleBy (.ref a) X.env hds') (SP X pins D) X.xe { s' with heap := h3 } := by
      intro hds' l' hk
      induction hk with
      | nil =>
        intro w
        refine wpAny_handleBy_nil ?_
        obtain ⟨k1, k2, k3, oe, vs, T, oT, ts', he, hz, hd, h1, hr⟩ := id fl3
        unfold PySem.passOn
        refine wpAny_bind (wpAny_field he hd h1 ?_)
        rw [if_neg (show ¬ ((Value.ref T == Value.none) = true) from by simp)]
        have fin : wpAny (model X.prog X.w) X.A (setFlight (.ref a) X.env.frame) (fun _ s4 => wpAny (model X.prog X.w) X.A (throw (.ref a) : Sem Flow) (SP X pins D) X.xe s4) X.xe { s' with heap := h3 } := by
          rw [hf]
          refine HandSPX.setFlight_upZ fl3 fun h4 hh4 up4 => wpAny_throw (tk _ _ ?_)
          exact ⟨a, B, sI, pins, σ', H', cls, d, rfl, J, nb, (up.trans up3).trans up4, .inr (.inr (by rw [hs]; exact hh4)), na, os, ag, w⟩
        first
          | exact wpAny_bind (wpAny_pure (wpAny_bind fin))
          | exact wpAny_bind fin
      | @cons x c ts b₀ suite np pos' hds2 l2 hc hsu r ih =>
        intro w
        obtain ⟨b, hb1, hyes, hno⟩ := w
        refine wpAny_handleBy_cons (codeAny_handlers_test ?_) (by intro q; cases q)
        have LT : PySem.W.Looks (model X.prog X.w) h3 (typeOf (.ref a)) cls := fun A Q E s k q => wpAny_typeOf_ref (k _ _ he3) (by rw [hz3.1]; exact q)
        have LM := PySem.W.exm_one (M := model X.prog X.w) (J3.kIn) LT hb1
        have test : ∀ {Q : Value → Shared → Prop} {E : Value → Shared → Prop}, Q c { s' with heap := h3 } → wpAny (model X.prog X.w) (X.A.mark (some (.ref a))) (eval (.Name x np) X.env) Q E { s' with heap := h3 } := fun {Q E} q => by
          obtain ⟨hg, hdbg, hm | ⟨hm, hv, hnn⟩⟩ := hc
          · exact ld_glob (X := X.suite a ((a, oe3) :: (X.pn ++ pins))) S3 hg hm q hdbg
          · exact ld_blt (X := X.suite a ((a, oe3) :: (X.pn ++ pins))) S3 hg hm hv q hnn hdbg
        refine test (LM.here ?_)
        cases b with
        | true =>
          refine codeAny_handlers_suite_as ?_
          refine HandSPX.lands_againZ fl3 fun h4 fl4 up4 => ?_
          have J4 : Inv X pins σ' H' { s' with heap := h4 } := J.landed nb fl4.1 ((up.trans up3).trans up4) os ag
          obtain ⟨oe4, vs4, he4, hz4, hd4⟩ := fl4.there
          have S4 := J4.suite he4 hd4 na nL nF
          refine store_ok (X := X.suite a ((a, oe4) :: (X.pn ++ pins))) (v := .ref a) S4 hN hi hloc rfl (fun s5 S5 => ?_) (.inr hln)
          refine wpAny_mono ((hsu a oe4 cls d (X.pn ++ pins) hz4 ⟨_, hd4⟩).run [] s5 _ H' _ S5 (hyes rfl a na)) (fun f s6 hsp => ?_) (fun _ _ z => False.elim z)
          have end_ : ∀ {σ6 : L2.St} {H6 : Hp} {Q : Shared → Prop}, Inv (X.suite a ((a, oe4) :: (X.pn ++ pins))) [] σ6 H6 s6 → (∀ s7, Inv X pins (σ6.set i none) H6 s7 → Q s7) →
              wpAny (model X.prog X.w) X.A (do bindName X.env n .none; unbindBehindTheSuite X.env n pos') (fun _ s7 => Q s7) X.xe s6 := fun {σ6 H6 Q} S6 hq => gone_ok (S6.unsuite ok) hN hi hln hq
          cases f with
          | next =>
            obtain ⟨σ6, H6, S6, q6⟩ := hsp
            exact end_ S6 fun s7 J7 => ⟨_, _, J7, q6⟩
          | brk =>
            obtain ⟨σ6, H6, S6, q6⟩ := hsp
            exact end_ S6 fun s7 J7 => ⟨_, _, J7, q6⟩
          | cont =>
            obtain ⟨σ6, H6, S6, q6⟩ := hsp
            exact end_ S6 fun s7 J7 => ⟨_, _, J7, q6⟩
          | ret u =>
            obtain ⟨v6, σ6, H6, S6, r6, q6⟩ := hsp
            exact end_ S6 fun s7 J7 => ⟨_, _, _, J7, r6, q6⟩
        | false =>
          show wpAny _ X.A (handleBy (.ref a) X.env hds2) _ _ _
          exact ih (hno rfl)
    exact go hh w
  · cases f with
    | next =>
      obtain ⟨σ', H', J', q⟩ := hsp
      exact wpAny_execs_nil ⟨σ', H', J'.ofTry ok, q⟩
    | brk =>
      obtain ⟨σ', H', J', q⟩ := hsp
      exact ⟨σ', H', J'.ofTry ok, q⟩
    | cont =>
      obtain ⟨σ', H', J', q⟩ := hsp
      exact ⟨σ', H', J'.ofTry ok, q⟩
    | ret u =>
      obtain ⟨v, σ', H', J', r, q⟩ := hsp
      exact ⟨v, σ', H', J'.ofTry ok, r, q⟩
end
end Wn
/-! raise C(e) where C's __init__ stores a caption and one field -/
namespace Wn
open PySem PySem.Spec PyProof.Rows L2 LamX He

def spErr (C : Addr) (f cap : Str) : Sp := fun vs H Q _ => ∃ (a : Addr) (v : V), vs = [.ref a, v] ∧ H a = some (exo a C none) ∧ ∀ dx, H dx = none → dx ≠ a →
  Q .non (upd (upd (upd H dx (exd dx [("caption", .str cap)])) a (exo a C (some dx))) dx (exd dx [(f, v), ("caption", .str cap)]))
/-- raise C(e): for every new d the way out, d the error's own dict -/
def tErr (C : Addr) (f cap : Str) (te : TE) : L2.St → Hp → XK → Prop := fun σ H Q => te σ H fun v H1 => ∀ d, H1 d = none → Q (.ref C) (some d) (upd H1 d (.xd [(f, v), ("caption", .str cap)]))
theorem err_heap {H : Hp} {a d C : Addr} {f1 f2 fs : List (Str × V)} (ha : H a = none) (ne : d ≠ a) :
    upd (del (upd (upd (upd (upd H a (exo a C none)) d (exd d f1)) a (exo a C (some d))) d (exd d f2)) a) d (.xd fs) = upd H d (.xd fs) := by
  funext b
  by_cases h1 : b = d
  · subst h1
    rw [upd_same, upd_same]
  · rw [upd_ne h1, upd_ne h1]
    by_cases h2 : b = a
    · subst h2
      rw [del_same, ha]
    · rw [del_ne h2, upd_ne h1, upd_ne h2, upd_ne h1, upd_ne h2]
section
variable {X : Cx} {e : Expr} {te : TE} {f cap : Str} {p pos : Pos} {CX : CXT} {x C : Str} {k : Nat} {fd : FuncData} {B nw it : String} {bm : List Value} {fs : List Str}
/-- what is wanted behind one argument -/
def one1 (R : V → Hp → Prop) : List V → Hp → Prop := fun vs H => match vs with
  | [v] => R v H
  | _ => False
theorem pmk_err (T : XT X.K C B nw it bm fs) (F1 : FnOk X.prog X.w X.K X.mg X.base CX k (mA C "__init__" X.K) fd ["self", f] (spErr (ga X.K C) f cap)) (hr : Room (k + 1) X.A) (hb : Binds X.K fd ["self", f] []) (hx : Passes CX X (fun _ _ _ => False))
    (hg : Gl X x) (hm : X.mg x = some (.ref (ga X.K C))) (he : PE X e te) (hdb : (x == ("__debug__" : Str)) = false := by decide) (hst : starEach [e] X.env = [(false, eval e X.env)] := by rfl) :
    PMk X (.Call (.Name x p) [e] [] pos) (tErr (ga X.K C) f cap te) := by
  intro pins s σ H Q I h
  refine wpAny_Call_Name_kw (ld_glob I hg hm ?_ hdb)
  refine PySem.W.callWith_K (h₀ := X.base) I.ok.mod.kin T.xc.kC (thn ((pa_cons he pa_nil hst).run pos pins s σ H (one1 fun v H1 => ∀ d, H1 d = none → Q (.ref (ga X.K C)) (some d) (upd H1 d (.xd [(f, v), ("caption", .str cap)]))) I h) fun us s1 ⟨vs, H1, I1, r1, q1⟩ => ⟨I1.kIn, ?_⟩) hst rfl
  match vs, r1, q1 with
  | [v], r1, q1 =>
    refine xm_run T.xc T.ini T.fn F1 hr hb hx I1 r1 (by show 1 ≤ 1000; decide) fun a ha => ⟨a, v, rfl, upd_same, fun dx hd ne => ⟨rfl, dx, [(f, v), ("caption", .str cap)], ?_, upd_same, ?_, ?_⟩⟩
    · rw [upd_ne (Ne.symm ne), upd_same]
    · rw [upd_ne ne] at hd
      exact hd
    · rw [err_heap ha ne]
      rw [upd_ne ne] at hd
      exact q1 dx hd
/-- an error's __init__ keeps its promise -/
theorem err_init {P : Program} {w : World} {K : PySem.W.Frag} {mg : Str → Option Value} {base : Heap} {st : Stmt} {p1 p2 p3 p4 p5 p6 p7 p8 : Pos} {j : Nat} (T : XT K C B nw it bm fs) (F : FD K "__init__" cap st [] [] (mA C "__init__" K)) (S : FnScope ["self", f] ["self", f] (defScope st))
    (hbd : defBody st = [.Assign [.Attribute (.Name "self" p1) "caption" p2] (.Constant (.str x) j p3) p4, .Assign [.Attribute (.Name "self" p5) f p6] (.Name f p7) p8])
    (h1 : (("caption" : Str) ∈ fs) ∧ f ∈ fs) (hn : (f == ("__debug__" : Str)) = false ∧ (f == ("__classdict__" : Str)) = false)
    (hs : ∀ env : Env, swapsWith (.Constant (.str x) j p3) (some (.Attribute (.Name "self" p1) "caption" p2)) p4.line env = pure false ∧ swapsWith (.Name f p7) (some (.Attribute (.Name "self" p5) f p6)) p8.line env = pure false)
    (hv : Vis (defScope st) "self" ∧ Vis (defScope st) f) :
    FnOk P w K mg base CX0 1 (mA C "__init__" K) (fdAt K (mA C "__init__" K)) ["self", f] (spErr (ga K C) f x) := by
  refine FunD.ok F S (fun vs H Q E h => ?_) (fun cdv A outer s H vs Q E hr h => ?_)
  · obtain ⟨a, v, rfl, _⟩ := h
    rfl
  · obtain ⟨a, v, rfl, ha, k⟩ := h
    rw [hbd]
    refine ⟨_, pss_cons (ps_xs (pe_var (i := 0) rfl hv.1) pe_str (hs _).1) (pss_one (ps_xs (pe_var (i := 0) rfl hv.1) (pe_var (i := 1) rfl hv.2 hn.1 hn.2) (hs _).2)), ?_⟩
    refine ⟨_, rfl, a, ga K C, B, nw, it, bm, rfl, T.xc, T.no _ h1.1, .inl ⟨ha, fun dx hd ne => ?_⟩⟩
    refine ⟨_, rfl, _, rfl, a, ga K C, B, nw, it, bm, rfl, T.xc, T.no _ h1.2, .inr ⟨dx, [("caption", .str x)], upd_same, ?_, (by show 1 ≤ 900; decide), ?_⟩⟩
    · rw [upd_ne ne, upd_same]
    · exact k dx hd ne
end
end Wn
/-! sorted(xs, key=f): f is called as a def of the text is -/
namespace Wn
open PySem PySem.Spec PyProof.Rows L2 LamX PySem.W

theorem Same.sqt {K : PySem.W.Frag} {H H' : Hp} {a : Addr} {xs : List V} (e : Same H H') (h : SqT K H a xs) : SqT K H' a xs := by
  rcases h with (h | ⟨o, h⟩) | h
  · exact .inl (.inl (e _ _ h))
  · exact .inl (.inr ⟨o, e _ _ h⟩)
  · exact .inr h
mutual
theorem Dp.same {K : PySem.W.Frag} {H H' : Hp} (e : Same H H') : ∀ (d : PyData) (v : V), Dp K H v d → Dp K H' v d
  | .none, _, h => by cases h; exact .non
  | .bool b, _, h => by cases h; exact .bl b
  | .int i, _, h => by cases h; exact .int i
  | .str x, _, h => by cases h; exact .str x
  | .list ds, _, h => by cases h with | lst hs ha => exact .lst (e.seq hs) (DpAll.same e ds _ ha)
  | .tuple ds, _, h => by cases h with | tup hs ha => exact .tup (Same.sqt e hs) (DpAll.same e ds _ ha)
  | .dict kvs, _, h => by cases h
theorem DpAll.same {K : PySem.W.Frag} {H H' : Hp} (e : Same H H') : ∀ (ds : List PyData) (vs : List V), DpAll K H vs ds → DpAll K H' vs ds
  | [], _, h => by cases h; exact .nil
  | d :: ds, _, h => by cases h with | cons h1 h2 => exact .cons (Dp.same e d _ h1) (DpAll.same e ds _ h2)
end

theorem dpLen {K : PySem.W.Frag} {H : Hp} : ∀ {vs : List V} {ds : List PyData}, DpAll K H vs ds → vs.length = ds.length
  | _, _, .nil => rfl
  | _, _, .cons _ t => congrArg Nat.succ (dpLen t)
theorem dpApp {K : PySem.W.Frag} {H : Hp} : ∀ {vs ws : List V} {ds es : List PyData}, DpAll K H vs ds → DpAll K H ws es → DpAll K H (vs ++ ws) (ds ++ es)
  | _, _, _, _, .nil, h => h
  | _, _, _, _, .cons a t, h => .cons a (dpApp t h)
theorem eachVals : ∀ {xs : List V} {us : List Value}, Vals xs us → EachIs (fun v x => RelV x v) us xs
  | _, _, .nil => .nil
  | _, _, .cons r t => .cons r (eachVals t)
theorem valsEach : ∀ {xs : List V} {us : List Value}, EachIs (fun v x => RelV x v) us xs → Vals xs us
  | _, _, .nil => .nil
  | _, _, .cons r t => .cons r (valsEach t)
theorem eachReads {X : Cx} {pins : List (Addr × Obj)} {σ : L2.St} {H : Hp} {s : Shared} (I : Inv X pins σ H s) : ∀ {ks : List V} {us : List Value} {ds : List PyData}, Vals ks us → DpAll X.K H ks ds → EachIs (fun v k => ∃ as, Reads s.heap v k as) us ds
  | _, _, _, .nil, .nil => .nil
  | _, _, _, .cons r t, .cons d ds => .cons (Dp.reads I _ _ _ d r) (eachReads I t ds)
section
variable {X : Cx} {pins : List (Addr × Obj)} {σ : L2.St} {H : Hp} {s : Shared}
/-- addresses behind the heap of an invariant are nobody's -/
structure Own (X : Cx) (pins : List (Addr × Obj)) (a : Addr) : Prop where
  loc : a ≠ X.env.locals
  old : X.s_0.heap.objs.size ≤ a
  cel : ∀ x c, X.env.cells.lookup x = some c → c ≠ a
  pin : ∀ p ∈ X.pn ++ pins, p.1 ≠ a
  fs : a ∉ X.fs
theorem own_of (I : Inv X pins σ H s) {a : Addr} (h : s.heap.objs.size ≤ a) : Own X pins a :=
  ⟨Nat.ne_of_gt (Nat.lt_of_lt_of_le I.lt h), Nat.le_trans I.sz h, fun x c e z => by
    obtain ⟨v, o, ho, _⟩ := I.cell x c e
    exact absurd (Nat.lt_of_lt_of_le (Heap.lt_size ho) h) (by rw [z]; exact Nat.lt_irrefl _),
   fun p hp z => absurd (Nat.lt_of_lt_of_le (Heap.lt_size (I.pin p hp).1) h) (by rw [z]; exact Nat.lt_irrefl _), I.nofs h⟩
/-- what is pinned and one's own is tracked from now on, another one is forgotten -/
theorem track {h' : Heap} {t' : Nat} {a b : Addr} {xs : List V} (I : Inv X pins σ H s) (oa : Own X pins a) (ob : Own X pins b) (na : H a = none) (nb : H b = none)
    (k : ∀ c o, c ≠ a → c ≠ b → s.heap.get? c = some o → h'.get? c = some o) (ha : ObjOk X.prog X.w (upd H a (.lst xs)) h' a (.lst xs)) :
    Inv X pins σ (upd H a (.lst xs)) { s with heap := h', toks := t' } := by
  have nt : ∀ {c : Addr} {u : HO}, H c = some u → c ≠ a ∧ c ≠ b := fun {c u} e => ⟨ne_of_none e na, ne_of_none e nb⟩
  have up : ∀ {c : Addr} {u : HO}, H c = some u → upd H a (.lst xs) c = some u := fun {c u} e => by rw [upd_ne (nt e).1]; exact e
  have nin : ∀ {c : Addr}, c ∉ [a, b] → c ≠ a ∧ c ≠ b := fun {c} h => ⟨fun z => h (by simp [z]), fun z => h (by simp [z])⟩
  refine I.step (g' := s.gens) (d' := s.drawn) (ch := [a, b]) (fun c hc => ?_) (fun c o _ _ hc e _ => k c o (nin hc).1 (nin hc).2 e) (fun c o _ _ hc e _ => ⟨o.slots, k c o (nin hc).1 (nin hc).2 e⟩)
    (fun c o hc _ n => by rw [upd_ne (nin hc).1]; exact n) (fun c o hc e => ⟨o, k c o (nin hc).1 (nin hc).2 e⟩) (fun c xs q => up q) (fun c o u q => up q) (fun c ps q => ⟨#[], by rw [up q]; simp⟩) (fun m hm => ?_) (fun c u q => ?_) I.bare
  · rcases List.mem_cons.mp hc with z | z
    · subst z; exact ⟨.inr oa.old, oa.loc, oa.cel, oa.pin⟩
    · cases List.mem_singleton.mp z
      exact ⟨.inr ob.old, ob.loc, ob.cel, ob.pin⟩
  · obtain ⟨o, es, ep, e, r⟩ := hm
    exact ⟨o, es, ep, k _ _ (Ne.symm oa.loc) (Ne.symm ob.loc) e, r⟩
  · by_cases z : c = a
    · subst z
      rw [upd_same] at q
      cases q
      exact ha
    · rw [upd_ne z] at q
      exact (I.hok c u q).stay (fun d v hd y => by
          have hn : d ≠ a ∧ d ≠ b := by
            rcases hd with hd | hd
            · subst hd
              exact nt q
            · exact nt hd
          exact k d v hn.1 hn.2 y) (fun d hd => up hd) fun d ys hd => up hd

variable {Q : VK} {l q : Addr} {xs : List V} {kd : V → PyData}
theorem sorted_key_run (I : Inv X pins σ H s) (hS : SqL X.K H l xs) (hal : AllAlike (xs.map kd)) (hsk : Sortable (xs.map kd)) (hdp : ∀ x ∈ xs, (kd x).depth ≤ 50) (hu : X.A.units + 100 < cLine)
    (hcall : ∀ (pins' : List (Addr × Obj)) (H1 : Hp) (s1 : Shared) (x : V) (u : Value), Inv X pins' σ H1 s1 → Same H H1 → x ∈ xs → RelV x u →
      wpAny (model X.prog X.w) X.A.in1.in1 (call (.ref q) [u]) (EP X pins' σ fun v H2 => Same H1 H2 ∧ Dp X.K H2 v (kd x)) (fun _ _ => False) s1)
    (hfin : ∀ H2 p, Same H H2 → H2 p = none → Q (.ref p) (upd H2 p (.lst (xs.mergeSort (dataLe false kd))))) :
    wpAny (model X.prog X.w) X.A (call (.builtin "sorted") [.ref l] [(Str.ofString "key", .ref q)]) (EP X pins σ Q) X.xe s := by
  obtain ⟨its, rv, pl, hz⟩ := I.list hS
  have hlen : its.length = xs.length := (Vals.length rv).symm
  have hIL : s.heap.IsList l its.toArray := by
    obtain ⟨o, n, ho, hc, _, hd⟩ := pl
    exact ⟨o, ho, hc, n, hd⟩
  refine sorted_of_sort hIL (by rw [hlen]; exact hz) (ksk_s1 _ _) (fun x => ksk_l1 _ _) fun E' => ?_
  rw [ksk_t1]
  -- the copy at D
  have oD : Own X pins (s.heap.objs.size + 1) := own_of I (Nat.le_succ s.heap.objs.size)
  generalize hDe : s.heap.objs.size + 1 = D at oD ⊢
  have hoD : (copyHeap s.heap its).get? D = some (seqObj "list" its.toArray 0) := by rw [← hDe]; exact copyHeap_at s.heap its
  have ltD : D < (copyHeap s.heap its).objs.size := Heap.lt_size hoD
  obtain ⟨e1, ho1⟩ : ∃ e1, ((copyHeap s.heap its).update D (Obj.mapSeq fun _ => (#[] : Array Value))).get? D = some (seqObj "list" #[] e1) := ⟨_, get?_update_seq hoD fun _ => #[]⟩
  unfold ksk_tree
  refine wpAny_bind (listItems_at hoD rfl ?_)
  refine wpAny_bind (listUpdate_at hoD rfl ?_ (by rw [List.size_toArray, hlen]; exact hz) (Nat.zero_le _))
  refine wpAny_bind (seqEpoch_at ho1 rfl ?_)
  refine wpAny_bind (wpAny_newTuple ?_ (by show its.length ≤ _; rw [hlen]; exact hz))
  refine wpAny_bind (wpAny_newList ?_ (Nat.zero_le _))
  refine wpAny_holding ?_
  have nD : ∀ {b : Addr} {o : Obj}, s.heap.get? b = some o → b ≠ D := fun {b o} e => by rw [← hDe]; exact Nat.ne_of_lt (Nat.lt_succ_of_lt (Heap.lt_size e))
  have kp : ∀ b o, s.heap.get? b = some o → (sortingHeap (copyHeap s.heap its) D its).get? b = some o := fun b o e => sortingHeap_old (nD e) (copyHeap_old e)
  have I2 : Inv X pins σ H { s with heap := sortingHeap (copyHeap s.heap its) D its } := I.kept kp
  -- the keys' list at S
  have hSe : ((((copyHeap s.heap its).update D (Obj.mapSeq fun _ => (#[] : Array Value))).push (seqObj "tuple" its.toArray 0)).objs.size) = (copyHeap s.heap its).objs.size + 1 := by rw [size_push', Heap.size_update]
  have szc : s.heap.objs.size ≤ (copyHeap s.heap its).objs.size := by omega
  have oS : Own X pins ((copyHeap s.heap its).objs.size + 1) := own_of I (Nat.le_succ_of_le szc)
  have nS0 : H ((copyHeap s.heap its).objs.size + 1) = none := I.hok.fresh (Nat.le_succ_of_le szc)
  have hSD : (copyHeap s.heap its).objs.size + 1 ≠ D := by omega
  have gD : (sortingHeap (copyHeap s.heap its) D its).get? D = some (seqObj "list" #[] e1) := Heap.get?_push_of_some _ (Heap.get?_push_of_some _ ho1)
  have gS : (sortingHeap (copyHeap s.heap its) D its).get? ((copyHeap s.heap its).objs.size + 1) = some (seqObj "list" #[] 0) := by
    unfold sortingHeap
    rw [← hSe]
    exact Heap.get?_push_size _ rfl
  show wpAny _ _ (ksk_rest D (.ref q) false its.toArray e1 (.ref ((((copyHeap s.heap its).update D (Obj.mapSeq fun _ => (#[] : Array Value))).push (seqObj "tuple" its.toArray 0)).objs.size))) _ _ { s with heap := sortingHeap (copyHeap s.heap its) D its }
  rw [hSe]
  generalize (copyHeap s.heap its).objs.size + 1 = S at oS hSD gS nS0 ⊢
  generalize sortingHeap (copyHeap s.heap its) D its = hp2 at I2 gD gS ⊢
  have nH : ∀ {a : Addr}, s.heap.objs.size ≤ a → H a = none := fun h => I.hok.fresh h
  have mkp : ∀ {H1 : Hp} {s1 : Shared} {kA : Array Value} {e : Nat}, Inv X pins σ H1 s1 → s1.heap.get? D = some (seqObj "list" #[] e1) → s1.heap.get? S = some (seqObj "list" kA e) → H1 D = none → H1 S = none →
      Inv X ((D, seqObj "list" #[] e1) :: (S, seqObj "list" kA e) :: pins) σ H1 s1 := fun {H1 s1 kA e} J g1 g2 n1 n2 => by
    refine J.pins_of fun p hp => ?_
    rcases List.mem_cons.mp hp with z | hp
    · subst z
      exact ⟨g1, n1, oD.loc, oD.fs, fun v z => nomatch z⟩
    · rcases List.mem_cons.mp hp with z | hp
      · subst z
        exact ⟨g2, n2, oS.loc, oS.fs, fun v z => nomatch z⟩
      · exact J.pin p (List.mem_append_right _ hp)
  have nD0 : H D = none := nH (by omega)
  unfold ksk_rest
  refine wpAny_bind (wpAny_rule ?_)
  first
    | rw [List.forIn_toArray]
    | (rw [← Array.forIn_toList]; simp only [List.toList_toArray])
    | rw [← Array.forIn_toList]
  refine wpAny_bind (ksk_fold (fun i s' => ∃ H' kA e ks, Same H H' ∧ Inv X ((D, seqObj "list" #[] e1) :: (S, seqObj "list" kA e) :: pins) σ H' s' ∧ Vals ks kA.toList ∧ DpAll X.K H' ks ((xs.take i).map kd)) its 0 { s with heap := hp2 }
    ⟨H, #[], 0, [], Same.refl H, ?_, .nil, ?_⟩ ?step ?done)
  · exact mkp I2 gD gS nD0 nS0
  · rw [List.take_zero]
    exact .nil
  case step =>
    rintro j u s' hj ⟨H', kA, e, ks, sm, J, rk, dk⟩
    simp only [Nat.zero_add] at dk ⊢
    obtain ⟨x, hx, rx⟩ : ∃ x, xs[j]? = some x ∧ RelV x u := by
      have hjl : j < xs.length := by rw [← hlen]; exact (List.getElem?_eq_some_iff.mp hj).1
      obtain ⟨u', hu', rx⟩ := rv.get (List.getElem?_eq_getElem hjl)
      rw [hj] at hu'
      cases hu'
      exact ⟨_, List.getElem?_eq_getElem hjl, rx⟩
    have hjl : j < xs.length := (List.getElem?_eq_some_iff.mp hx).1
    refine wpAny_bind (wpAny_attempt (wpAny_mono (hcall _ H' s' x u J sm (List.mem_of_getElem? hx) rx) (fun v s'' he => ?_) fun _ _ hF => hF.elim))
    obtain ⟨v', H2, J2, rv', sm2, dv⟩ := he
    dsimp only
    have pD := J2.pin (D, seqObj "list" #[] e1) (List.mem_append_right _ List.mem_cons_self)
    have pS := J2.pin (S, seqObj "list" kA e) (List.mem_append_right _ (List.mem_cons_of_mem _ List.mem_cons_self))
    have J3 : Inv X pins σ H2 s'' := J2.pins_of fun p hp => J2.pin p (List.mem_append_right _ (List.mem_cons_of_mem _ (List.mem_cons_of_mem _ hp)))
    obtain ⟨c2, hc2⟩ : ∃ c2, (s''.heap.update S (Obj.mapSeq (·.push v))).get? S = some (seqObj "list" (kA.push v) c2) := ⟨_, get?_update_seq pS.1 (·.push v)⟩
    have sb := Heap.SameBut.update s''.heap S (Obj.mapSeq (·.push v))
    have lk : kA.size = j := by
      have h1 := Vals.length rk
      have h2 : ks.length = ((xs.take j).map kd).length := dpLen dk
      rw [List.length_map, List.length_take, Nat.min_eq_left (Nat.le_of_lt hjl)] at h2
      have h3 : kA.toList.length = kA.size := Array.length_toList
      rw [← h1, h2] at h3
      exact h3.symm
    refine wpAny_bind (listUpdate_at pS.1 rfl ?_ (by rw [lk]; omega) (by rw [Array.size_push, lk]; omega))
    have J4 : Inv X pins σ H2 { s'' with heap := s''.heap.update S (Obj.mapSeq (·.push v)), toks := s''.toks } :=
      J3.turned (it := S) (fun b o hb eo => (sb.2 b hb).trans eo) pS.2.1 oS.loc (.inr oS.old) oS.cel oS.pin
    refine wpAny_pure ⟨rfl, H2, kA.push v, c2, ks ++ [v'], sm.trans sm2, mkp J4 ((sb.2 D (Ne.symm hSD)).trans pD.1) hc2 pD.2.1 pS.2.1, ?_, ?_⟩
    · rw [Array.toList_push]
      exact rk.append (.cons rv' .nil)
    · rw [List.take_add_one, hx, List.map_append]
      exact dpApp (DpAll.same sm2 _ _ dk) (.cons dv .nil)
  case done =>
    rintro s' ⟨H', kA, e, ks, sm, J, rk, dk⟩
    have dk' : DpAll X.K H' ks (xs.map kd) := by
      rw [Nat.zero_add, hlen, List.take_length] at dk
      exact dk
    have pD := J.pin (D, seqObj "list" #[] e1) (List.mem_append_right _ List.mem_cons_self)
    have pS := J.pin (S, seqObj "list" kA e) (List.mem_append_right _ (List.mem_cons_of_mem _ List.mem_cons_self))
    have J3 : Inv X pins σ H' s' := J.pins_of fun p hp => J.pin p (List.mem_append_right _ (List.mem_cons_of_mem _ (List.mem_cons_of_mem _ hp)))
    have rd : EachIs (fun v k => ∃ as, Reads s'.heap v k as) kA.toList (xs.map kd) := eachReads J3 rk dk'
    have hsz : kA.size = its.length := by
      have h1 := rd.length
      rw [Array.length_toList, List.length_map] at h1
      omega
    obtain ⟨G, g1, g2⟩ := L2.restrict s'.heap fun b => decide (b ≠ S)
    have gk : ∀ b, b ≠ S → G.get? b = s'.heap.get? b := fun b hb => g1 b (decide_eq_true hb)
    have kpG : KeepsBut D G s'.heap := fun b o hb eo => by
      by_cases z : b = S
      · rw [z, g2 S (by simp)] at eo
        cases eo
      · rw [← gk b z]
        exact eo
    (try dsimp only)
    refine wpAny_bind (listItems_at pS.1 rfl ?_)
    refine keyH_end (κ := dataKind s'.heap (xs.map kd)) (h₁ := G) kpG (g2 S (by simp)) pS.1 pD.1 hSD (SortsAt.data (s := s') rd hal hsk (fun d hd => ?_)) hsz (by rw [hlen]; exact hz) fun h' tk c kpD hD => ⟨rfl, ?_⟩
    · obtain ⟨x, hx, rfl⟩ := List.mem_map.mp hd
      have := hdp x hx
      show X.A.units + 1 + 1 + (kd x).depth < cLine
      omega
    · have ko : KeyedOut false (xs.map kd) its (sortVals (dataKind s'.heap (xs.map kd)) false kA.toList its) := ⟨s'.heap, kA.toList, hal, rfl, rd⟩
      have eo := keyedOut_each (R := fun v x => RelV x v) kd ko (eachVals rv)
      have ov : Vals (xs.mergeSort (dataLe false kd)) (sortVals (dataKind s'.heap (xs.map kd)) false kA.toList its) := valsEach eo
      refine ⟨.ref D, upd H' D (.lst (xs.mergeSort (dataLe false kd))), ?_, rfl, hfin H' D sm pD.2.1⟩
      refine track J3 oD oS pD.2.1 pS.2.1 (fun b o h1 h2 eb => kpD b o h1 ((gk b h2).trans eb)) ⟨?_, _, c, ov, hD⟩
      rw [List.length_mergeSort]
      exact hz
/-- sorted(xs, key=x.m): the bound method at q, its def g keeps sp -/
def rSortMet (K : PySem.W.Frag) (g : Addr) (sp : Sp) : List V → List V → Hp → VK → Prop := fun vs zs H Q => ∃ (l q a : Addr) (xs : List V) (kd : V → PyData), vs = [.ref l] ∧ zs = [.ref q] ∧ SqL K H l xs ∧ H q = some (.met g a) ∧
  AllAlike (xs.map kd) ∧ Sortable (xs.map kd) ∧ (∀ x ∈ xs, (kd x).depth ≤ 50) ∧ (∀ H1 x, Same H H1 → x ∈ xs → sp [.ref a, x] H1 (fun v H2 => Same H1 H2 ∧ Dp K H2 v (kd x)) E0) ∧
  ∀ H2 p, Same H H2 → H2 p = none → Q (.ref p) (upd H2 p (.lst (xs.mergeSort (dataLe false kd))))
theorem cr_sortMet {CX : CXT} {k : Nat} {g : Addr} {fd : FuncData} {ps : List Str} {sp : Sp} (F : FnOk X.prog X.w X.K X.mg X.base CX k g fd ps sp) (hr : Room (k + 2) X.A) (hb : Binds X.K fd ps [])
    (hx : ∀ (H : Hp) (s : Shared) (e : Value) (s' : Shared), CX X.stack H s E0 e s' → False) : CallRK X (.builtin "sorted") [Str.ofString "key"] (rSortMet X.K g sp) := by
  intro pins s σ H xs0 zs us ws Q I r1 r2 h
  obtain ⟨l, q, a, xs, kd, rfl, rfl, hS, hq, hal, hsk, hdp, hkey, hfin⟩ := h
  obtain ⟨u1, rfl, e1⟩ := vals1 r1
  obtain ⟨u2, rfl, e2⟩ := vals1 r2
  cases (show u1 = Value.ref l from e1)
  cases (show u2 = Value.ref q from e2)
  refine sorted_key_run I hS hal hsk hdp (by have := hr.un; omega) (fun pins' H1 s1 x u J sm hm rx => ?_) hfin
  have hsp := hkey H1 x sm hm
  have r3 : Vals [V.ref a, x] [Value.ref a, u] := .cons rfl (.cons rx .nil)
  have hl : ([Value.ref a, u] ++ []).length = ps.length := by
    rw [← F.len _ _ _ _ hsp]
    rfl
  refine wpAny_call (call_met J (sm _ _ hq) (codeAny_mono (F.run X.A.in1.in1 X.stack s1 H1 ⟨[.ref a, u], []⟩ _ _ _ E0 (hr.in1).in1 J.env0.in1.in1 (hb s1 [.ref a, u] J.kIn hl) r3 hsp) fun r s' hq' => ?_))
  cases r with
  | error e => exact (hx H1 s1 e s' hq').elim
  | ok fl =>
    cases fl with
    | ret v => exact J.after hq'
    | next => exact False.elim hq'
    | brk => exact False.elim hq'
    | cont => exact False.elim hq'
/-- x.m as a value -/
def tMet (C g : Addr) (m : Str) (ta : TE) : TE := fun σ H Q => ta σ H fun x H1 => ∃ a dx fs, x = .ref a ∧ H1 a = some (.ins C dx fs) ∧ fs.lookup m = none ∧ ∀ q, H1 q = none → Q (.ref q) (upd H1 q (.met g a))
theorem pe_met {C g : Addr} {m : Str} {e : Expr} {pos : Pos} {ta : TE} (he : PE X e ta) (c : Cls X.K C) (k : BMeth X.K C m g) (hab : attributeBase e m X.env (eval e X.env) = eval e X.env := by rfl) : PE X (.Attribute e m pos) (tMet C g m ta) := by
  refine ⟨fun pins s σ H Q I h => ?_⟩
  refine attr_of hab (thn (he.run pins s σ H _ I h) fun u s1 ⟨x, H1, I1, rx, a, dx, fs, ex, ea, hl, q⟩ => ?_)
  subst ex
  exact op_getbound I1 ea c k hl rx q
end
end Wn
/-! systems: what stands in the heap, and its plain picture -/
namespace Wn
open PySem PySem.Spec PyProof.Rows L2 LamX He

/-! ### lists of pairs with whole numbers as keys -/
section
variable {α β : Type}
def lk : List (Int × α) → Int → Option α
  | [], _ => none
  | r :: l, n => if r.1 = n then some r.2 else lk l n
def pt : List (Int × α) → Int → α → List (Int × α)
  | [], n, x => [(n, x)]
  | r :: l, n, x => if r.1 = n then (n, x) :: l else r :: pt l n x
def dr (l : List (Int × α)) (n : Int) : List (Int × α) := l.filter fun r => decide (r.1 ≠ n)
def kv (g : α → V) (l : List (Int × α)) : List (Key × V) := l.map fun r => (Sum.inl r.1, g r.2)
theorem kv_len (g : α → V) (l : List (Int × α)) : (kv g l).length = l.length := List.length_map ..
theorem lk_pos {r : Int × α} {l : List (Int × α)} {n : Int} (e : r.1 = n) : lk (r :: l) n = some r.2 := if_pos e
theorem lk_neg {r : Int × α} {l : List (Int × α)} {n : Int} (e : ¬ r.1 = n) : lk (r :: l) n = lk l n := if_neg e
theorem val_kv (g : α → V) (n : Int) : ∀ l : List (Int × α), valV (kv g l) (Sum.inl n : Key) = (lk l n).map g
  | [] => rfl
  | r :: l => by
    show valV (((Sum.inl r.1 : Key), g r.2) :: kv g l) (Sum.inl n) = _
    by_cases e : r.1 = n
    · rw [valV_pos (show (Sum.inl r.1 : Key) = Sum.inl n by rw [e]), lk_pos e]
      rfl
    · rw [valV_neg (fun z => e (Sum.inl.inj z)), lk_neg e, val_kv g n l]
theorem lk_mem {n : Int} {x : α} : ∀ {l : List (Int × α)}, lk l n = some x → (n, x) ∈ l
  | [], h => nomatch h
  | r :: l, h => by
    by_cases e : r.1 = n
    · rw [lk_pos e] at h
      cases h
      subst e
      exact List.mem_cons_self
    · rw [lk_neg e] at h
      exact List.mem_cons_of_mem _ (lk_mem h)
theorem lk_none {n : Int} : ∀ {l : List (Int × α)}, lk l n = none ↔ n ∉ l.map (·.1)
  | [] => ⟨fun _ => List.not_mem_nil, fun _ => rfl⟩
  | r :: l => by
    by_cases e : r.1 = n
    · rw [lk_pos e]
      exact ⟨fun z => (nomatch z), fun z => (z (by simp [e])).elim⟩
    · rw [lk_neg e, lk_none]
      simp only [List.map_cons, List.mem_cons, not_or]
      exact ⟨fun z => ⟨fun q => e q.symm, z⟩, fun z => z.2⟩
theorem lk_some_of {n : Int} {l : List (Int × α)} (h : n ∈ l.map (·.1)) : ∃ x, lk l n = some x := by
  cases e : lk l n with
  | none => exact absurd h (lk_none.mp e)
  | some x => exact ⟨x, rfl⟩
theorem lk_of_mem {n : Int} {x : α} : ∀ {l : List (Int × α)}, (l.map (·.1)).Nodup → (n, x) ∈ l → lk l n = some x
  | [], _, h => nomatch h
  | r :: l, nd, h => by
    obtain ⟨h1, h2⟩ := List.nodup_cons.mp (show (r.1 :: l.map (·.1)).Nodup from nd)
    rcases List.mem_cons.mp h with z | z
    · subst z
      exact lk_pos rfl
    · rw [lk_neg fun e => h1 (e ▸ List.mem_map.mpr ⟨_, z, rfl⟩)]
      exact lk_of_mem h2 z
theorem put_kv (g : α → V) (n : Int) (x : α) {l : List (Int × α)} (h : lk l n = none) : putK (kv g l) (Sum.inl n : Key) (g x) = kv g (l ++ [(n, x)]) := by
  rw [putK_new _ (by rw [val_kv, h]; rfl)]
  unfold kv
  rw [List.map_append]
  rfl
theorem drop_kv (g : α → V) (n : Int) (l : List (Int × α)) : dropK (kv g l) (Sum.inl n : Key) = kv g (dr l n) := by
  unfold dropK kv dr
  rw [List.filter_map]
  congr 1
  refine List.filter_congr fun r _ => ?_
  refine decide_eq_decide.mpr ?_
  exact ⟨fun h z => h (congrArg Sum.inl z), fun h z => h (Sum.inl.inj z)⟩
theorem lk_app {n : Int} {l m : List (Int × α)} : lk (l ++ m) n = (lk l n).or (lk m n) := by
  induction l with
  | nil => rfl
  | cons r l ih =>
    show lk (r :: (l ++ m)) n = _
    by_cases e : r.1 = n
    · rw [lk_pos e, lk_pos e]
      rfl
    · rw [lk_neg e, lk_neg e, ih]
theorem lk_dr {n k : Int} (l : List (Int × α)) : lk (dr l n) k = if k = n then none else lk l k := by
  induction l with
  | nil =>
    unfold dr
    split <;> rfl
  | cons r l ih =>
    unfold dr at ih ⊢
    rw [List.filter_cons]
    by_cases e : r.1 = n
    · rw [if_neg (by simp [e]), ih]
      by_cases q : k = n
      · rw [if_pos q, if_pos q]
      · rw [if_neg q, if_neg q, lk_neg (fun z => q (z.symm.trans e))]
    · rw [if_pos (by simp [e])]
      by_cases q : r.1 = k
      · rw [lk_pos q, if_neg (fun z => e (q.trans z)), lk_pos q]
      · rw [lk_neg q, ih, lk_neg q]
end

/-! ### what stands in the heap -/
structure En where
  ad : Addr
  dx : Addr
  num : Int
  ser : Int
  lab : Int
  wrd : Str
  arm : Bool
inductive Tg where
  | src (dx : Addr) (u : Int) (f : Bool)
  | set (dx L R : Addr) (es : List En) (row : List Int)
structure Th where
  ad : Addr
  tg : Tg
structure Tb where
  ad : Addr
  rows : List (Int × Int)
structure Sy where
  p : Addr
  dx : Addr
  T : Addr
  G : Addr
  P : Int
  N : Int
  made : Int
  tabs : List (Int × Tb)
  ths : List (Int × Th)
def sysF (P N : Int) (T G : Addr) (m : Int) : List (Str × V) := [("process_limit", .int P), ("number_limit", .int N), ("tables", .ref T), ("things", .ref G), ("serials_made", .int m)]
def srcF (u : Int) (f : Bool) : List (Str × V) := [("unread", .int u), ("finished", .bl f)]
def setF (L R : Addr) : List (Str × V) := [("entries", .ref L), ("row", .ref R)]
def entF (e : En) : List (Str × V) := [("number", .int e.num), ("serial", .int e.ser), ("label", .int e.lab), ("word", .str e.wrd), ("armed", .bl e.arm)]
def tbV (t : Tb) : V := .ref t.ad
def thV (t : Th) : V := .ref t.ad
def TgAt (K : PySem.W.Frag) (H : Hp) (a : Addr) : Tg → Prop
  | .src dx u f => H a = some (.ins (ga K "Source") dx (srcF u f))
  | .set dx L R es row => H a = some (.ins (ga K "WaitSet") dx (setF L R)) ∧ H L = some (.lst (es.map fun e => .ref e.ad)) ∧ H R = some (.lst (row.map V.int)) ∧ ∀ e ∈ es, H e.ad = some (.ins (ga K "Entry") e.dx (entF e))
/-- the lists and the registrations of a thing -/
def Tg.lsts : Tg → List Addr
  | .src _ _ _ => []
  | .set _ L R _ _ => [L, R]
def Tg.ents : Tg → List Addr
  | .src _ _ _ => []
  | .set _ _ _ es _ => es.map (·.ad)
def Sy.dcs (s : Sy) : List Addr := s.T :: s.G :: s.tabs.map (·.2.ad)
def Sy.ths' (s : Sy) : List Addr := s.ths.map (·.2.ad)
def Sy.lsts (s : Sy) : List Addr := s.ths.flatMap (·.2.tg.lsts)
def Sy.ents (s : Sy) : List Addr := s.ths.flatMap (·.2.tg.ents)
/-- all that a system owns -/
def Sy.foot (s : Sy) : List Addr := s.p :: (s.dcs ++ (s.ths' ++ (s.lsts ++ s.ents)))
structure SyAt (K : PySem.W.Frag) (H : Hp) (s : Sy) : Prop where
  ob : H s.p = some (.ins (ga K "System") s.dx (sysF s.P s.N s.T s.G s.made))
  tb : H s.T = some (.dK (kv tbV s.tabs))
  tt : ∀ t ∈ s.tabs, H t.2.ad = some (.dK (kv V.int t.2.rows))
  gb : H s.G = some (.dK (kv thV s.ths))
  gt : ∀ t ∈ s.ths, TgAt K H t.2.ad t.2.tg
  nd : s.dcs.Nodup
  nt : s.ths'.Nodup
  nl : s.lsts.Nodup
  ne : s.ents.Nodup
/-! ### the plain picture -/
structure Ev where
  num : Int
  ser : Int
  lab : Int
  wrd : Str
  arm : Bool
  deriving DecidableEq
inductive Tv where
  | src (u : Int) (f : Bool)
  | set (es : List Ev) (row : List Int)
  deriving DecidableEq
structure Sv where
  P : Int
  N : Int
  made : Int
  tabs : List (Int × List (Int × Int))
  ths : List (Int × Tv)
def En.v (e : En) : Ev := ⟨e.num, e.ser, e.lab, e.wrd, e.arm⟩
def Tg.v : Tg → Tv
  | .src _ u f => .src u f
  | .set _ _ _ es row => .set (es.map En.v) row
def Sy.v (s : Sy) : Sv := ⟨s.P, s.N, s.made, s.tabs.map fun t => (t.1, t.2.rows), s.ths.map fun t => (t.1, t.2.tg.v)⟩
/-- behind a call: what is not the system's stands, what is the system's was or is new -/
structure Fr' (s s' : Sy) (H H' : Hp) : Prop where
  keep : ∀ b o, H b = some o → b ∉ s.foot → H' b = some o
  foot : ∀ b ∈ s'.foot, b ∈ s.foot ∨ H b = none
  same : s'.p = s.p
theorem Fr'.refl (s : Sy) (H : Hp) : Fr' s s H H := ⟨fun _ _ e _ => e, fun _ h => .inl h, rfl⟩
theorem Fr'.more {s s' : Sy} {H H' H'' : Hp} (f : Fr' s s' H H') (e : Same H' H'') : Fr' s s' H H'' := ⟨fun b o h n => e _ _ (f.keep b o h n), f.foot, f.same⟩
theorem Fr'.out {s s' : Sy} {H H' : Hp} (f : Fr' s s' H H') {b : Addr} {o : HO} (h : H b = some o) (n : b ∉ s.foot) : b ∉ s'.foot := fun m => by
  rcases f.foot b m with z | z
  · exact n z
  · rw [h] at z
    cases z
theorem Fr'.trans {s s1 s2 : Sy} {H H1 H2 : Hp} (f : Fr' s s1 H H1) (g : Fr' s1 s2 H1 H2) : Fr' s s2 H H2 := by
  refine ⟨fun b o h n => g.keep b o (f.keep b o h n) (f.out h n), fun b m => ?_, g.same.trans f.same⟩
  rcases g.foot b m with z | z
  · exact f.foot b z
  · by_cases n : b ∈ s.foot
    · exact .inl n
    · cases e : H b with
      | none => exact .inr rfl
      | some o =>
        rw [f.keep b o e n] at z
        cases z
theorem SyAt.same {K : PySem.W.Frag} {H H' : Hp} {s : Sy} (S : SyAt K H s) (e : ∀ b o, H b = some o → b ∈ s.foot → H' b = some o) : SyAt K H' s := by
  have fT : ∀ {b}, b ∈ s.dcs → b ∈ s.foot := fun h => List.mem_cons_of_mem _ (List.mem_append_left _ h)
  have fH : ∀ {b}, b ∈ s.ths' → b ∈ s.foot := fun h => List.mem_cons_of_mem _ (List.mem_append_right _ (List.mem_append_left _ h))
  have fL : ∀ {b}, b ∈ s.lsts → b ∈ s.foot := fun h => List.mem_cons_of_mem _ (List.mem_append_right _ (List.mem_append_right _ (List.mem_append_left _ h)))
  have fE : ∀ {b}, b ∈ s.ents → b ∈ s.foot := fun h => List.mem_cons_of_mem _ (List.mem_append_right _ (List.mem_append_right _ (List.mem_append_right _ h)))
  refine ⟨e _ _ S.ob List.mem_cons_self, e _ _ S.tb (fT List.mem_cons_self), fun t h => e _ _ (S.tt t h) (fT (List.mem_cons_of_mem _ (List.mem_cons_of_mem _ (List.mem_map.mpr ⟨t, h, rfl⟩)))), e _ _ S.gb (fT (List.mem_cons_of_mem _ List.mem_cons_self)),
    fun t h => ?_, S.nd, S.nt, S.nl, S.ne⟩
  have ha : t.2.ad ∈ s.foot := fH (List.mem_map.mpr ⟨t, h, rfl⟩)
  have q := S.gt t h
  cases ht : t.2.tg with
  | src dx u f =>
    rw [ht] at q
    exact e _ _ q ha
  | set dx L R es row =>
    rw [ht] at q
    obtain ⟨q1, q2, q3, q4⟩ := q
    have mL : ∀ b ∈ [L, R], b ∈ s.foot := fun b hb => fL (List.mem_flatMap.mpr ⟨t, h, by rw [ht]; exact hb⟩)
    exact ⟨e _ _ q1 ha, e _ _ q2 (mL L (by simp)), e _ _ q3 (mL R (by simp)), fun x hx => e _ _ (q4 x hx) (fE (List.mem_flatMap.mpr ⟨t, h, by rw [ht]; exact List.mem_map.mpr ⟨x, hx, rfl⟩⟩))⟩
theorem SyAt.ext {K : PySem.W.Frag} {H H' : Hp} {s : Sy} (S : SyAt K H s) (e : Same H H') : SyAt K H' s := S.same fun b o h _ => e b o h
end Wn
/-! plain facts of systems -/
namespace Wn
open PySem PySem.Spec PyProof.Rows L2 LamX He

/-! ### sorted lists of whole numbers -/
def srtI (l : List Int) : List Int := l.mergeSort fun a b => decide (a ≤ b)
theorem perm_eq : ∀ {l m : List Int}, l.Perm m → l.Pairwise (· ≤ ·) → m.Pairwise (· ≤ ·) → l = m
  | [], m, h, _, _ => by
    have := h.length_eq
    cases m with
    | nil => rfl
    | cons a m => cases this
  | a :: l, [], h, _, _ => by
    have := h.length_eq
    cases this
  | a :: l, b :: m, h, h1, h2 => by
    obtain ⟨a1, a2⟩ := List.pairwise_cons.mp h1
    obtain ⟨b1, b2⟩ := List.pairwise_cons.mp h2
    have ab : a = b := by
      have x1 : a ∈ b :: m := h.subset List.mem_cons_self
      have x2 : b ∈ a :: l := h.symm.subset List.mem_cons_self
      rcases List.mem_cons.mp x1 with z | z
      · exact z
      · rcases List.mem_cons.mp x2 with y | y
        · exact y.symm
        · exact Int.le_antisymm (a1 b y) (b1 a z)
    subst ab
    rw [perm_eq (List.Perm.cons_inv h) a2 b2]
theorem srtI_perm (l : List Int) : (srtI l).Perm l := List.mergeSort_perm _ _
theorem srtI_pw (l : List Int) : (srtI l).Pairwise (· ≤ ·) := by
  have h := List.pairwise_mergeSort (le := fun a b : Int => decide (a ≤ b)) (fun a b c h1 h2 => decide_eq_true (Int.le_trans (of_decide_eq_true h1) (of_decide_eq_true h2))) (fun a b => by
    rcases Int.le_total a b with h | h
    · simp [h]
    · simp [h]) l
  exact h.imp fun z => of_decide_eq_true z
theorem srtI_eq {l m : List Int} (h : m.Perm l) (hs : m.Pairwise (· ≤ ·)) : m = srtI l := perm_eq (h.trans (srtI_perm l).symm) hs (srtI_pw l)
theorem srtI_mem {l : List Int} {x : Int} : x ∈ srtI l ↔ x ∈ l := (srtI_perm l).mem_iff
theorem srtI_len (l : List Int) : (srtI l).length = l.length := (srtI_perm l).length_eq
/-- numbers below n, none twice, are at most n -/
theorem few : ∀ (n : Nat) {l : List Int}, l.Nodup → (∀ x ∈ l, 0 ≤ x ∧ x < (n : Int)) → l.length ≤ n
  | 0, l, _, h => by
    cases l with
    | nil => exact Nat.le_refl _
    | cons a l =>
      have := h a List.mem_cons_self
      omega
  | n + 1, l, nd, h => by
    have h1 := few n (l := l.filter fun x => decide (x ≠ (n : Int))) (nd.filter _) (fun x hx => by
      obtain ⟨h1, h2⟩ := List.mem_filter.mp hx
      have h3 := h x h1
      have h4 : x ≠ (n : Int) := of_decide_eq_true h2
      omega)
    have h2 : l.length ≤ (l.filter fun x => decide (x ≠ (n : Int))).length + 1 := by
      clear h h1
      induction l with
      | nil => exact Nat.zero_le _
      | cons a l ih =>
        obtain ⟨n1, n2⟩ := List.nodup_cons.mp nd
        by_cases e : a = (n : Int)
        · have : l.filter (fun x => decide (x ≠ (n : Int))) = l := List.filter_eq_self.mpr fun x hx => decide_eq_true fun z => n1 (by rw [e, ← z]; exact hx)
          rw [List.filter_cons, if_neg (by simp [e]), this]
          exact Nat.le_refl _
        · rw [List.filter_cons, if_pos (by simp [e])]
          have := ih n2
          simp only [List.length_cons]
          omega
    omega

/-! ### well formed systems -/
def SetOk (v : Sv) (es : List Ev) (row : List Int) : Prop :=
  (es.map (·.lab)).Nodup ∧ (es.map fun e => (e.num, e.ser)).Nodup ∧ row.Nodup ∧ (∀ x ∈ row, ∃ e ∈ es, e.lab = x ∧ e.arm = true) ∧ (∀ e ∈ es, ∃ u f, lk v.ths e.ser = some (.src u f)) ∧ es.length ≤ mostE
theorem mostE_le : mostE ≤ 1000000 := by decide
/-- what is known of the class of registrations -/
structure EntF (K : PySem.W.Frag) : Prop where
  c : Cls K (ga K "Entry")
  number : NoAttr K (ga K "Entry") "number"
  serial : NoAttr K (ga K "Entry") "serial"
  label : NoAttr K (ga K "Entry") "label"
  word : NoAttr K (ga K "Entry") "word"
  armed : NoAttr K (ga K "Entry") "armed"
structure WF (v : Sv) : Prop where
  p : 2 ≤ v.P ∧ v.P ≤ 6
  n : 3 ≤ v.N ∧ v.N ≤ 8
  ndp : (v.tabs.map (·.1)).Nodup
  rp : ∀ t ∈ v.tabs, 0 ≤ t.1 ∧ t.1 < v.P
  ndn : ∀ t ∈ v.tabs, (t.2.map (·.1)).Nodup
  rn : ∀ t ∈ v.tabs, ∀ r ∈ t.2, 0 ≤ r.1 ∧ r.1 < v.N
  th : ∀ t ∈ v.tabs, ∀ r ∈ t.2, r.2 ∈ v.ths.map (·.1)
  nds : (v.ths.map (·.1)).Nodup
  rs : ∀ t ∈ v.ths, 0 ≤ t.1 ∧ t.1 < v.made
  held : ∀ t ∈ v.ths, ∃ u ∈ v.tabs, ∃ r ∈ u.2, r.2 = t.1
  ok : ∀ t ∈ v.ths, ∀ es row, t.2 = .set es row → SetOk v es row
/-- what the tables and serials alone say -/
structure WF0 (v : Sv) : Prop where
  p : 2 ≤ v.P ∧ v.P ≤ 6
  n : 3 ≤ v.N ∧ v.N ≤ 8
  ndp : (v.tabs.map (·.1)).Nodup
  rp : ∀ t ∈ v.tabs, 0 ≤ t.1 ∧ t.1 < v.P
  ndn : ∀ t ∈ v.tabs, (t.2.map (·.1)).Nodup
  rn : ∀ t ∈ v.tabs, ∀ r ∈ t.2, 0 ≤ r.1 ∧ r.1 < v.N
  nds : (v.ths.map (·.1)).Nodup
  rs : ∀ t ∈ v.ths, 0 ≤ t.1 ∧ t.1 < v.made
theorem WF.w0 {v : Sv} (h : WF v) : WF0 v := ⟨h.p, h.n, h.ndp, h.rp, h.ndn, h.rn, h.nds, h.rs⟩
theorem WF0.tabs6 {v : Sv} (h : WF0 v) : v.tabs.length ≤ 6 := by
  have h1 := few v.P.toNat (l := v.tabs.map (·.1)) h.ndp (fun x hx => by
    obtain ⟨t, ht, rfl⟩ := List.mem_map.mp hx
    have := h.rp t ht
    omega)
  rw [List.length_map] at h1
  have := h.p
  omega
theorem WF0.rows8 {v : Sv} (h : WF0 v) {t : Int × List (Int × Int)} (ht : t ∈ v.tabs) : t.2.length ≤ 8 := by
  have h1 := few v.N.toNat (l := t.2.map (·.1)) (h.ndn t ht) (fun x hx => by
    obtain ⟨r, hr, rfl⟩ := List.mem_map.mp hx
    have := h.rn t ht r hr
    omega)
  rw [List.length_map] at h1
  have := h.n
  omega
theorem WF0.thsM {v : Sv} (h : WF0 v) : v.ths.length ≤ v.made.toNat := by
  have h1 := few v.made.toNat (l := v.ths.map (·.1)) h.nds (fun x hx => by
    obtain ⟨t, ht, rfl⟩ := List.mem_map.mp hx
    have := h.rs t ht
    omega)
  rw [List.length_map] at h1
  exact h1
theorem WF.tabs6 {v : Sv} (h : WF v) : v.tabs.length ≤ 6 := h.w0.tabs6
theorem WF.rows8 {v : Sv} (h : WF v) {t : Int × List (Int × Int)} (ht : t ∈ v.tabs) : t.2.length ≤ 8 := h.w0.rows8 ht
theorem WF.thsM {v : Sv} (h : WF v) : v.ths.length ≤ v.made.toNat := h.w0.thsM
theorem WF.new {P N : Int} (h1 : 2 ≤ P ∧ P ≤ 6) (h2 : 3 ≤ N ∧ N ≤ 8) : WF ⟨P, N, 0, [(0, [])], []⟩ where
  p := h1
  n := h2
  ndp := by simp
  rp := fun t ht => by
    cases List.mem_singleton.mp ht
    show (0 : Int) ≤ 0 ∧ (0 : Int) < P
    omega
  ndn := fun t ht => by
    cases List.mem_singleton.mp ht
    exact List.nodup_nil
  rn := fun t ht r hr => by
    cases List.mem_singleton.mp ht
    cases hr
  th := fun t ht r hr => by
    cases List.mem_singleton.mp ht
    cases hr
  nds := List.nodup_nil
  rs := fun t ht => nomatch ht
  held := fun t ht => nomatch ht
  ok := fun t ht => nomatch ht
/-- the picture of the tables and of the things -/
theorem lk_map {α β : Type} (f : α → β) (n : Int) : ∀ l : List (Int × α), lk (l.map fun r => (r.1, f r.2)) n = (lk l n).map f
  | [] => rfl
  | r :: l => by
    show lk ((r.1, f r.2) :: l.map fun r => (r.1, f r.2)) n = _
    by_cases e : r.1 = n
    · rw [lk_pos (r := (r.1, f r.2)) e, lk_pos e]
      rfl
    · rw [lk_neg (r := (r.1, f r.2)) e, lk_neg e, lk_map f n l]
theorem Sy.tabs_v (s : Sy) (n : Int) : lk s.v.tabs n = (lk s.tabs n).map (·.rows) := lk_map (fun t : Tb => t.rows) n s.tabs
theorem Sy.ths_v (s : Sy) (n : Int) : lk s.v.ths n = (lk s.ths n).map (·.tg.v) := lk_map (fun t : Th => t.tg.v) n s.ths
theorem Sy.pids (s : Sy) : s.v.tabs.map (·.1) = s.tabs.map (·.1) := by
  show (s.tabs.map fun t => (t.1, t.2.rows)).map (·.1) = _
  rw [List.map_map]
  rfl
theorem Sy.sers (s : Sy) : s.v.ths.map (·.1) = s.ths.map (·.1) := by
  show (s.ths.map fun t => (t.1, t.2.tg.v)).map (·.1) = _
  rw [List.map_map]
  rfl
/-- the lowest free number -/
def lowFree (used : List Int) (n : Int) : Option Int := ((List.range n.toNat).map fun (k : Nat) => (k : Int)).find? fun k => decide (k ∉ used)
/-- the numbers that mean a thing -/
def holdsIn (ser p : Int) (rows : List (Int × Int)) : List (Int × Int) := ((srtI (rows.map (·.1))).filter fun n => decide (lk rows n = some ser)).map fun n => (p, n)
def holds (tabs : List (Int × List (Int × Int))) (ser : Int) : List (Int × Int) := (srtI (tabs.map (·.1))).flatMap fun p => match lk tabs p with
  | none => []
  | some rows => holdsIn ser p rows
end Wn
namespace Wn
open PySem PySem.Spec PyProof.Rows L2 LamX He
/-! ### things are placed -/
section
variable {α β : Type}
def upAt (l : List (Int × α)) (i : Int) (f : α → α) : List (Int × α) := l.map fun t => if t.1 = i then (t.1, f t.2) else t
theorem upAt_keys (l : List (Int × α)) (i : Int) (f : α → α) : (upAt l i f).map (·.1) = l.map (·.1) := by
  unfold upAt
  rw [List.map_map]
  refine List.map_congr_left fun t _ => ?_
  show (if t.1 = i then (t.1, f t.2) else t).1 = t.1
  split <;> rfl
theorem upAt_mem {l : List (Int × α)} {i : Int} {f : α → α} {t : Int × α} (h : t ∈ upAt l i f) : (t.1 ≠ i ∧ t ∈ l) ∨ ∃ x, (i, x) ∈ l ∧ t = (i, f x) := by
  obtain ⟨u, hu, rfl⟩ := List.mem_map.mp h
  by_cases e : u.1 = i
  · right
    refine ⟨u.2, ?_, ?_⟩
    · rw [← e]; exact hu
    · rw [if_pos e, e]
  · left
    rw [if_neg e]
    exact ⟨e, hu⟩
theorem upAt_lk (l : List (Int × α)) (i n : Int) (f : α → α) : lk (upAt l i f) n = if n = i then (lk l n).map f else lk l n := by
  induction l with
  | nil =>
    show none = _
    split <;> rfl
  | cons r l ih =>
    show lk ((if r.1 = i then (r.1, f r.2) else r) :: upAt l i f) n = _
    by_cases e : r.1 = n
    · by_cases q : r.1 = i
      · rw [if_pos q, lk_pos (r := (r.1, f r.2)) e, lk_pos e, if_pos (e ▸ q)]
        rfl
      · rw [if_neg q, lk_pos e, lk_pos e, if_neg (fun z => q (e.trans z))]
    · rw [lk_neg (r := if r.1 = i then (r.1, f r.2) else r) (by split <;> exact e), ih, lk_neg e]
theorem upAt_map (g : α → β) (f : α → α) (f' : β → β) (h : ∀ x, g (f x) = f' (g x)) (l : List (Int × α)) (i : Int) : (upAt l i f).map (fun t => (t.1, g t.2)) = upAt (l.map fun t => (t.1, g t.2)) i f' := by
  unfold upAt
  rw [List.map_map, List.map_map]
  refine List.map_congr_left fun t _ => ?_
  show ((if t.1 = i then (t.1, f t.2) else t).1, g (if t.1 = i then (t.1, f t.2) else t).2) = if t.1 = i then (t.1, f' (g t.2)) else (t.1, g t.2)
  split
  · rw [h]
  · rfl
theorem upAt_kv (g : α → V) (f : α → α) (h : ∀ x, g (f x) = g x) (l : List (Int × α)) (i : Int) : kv g (upAt l i f) = kv g l := by
  unfold upAt kv
  rw [List.map_map]
  refine List.map_congr_left fun t _ => ?_
  show (Sum.inl (if t.1 = i then (t.1, f t.2) else t).1, g (if t.1 = i then (t.1, f t.2) else t).2) = ((Sum.inl t.1 : Key), g t.2)
  split
  · rw [h]
  · rfl
end
/-- the rows of one table are changed -/
def Tb.fn (f : List (Int × Int) → List (Int × Int)) (t : Tb) : Tb := ⟨t.ad, f t.rows⟩
theorem Sy.in_dcs {s : Sy} {b : Addr} (h : b ∈ s.dcs) : b ∈ s.foot := List.mem_cons_of_mem _ (List.mem_append_left _ h)
theorem Sy.in_ths {s : Sy} {b : Addr} (h : b ∈ s.ths') : b ∈ s.foot := List.mem_cons_of_mem _ (List.mem_append_right _ (List.mem_append_left _ h))
theorem Sy.in_lsts {s : Sy} {b : Addr} (h : b ∈ s.lsts) : b ∈ s.foot := List.mem_cons_of_mem _ (List.mem_append_right _ (List.mem_append_right _ (List.mem_append_left _ h)))
theorem Sy.in_ents {s : Sy} {b : Addr} (h : b ∈ s.ents) : b ∈ s.foot := List.mem_cons_of_mem _ (List.mem_append_right _ (List.mem_append_right _ (List.mem_append_right _ h)))
theorem Sy.foot_cases {s : Sy} {b : Addr} (h : b ∈ s.foot) : b = s.p ∨ b ∈ s.dcs ∨ b ∈ s.ths' ∨ b ∈ s.lsts ∨ b ∈ s.ents := by
  rcases List.mem_cons.mp h with h | h
  · exact .inl h
  · rcases List.mem_append.mp h with h | h
    · exact .inr (.inl h)
    · rcases List.mem_append.mp h with h | h
      · exact .inr (.inr (.inl h))
      · rcases List.mem_append.mp h with h | h
        · exact .inr (.inr (.inr (.inl h)))
        · exact .inr (.inr (.inr (.inr h)))
section
variable {K : PySem.W.Frag} {H : Hp} {s : Sy}
theorem SyAt.dc (S : SyAt K H s) {b : Addr} (h : b ∈ s.dcs) : ∃ kvs, H b = some (.dK kvs) := by
  rcases List.mem_cons.mp h with z | z
  · exact ⟨_, z ▸ S.tb⟩
  · rcases List.mem_cons.mp z with z | z
    · exact ⟨_, z ▸ S.gb⟩
    · obtain ⟨t, ht, rfl⟩ := List.mem_map.mp z
      exact ⟨_, S.tt t ht⟩
theorem SyAt.th' (S : SyAt K H s) {b : Addr} (h : b ∈ s.ths') : ∃ C dx fs, fs.lookup ("tables" : Str) = none ∧ fs.lookup ("label" : Str) = none ∧ H b = some (.ins C dx fs) := by
  obtain ⟨t, ht, rfl⟩ := List.mem_map.mp h
  have q := S.gt t ht
  cases e : t.2.tg with
  | src dx u f =>
    rw [e] at q
    exact ⟨_, _, _, rfl, rfl, q⟩
  | set dx L R es row =>
    rw [e] at q
    exact ⟨_, _, _, rfl, rfl, q.1⟩
theorem SyAt.ls (S : SyAt K H s) {b : Addr} (h : b ∈ s.lsts) : ∃ xs, H b = some (.lst xs) := by
  obtain ⟨t, ht, hb⟩ := List.mem_flatMap.mp h
  have q := S.gt t ht
  cases e : t.2.tg with
  | src dx u f =>
    rw [e] at hb
    cases hb
  | set dx L R es row =>
    rw [e] at q hb
    rcases List.mem_cons.mp hb with z | z
    · exact ⟨_, z ▸ q.2.1⟩
    · cases List.mem_singleton.mp z
      exact ⟨_, q.2.2.1⟩
theorem SyAt.en (S : SyAt K H s) {b : Addr} (h : b ∈ s.ents) : ∃ dx fs, fs.lookup ("tables" : Str) = none ∧ (fs.lookup ("label" : Str)).isSome = true ∧ H b = some (.ins (ga K "Entry") dx fs) := by
  obtain ⟨t, ht, hb⟩ := List.mem_flatMap.mp h
  have q := S.gt t ht
  cases e : t.2.tg with
  | src dx u f =>
    rw [e] at hb
    cases hb
  | set dx L R es row =>
    rw [e] at q hb
    obtain ⟨x, hx, rfl⟩ := List.mem_map.mp hb
    exact ⟨_, _, rfl, rfl, q.2.2.2 x hx⟩
theorem SyAt.some_of (S : SyAt K H s) {b : Addr} (h : b ∈ s.foot) : ∃ o, H b = some o := by
  rcases Sy.foot_cases h with z | z | z | z | z
  · exact ⟨_, z ▸ S.ob⟩
  · obtain ⟨_, q⟩ := S.dc z
    exact ⟨_, q⟩
  · obtain ⟨_, _, _, _, _, q⟩ := S.th' z
    exact ⟨_, q⟩
  · obtain ⟨_, q⟩ := S.ls z
    exact ⟨_, q⟩
  · obtain ⟨_, _, _, _, q⟩ := S.en z
    exact ⟨_, q⟩
/-- a table's rows are changed -/
theorem SyAt.rows (S : SyAt K H s) {i : Int} {t : Tb} {f : List (Int × Int) → List (Int × Int)} (hl : lk s.tabs i = some t) (nd : (s.tabs.map (·.1)).Nodup) :
    SyAt K (upd H t.ad (.dK (kv V.int (f t.rows)))) { s with tabs := upAt s.tabs i (Tb.fn f) } := by
  have hm := lk_mem hl
  have ht := S.tt _ hm
  have np : s.p ≠ t.ad := ne_of S.ob ht (fun z => nomatch z)
  obtain ⟨d1, d2⟩ := List.nodup_cons.mp S.nd
  obtain ⟨d3, d4⟩ := List.nodup_cons.mp d2
  have mA : t.ad ∈ s.tabs.map (·.2.ad) := List.mem_map.mpr ⟨_, hm, rfl⟩
  have nT : s.T ≠ t.ad := fun z => d1 (z ▸ List.mem_cons_of_mem _ mA)
  have nG : s.G ≠ t.ad := fun z => d3 (z ▸ mA)
  have ads : (upAt s.tabs i (Tb.fn f)).map (·.2.ad) = s.tabs.map (·.2.ad) := by
    unfold upAt
    rw [List.map_map]
    refine List.map_congr_left fun u _ => ?_
    show (if u.1 = i then (u.1, Tb.fn f u.2) else u).2.ad = u.2.ad
    split <;> rfl
  refine ⟨by rw [upd_ne np]; exact S.ob, ?_, fun u hu => ?_, by rw [upd_ne nG]; exact S.gb, fun u hu => ?_, ?_, S.nt, S.nl, S.ne⟩
  · rw [upd_ne nT]
    show H s.T = some (.dK (kv tbV (upAt s.tabs i (Tb.fn f))))
    rw [upAt_kv tbV (Tb.fn f) (fun _ => rfl)]
    exact S.tb
  · rcases upAt_mem hu with ⟨ni, hm'⟩ | ⟨x, hx, rfl⟩
    · have na : u.2.ad ≠ t.ad := fun z => by
        have e1 : u = (i, t) := inj_of_nodup d4 hm' hm z
        exact ni (by rw [e1])
      rw [upd_ne na]
      exact S.tt u hm'
    · have e : x = t := by
        have := lk_of_mem nd hx
        rw [hl] at this
        exact (Option.some.inj this).symm
      subst e
      exact upd_same
  · have q := S.gt u hu
    have hk : ∀ {b : Addr} {o : HO}, H b = some o → (∀ kvs, o ≠ .dK kvs) → upd H t.ad (.dK (kv V.int (f t.rows))) b = some o := fun {b o} e ne => by
      rw [upd_ne (ne_of e ht (ne _))]
      exact e
    cases e : u.2.tg with
    | src dx v fi =>
      rw [e] at q
      exact hk q fun _ z => nomatch z
    | set dx L R es row =>
      rw [e] at q
      exact ⟨hk q.1 fun _ z => (nomatch z), hk q.2.1 fun _ z => (nomatch z), hk q.2.2.1 fun _ z => (nomatch z), fun x hx => hk (q.2.2.2 x hx) fun _ z => (nomatch z)⟩
  · show (s.T :: s.G :: (upAt s.tabs i (Tb.fn f)).map (·.2.ad)).Nodup
    rw [ads]
    exact S.nd
where
  inj_of_nodup {l : List (Int × Tb)} (nd : (l.map (·.2.ad)).Nodup) {x y : Int × Tb} (hx : x ∈ l) (hy : y ∈ l) (e : x.2.ad = y.2.ad) : x = y := by
    induction l with
    | nil => cases hx
    | cons a l ih =>
      obtain ⟨n1, n2⟩ := List.nodup_cons.mp (show (a.2.ad :: l.map (·.2.ad)).Nodup from nd)
      rcases List.mem_cons.mp hx with zx | zx
      · rcases List.mem_cons.mp hy with zy | zy
        · rw [zx, zy]
        · subst zx
          exact (n1 (e ▸ List.mem_map.mpr ⟨_, zy, rfl⟩)).elim
      · rcases List.mem_cons.mp hy with zy | zy
        · subst zy
          exact (n1 (e ▸ List.mem_map.mpr ⟨_, zx, rfl⟩)).elim
        · exact ih n2 zx zy
end

section
variable {K : PySem.W.Frag} {H : Hp} {s : Sy}
/-- what the object at a is not: a change there keeps the things -/
theorem TgAt.keep {a b : Addr} {o : HO} {tg : Tg} (h : TgAt K H a tg) (ha : a ≠ b) (hl : ∀ x ∈ tg.lsts, x ≠ b) (he : ∀ x ∈ tg.ents, x ≠ b) : TgAt K (upd H b o) a tg := by
  cases tg with
  | src dx u f =>
    show upd H b o a = _
    rw [upd_ne ha]
    exact h
  | set dx L R es row =>
    obtain ⟨q1, q2, q3, q4⟩ := h
    refine ⟨by rw [upd_ne ha]; exact q1, by rw [upd_ne (hl L (by simp [Tg.lsts]))]; exact q2, by rw [upd_ne (hl R (by simp [Tg.lsts]))]; exact q3, fun e h => ?_⟩
    rw [upd_ne (he e.ad (List.mem_map.mpr ⟨e, h, rfl⟩))]
    exact q4 e h
/-- the parts of a system stand apart -/
theorem ins_ne {C C' dx dx' : Addr} {fs fs' : List (Str × V)} (f : Str) (h : fs.lookup f ≠ fs'.lookup f) : HO.ins C dx fs ≠ HO.ins C' dx' fs' := fun z => by
  cases z
  exact h rfl
theorem SyAt.np (S : SyAt K H s) {b : Addr} (h : b ∈ s.dcs ∨ b ∈ s.ths' ∨ b ∈ s.lsts ∨ b ∈ s.ents) : b ≠ s.p := by
  rcases h with z | z | z | z
  · obtain ⟨_, q⟩ := S.dc z
    exact ne_of q S.ob fun z => nomatch z
  · obtain ⟨_, _, _, e, _, q⟩ := S.th' z
    exact ne_of q S.ob (ins_ne "tables" (by rw [e]; exact fun z => nomatch z))
  · obtain ⟨_, q⟩ := S.ls z
    exact ne_of q S.ob fun z => nomatch z
  · obtain ⟨_, _, e, _, q⟩ := S.en z
    exact ne_of q S.ob (ins_ne "tables" (by rw [e]; exact fun z => nomatch z))
theorem Sy.th_in {s : Sy} {t : Int × Th} (h : t ∈ s.ths) : t.2.ad ∈ s.ths' := List.mem_map.mpr ⟨t, h, rfl⟩
theorem Sy.ls_in {s : Sy} {t : Int × Th} (h : t ∈ s.ths) {x : Addr} (hx : x ∈ t.2.tg.lsts) : x ∈ s.lsts := List.mem_flatMap.mpr ⟨t, h, hx⟩
theorem Sy.en_in {s : Sy} {t : Int × Th} (h : t ∈ s.ths) {x : Addr} (hx : x ∈ t.2.tg.ents) : x ∈ s.ents := List.mem_flatMap.mpr ⟨t, h, hx⟩
theorem SyAt.dc_th (S : SyAt K H s) {a b : Addr} (ha : a ∈ s.dcs) (hb : b ∈ s.ths' ∨ b ∈ s.lsts ∨ b ∈ s.ents) : b ≠ a := by
  obtain ⟨_, q⟩ := S.dc ha
  rcases hb with z | z | z
  · obtain ⟨_, _, _, _, _, q'⟩ := S.th' z
    exact ne_of q' q fun z => nomatch z
  · obtain ⟨_, q'⟩ := S.ls z
    exact ne_of q' q fun z => nomatch z
  · obtain ⟨_, _, _, _, q'⟩ := S.en z
    exact ne_of q' q fun z => nomatch z
/-- the counter -/
theorem SyAt.count (S : SyAt K H s) (m : Int) : SyAt K (upd H s.p (.ins (ga K "System") s.dx (sysF s.P s.N s.T s.G m))) { s with made := m } := by
  refine ⟨upd_same, by rw [upd_ne (S.np (.inl List.mem_cons_self))]; exact S.tb, fun t h => ?_, by rw [upd_ne (S.np (.inl (List.mem_cons_of_mem _ List.mem_cons_self)))]; exact S.gb, fun t h => ?_, S.nd, S.nt, S.nl, S.ne⟩
  · rw [upd_ne (S.np (.inl (List.mem_cons_of_mem _ (List.mem_cons_of_mem _ (List.mem_map.mpr ⟨t, h, rfl⟩)))))]
    exact S.tt t h
  · exact (S.gt t h).keep (S.np (.inr (.inl (Sy.th_in h)))) (fun x hx => S.np (.inr (.inr (.inl (Sy.ls_in h hx))))) (fun x hx => S.np (.inr (.inr (.inr (Sy.en_in h hx)))))
/-- a new thing, which stands apart, is kept under a new serial -/
theorem SyAt.thing (S : SyAt K H s) {n : Int} {t : Th} (ht : TgAt K H t.ad t.tg) (h1 : t.ad ∉ s.foot) (h2 : ∀ x ∈ t.tg.lsts, x ∉ s.foot) (h3 : ∀ x ∈ t.tg.ents, x ∉ s.foot) (n2 : t.tg.lsts.Nodup) (n3 : t.tg.ents.Nodup) :
    SyAt K (upd H s.G (.dK (kv thV (s.ths ++ [(n, t)])))) { s with ths := s.ths ++ [(n, t)] } := by
  have mG : s.G ∈ s.dcs := List.mem_cons_of_mem _ List.mem_cons_self
  obtain ⟨d1, d2⟩ := List.nodup_cons.mp S.nd
  obtain ⟨d3, d4⟩ := List.nodup_cons.mp d2
  have fG : s.G ∈ s.foot := Sy.in_dcs mG
  have nTG : s.T ≠ s.G := fun z => d1 (by rw [z]; exact List.mem_cons_self)
  have nG : ∀ {u : Int × Tb}, u ∈ s.tabs → u.2.ad ≠ s.G := fun {u} h z => d3 (by rw [← z]; exact List.mem_map.mpr ⟨u, h, rfl⟩)
  refine ⟨by rw [upd_ne (Ne.symm (S.np (.inl mG)))]; exact S.ob, by rw [upd_ne nTG]; exact S.tb, fun u h => ?_, upd_same, fun u h => ?_, S.nd, ?_, ?_, ?_⟩
  · rw [upd_ne (nG h)]
    exact S.tt u h
  · rcases List.mem_append.mp h with h | h
    · exact (S.gt u h).keep (S.dc_th mG (.inl (Sy.th_in h))) (fun x hx => S.dc_th mG (.inr (.inl (Sy.ls_in h hx)))) (fun x hx => S.dc_th mG (.inr (.inr (Sy.en_in h hx))))
    · cases List.mem_singleton.mp h
      exact ht.keep (fun z => h1 (z ▸ fG)) (fun x hx z => h2 x hx (z ▸ fG)) (fun x hx z => h3 x hx (z ▸ fG))
  · show ((s.ths ++ [(n, t)]).map (·.2.ad)).Nodup
    rw [List.map_append]
    exact List.nodup_append.mpr ⟨S.nt, by simp, fun a ha b hb z => by
      have z' : a = t.ad := z.trans (List.mem_singleton.mp hb)
      exact h1 (by rw [← z']; exact Sy.in_ths ha)⟩
  · show ((s.ths ++ [(n, t)]).flatMap (·.2.tg.lsts)).Nodup
    rw [List.flatMap_append]
    refine List.nodup_append.mpr ⟨S.nl, by simpa using n2, fun a ha b hb z => ?_⟩
    have hb' : b ∈ t.tg.lsts := by simpa using hb
    exact h2 b hb' (z ▸ Sy.in_lsts ha)
  · show ((s.ths ++ [(n, t)]).flatMap (·.2.tg.ents)).Nodup
    rw [List.flatMap_append]
    refine List.nodup_append.mpr ⟨S.ne, by simpa using n3, fun a ha b hb z => ?_⟩
    have hb' : b ∈ t.tg.ents := by simpa using hb
    exact h3 b hb' (z ▸ Sy.in_ents ha)
end

/-! ### the pictures of these changes -/
def Sv.place (v : Sv) (i n : Int) (tv : Tv) : Sv := { v with made := v.made + 1, tabs := upAt v.tabs i (· ++ [(n, v.made)]), ths := v.ths ++ [(v.made, tv)] }
def Tv.fresh : Tv → Prop
  | .src u f => 0 ≤ u
  | .set es row => es = [] ∧ row = []
theorem WF.place {v : Sv} (h : WF v) {i n : Int} {rows : List (Int × Int)} {tv : Tv} (hl : lk v.tabs i = some rows) (hn : 0 ≤ n ∧ n < v.N ∧ n ∉ rows.map (·.1)) (hf : tv.fresh) (hm : 0 ≤ v.made) : WF (v.place i n tv) := by
  have mem : (i, rows) ∈ v.tabs := lk_mem hl
  have one : ∀ {t : Int × List (Int × Int)}, t ∈ (v.place i n tv).tabs → t ∈ v.tabs ∨ t = (i, rows ++ [(n, v.made)]) := fun {t} ht => by
    rcases upAt_mem (show t ∈ upAt v.tabs i (· ++ [(n, v.made)]) from ht) with ⟨_, z⟩ | ⟨x, hx, rfl⟩
    · exact .inl z
    · have := lk_of_mem h.ndp hx
      rw [hl] at this
      cases this
      exact .inr rfl
  have old : ∀ {k : Int}, k ∈ v.ths.map (·.1) → k ∈ (v.place i n tv).ths.map (·.1) := fun {k} hk => by
    show k ∈ (v.ths ++ [(v.made, tv)]).map (·.1)
    rw [List.map_append]
    exact List.mem_append_left _ hk
  have nm : v.made ∉ v.ths.map (·.1) := fun z => by
    obtain ⟨t, ht, e⟩ := List.mem_map.mp z
    have := h.rs t ht
    omega
  refine ⟨h.p, h.n, ?_, fun t ht => ?_, fun t ht => ?_, fun t ht r hr => ?_, fun t ht r hr => ?_, ?_, fun t ht => ?_, fun t ht => ?_, fun t ht es row e => ?_⟩
  · show ((upAt v.tabs i (· ++ [(n, v.made)])).map (·.1)).Nodup
    rw [upAt_keys]
    exact h.ndp
  · rcases one ht with z | z
    · exact h.rp t z
    · subst z
      exact h.rp (i, rows) mem
  · rcases one ht with z | z
    · exact h.ndn t z
    · subst z
      show ((rows ++ [(n, v.made)]).map (·.1)).Nodup
      rw [List.map_append]
      exact nd_snoc (h.ndn (i, rows) mem) hn.2.2
  · rcases one ht with z | z
    · exact h.rn t z r hr
    · subst z
      rcases List.mem_append.mp hr with y | y
      · exact h.rn (i, rows) mem r y
      · cases List.mem_singleton.mp y
        exact ⟨hn.1, hn.2.1⟩
  · rcases one ht with z | z
    · exact old (h.th t z r hr)
    · subst z
      rcases List.mem_append.mp hr with y | y
      · exact old (h.th (i, rows) mem r y)
      · cases List.mem_singleton.mp y
        show v.made ∈ (v.ths ++ [(v.made, tv)]).map (·.1)
        simp
  · show ((v.ths ++ [(v.made, tv)]).map (·.1)).Nodup
    rw [List.map_append]
    exact nd_snoc h.nds nm
  · show 0 ≤ t.1 ∧ t.1 < v.made + 1
    rcases List.mem_append.mp ht with y | y
    · have := h.rs t y
      omega
    · cases List.mem_singleton.mp y
      show 0 ≤ v.made ∧ v.made < v.made + 1
      omega
  · have up : ∀ {u : Int × List (Int × Int)}, u ∈ v.tabs → ∃ u' ∈ (v.place i n tv).tabs, ∀ r ∈ u.2, r ∈ u'.2 := fun {u} hu => by
      refine ⟨_, List.mem_map.mpr ⟨u, hu, rfl⟩, fun r hr => ?_⟩
      show r ∈ (if u.1 = i then (u.1, u.2 ++ [(n, v.made)]) else u).2
      split
      · exact List.mem_append_left _ hr
      · exact hr
    rcases List.mem_append.mp ht with y | y
    · obtain ⟨u, hu, r, hr, e⟩ := h.held t y
      obtain ⟨u', hu', k⟩ := up hu
      exact ⟨u', hu', r, k r hr, e⟩
    · cases List.mem_singleton.mp y
      refine ⟨(i, rows ++ [(n, v.made)]), List.mem_map.mpr ⟨(i, rows), mem, if_pos rfl⟩, (n, v.made), List.mem_append_right _ (List.mem_singleton.mpr rfl), rfl⟩
  · have ext : ∀ {k : Int} {x : Tv}, lk v.ths k = some x → lk (v.ths ++ [(v.made, tv)]) k = some x := fun {k x} hk => by rw [lk_app, hk]; rfl
    rcases List.mem_append.mp ht with y | y
    · obtain ⟨h1, h2, h3, h4, h5, h6⟩ := h.ok t y es row e
      exact ⟨h1, h2, h3, h4, fun x hx => (h5 x hx).imp fun u ⟨f, q⟩ => ⟨f, ext q⟩, h6⟩
    · cases List.mem_singleton.mp y
      have e' : tv = .set es row := e
      subst e'
      obtain ⟨rfl, rfl⟩ := hf
      exact ⟨List.nodup_nil, List.nodup_nil, List.nodup_nil, fun x hx => (nomatch hx), fun x hx => (nomatch hx), Nat.zero_le _⟩
end Wn
namespace Wn
open PySem PySem.Spec PyProof.Rows L2 LamX He
theorem upd_comm {H : Hp} {a b : Addr} {o u : HO} (h : a ≠ b) : upd (upd H a o) b u = upd (upd H b u) a o := by
  funext c
  by_cases c1 : c = a
  · subst c1
    rw [upd_ne h, upd_same, upd_same]
  · rw [upd_ne c1]
    by_cases c2 : c = b
    · subst c2
      rw [upd_same, upd_same]
    · rw [upd_ne c2, upd_ne c2, upd_ne c1]
theorem upd_idem {H : Hp} {a : Addr} {o : HO} (h : H a = some o) : upd H a o = H := by
  funext c
  by_cases c1 : c = a
  · subst c1
    rw [upd_same, h]
  · rw [upd_ne c1]
/-! ### a dict made by a walk -/
theorem kv_get {α : Type} {g : α → V} {l : List (Int × α)} {i : Nat} {k : Key} {v : V} (h : (kv g l)[i]? = some (k, v)) : ∃ r, l[i]? = some r ∧ k = Sum.inl r.1 ∧ v = g r.2 := by
  unfold kv at h
  rw [List.getElem?_map] at h
  cases e : l[i]? with
  | none => rw [e] at h; cases h
  | some r =>
    rw [e] at h
    cases h
    exact ⟨r, rfl, rfl, rfl⟩
/-! ### data that is new -/
/-- what stands in H' and not in H -/
def frs (H H' : Hp) : Hp := fun a => match H a with
  | none => H' a
  | some _ => none
def off (D : Addr) (H : Hp) : Hp := fun a => if a = D then none else H a
theorem frs_le {H H' : Hp} : Same (frs H H') H' := fun b o h => by
  unfold frs at h
  split at h
  · exact h
  · cases h
theorem off_le {D : Addr} {H : Hp} : Same (off D H) H := fun b o h => by
  unfold off at h
  split at h
  · cases h
  · exact h
theorem frs_new {H H' : Hp} {p : Addr} (h : H p = none) : frs H H' p = H' p := by
  unfold frs
  rw [h]
theorem off_ne {D p : Addr} {H : Hp} (h : p ≠ D) : off D H p = H p := if_neg h
theorem frs_mono {H H1 H2 : Hp} (e : Same H1 H2) : Same (frs H H1) (frs H H2) := fun b o h => by
  unfold frs at h ⊢
  cases q : H b with
  | none => rw [q] at h; exact e b o h
  | some _ => rw [q] at h; cases h
/-- what is new since a later heap is new since an earlier one -/
theorem frs_old {H H1 H2 : Hp} (e : Same H H1) : Same (frs H1 H2) (frs H H2) := fun b o h => by
  unfold frs at h ⊢
  cases q : H1 b with
  | none => rw [q] at h; rw [e.free q]; exact h
  | some _ => rw [q] at h; cases h
theorem off_mono {D : Addr} {H1 H2 : Hp} (e : Same H1 H2) : Same (off D H1) (off D H2) := fun b o h => by
  unfold off at h ⊢
  split at h
  · cases h
  · rw [if_neg (by assumption)]; exact e b o h
theorem off_upd {D : Addr} {H : Hp} {o : HO} : off D (upd H D o) = off D H := by
  funext b
  unfold off
  split
  · rfl
  · rw [upd_ne (by assumption)]
/-- a list that is being made at D: what is in it is new, and not D -/
structure Gro (K : PySem.W.Frag) (H1 : Hp) (D : Addr) (H' : Hp) (ds : List PyData) : Prop where
  new : H1 D = none
  same : Same H1 H'
  has : ∃ xs, H' D = some (.lst xs) ∧ DpAll K (frs H1 (off D H')) xs ds
section
variable {K : PySem.W.Frag} {H1 H' H4 : Hp} {D : Addr} {ds : List PyData} {d : PyData} {y : V}
theorem Gro.start (h : H1 D = none) : Gro K H1 D (upd H1 D (.lst [])) [] := ⟨h, fun b o e => by rw [upd_ne (ne_of_none e h)]; exact e, [], upd_same, .nil⟩
theorem Gro.add (g : Gro K H1 D H' ds) (e : Same H' H4) (hy : Dp K (frs H1 (off D H4)) y d) : ∃ xs, H4 D = some (.lst xs) ∧ xs.length = ds.length ∧ Gro K H1 D (upd H4 D (.lst (xs ++ [y]))) (ds ++ [d]) := by
  obtain ⟨xs, h1, h2⟩ := g.has
  refine ⟨xs, e _ _ h1, dpLen h2, g.new, fun b o q => by rw [upd_ne (ne_of_none q g.new)]; exact e _ _ (g.same _ _ q), _, upd_same, ?_⟩
  rw [off_upd]
  exact dpApp (DpAll.same (frs_mono (off_mono e)) _ _ h2) (.cons hy .nil)
theorem Gro.fin (g : Gro K H1 D H' ds) : Dp K (frs H1 H') (.ref D) (.list ds) := by
  obtain ⟨xs, h1, h2⟩ := g.has
  exact .lst (SqL.of (by rw [frs_new g.new]; exact h1)) (DpAll.same (frs_mono off_le) _ _ h2)
theorem Gro.ext (g : Gro K H1 D H' ds) (e : Same H' H4) : Gro K H1 D H4 ds := by
  obtain ⟨xs, h1, h2⟩ := g.has
  exact ⟨g.new, g.same.trans e, xs, e _ _ h1, DpAll.same (frs_mono (off_mono e)) _ _ h2⟩
/-- a new tuple of data, made while D grows -/
theorem Gro.tup (g : Gro K H1 D H' ds) {p : Addr} {vs : List V} {es : List PyData} (e : Same H' H4) (hp : H4 p = none) (h : DpAll K (frs H1 (off D (upd H4 p (.tup vs)))) vs es) : Dp K (frs H1 (off D (upd H4 p (.tup vs)))) (.ref p) (.tuple es) := by
  obtain ⟨xs, h1, _⟩ := g.has
  have ne : p ≠ D := fun z => by
    subst z
    rw [e _ _ h1] at hp
    cases hp
  refine .tup (SqT.of ?_) h
  rw [frs_new ((g.same.trans e).free hp), off_ne ne, upd_same]
end
theorem frs_frs {H1 H' H4 : Hp} {D D2 : Addr} {o : HO} (e : Same H1 H') (hD : H' D = some o) : Same (frs H' (off D2 H4)) (frs H1 (off D H4)) := fun b u h => by
  have hb : H' b = none := by
    cases q : H' b with
    | none => rfl
    | some _ =>
      unfold frs at h
      rw [q] at h
      cases h
  rw [frs_new hb] at h
  rw [frs_new (e.free hb), off_ne (fun z => by rw [z, hD] at hb; cases hb)]
  exact off_le _ _ h
theorem Gro.addAll {K : PySem.W.Frag} {H1 H' H4 : Hp} {D D2 : Addr} {ds es : List PyData} (g : Gro K H1 D H' ds) (g2 : Gro K H' D2 H4 es) : ∃ xs zs, H4 D = some (.lst xs) ∧ H4 D2 = some (.lst zs) ∧ xs.length = ds.length ∧ zs.length = es.length ∧ Gro K H1 D (upd H4 D (.lst (xs ++ zs))) (ds ++ es) := by
  obtain ⟨xs, h1, h2⟩ := g.has
  obtain ⟨zs, h3, h4⟩ := g2.has
  refine ⟨xs, zs, g2.same _ _ h1, h3, dpLen h2, dpLen h4, g.new, fun b o q => by rw [upd_ne (ne_of_none q g.new)]; exact g2.same _ _ (g.same _ _ q), _, upd_same, ?_⟩
  rw [off_upd]
  exact dpApp (DpAll.same (frs_mono (off_mono g2.same)) _ _ h2) (DpAll.same (frs_frs g.same h1) _ _ h4)
theorem DpAll.get {K : PySem.W.Frag} {H : Hp} : ∀ {xs : List V} {ds : List PyData} {i : Nat} {d : PyData}, DpAll K H xs ds → ds[i]? = some d → ∃ v, xs[i]? = some v ∧ Dp K H v d
  | _, _, 0, _, .cons h _, e => by
    cases e
    exact ⟨_, rfl, h⟩
  | _, _, i + 1, _, .cons _ t, e => DpAll.get (i := i) t e
/-- e.f inside a comprehension: the known facts K are named -/
theorem pe_fldK {X : Cx} {e : Expr} {f : Str} {pos : Pos} {ta : TE} (K : PySem.W.Frag) (he : PE X e ta) (hb : attributeBase e f X.env (eval e X.env) = eval e X.env) (hK : X.K = K := by rfl) : PE X (.Attribute e f pos) (tFld K ta f) := by
  subst hK
  exact pe_fld he hb
theorem call_isiK {X : Cx} (K : PySem.W.Frag) (hK : X.K = K := by rfl) : CallR X (.builtin "isinstance") (rIsi K) := by
  subst hK
  exact call_isi
/-! ### a property of one of two classes -/
def tProp2 (C1 C2 : Addr) (sp1 sp2 : Sp) (E : XK) (ta : TE) : TE := fun σ H Q => ta σ H fun x H1 => ∃ a dx fs, x = .ref a ∧ ((H1 a = some (.ins C1 dx fs) ∧ sp1 [.ref a] H1 Q E) ∨ (H1 a = some (.ins C2 dx fs) ∧ sp2 [.ref a] H1 Q E))
theorem pe_prop2 {X : Cx} {CX1 CX2 : CXT} {k1 k2 : Nat} {C1 C2 p1 p2 g1 g2 : Addr} {f : Str} {fd1 fd2 : FuncData} {ps1 ps2 : List Str} {sp1 sp2 : Sp} {E : XK} {e : Expr} {pos : Pos} {ta : TE} (he : PE X e ta)
    (c1 : Cls X.K C1) (hp1 : PropOf X.K C1 f p1 g1) (F1 : FnOk X.prog X.w X.K X.mg X.base CX1 k1 g1 fd1 ps1 sp1) (hr1 : Room (k1 + 1) X.A) (hb1 : Binds X.K fd1 ps1 []) (hx1 : Passes CX1 X.nox E)
    (c2 : Cls X.K C2) (hp2 : PropOf X.K C2 f p2 g2) (F2 : FnOk X.prog X.w X.K X.mg X.base CX2 k2 g2 fd2 ps2 sp2) (hr2 : Room (k2 + 1) X.A) (hb2 : Binds X.K fd2 ps2 []) (hx2 : Passes CX2 X.nox E)
    (hab : attributeBase e f X.env (eval e X.env) = eval e X.env) : PE X (.Attribute e f pos) (tProp2 C1 C2 sp1 sp2 E ta) := by
  refine ⟨fun pins s σ H Q I h => ?_⟩
  refine attr_of hab (thn (he.run pins s σ H _ I h) fun u s1 ⟨x, H1, I1, rx, a, dx, fs, ex, q⟩ => ?_)
  subst ex
  obtain rfl : u = Value.ref a := rx
  rcases q with ⟨ea, q⟩ | ⟨ea, q⟩
  · exact getprop_ok (dvs := []) I1 ea c1 hp1 F1 hr1 hb1 .nil hx1 q
  · exact getprop_ok (dvs := []) I1 ea c2 hp2 F2 hr2 hb2 .nil hx2 q
end Wn
namespace Wn
open PySem PySem.Spec PyProof.Rows L2 LamX He
/-! ### calls in the body of a try: the wish looks at the slots -/
section
variable {X : Cx} {CX : CXT} {k : Nat} {f C : Addr} {fd : FuncData} {ps ks : List Str} {sp : Sp} {dvs : List V} {ds : List Value} {E : L2.St → XK} {x m : Str} {p pos apos : Pos} {e o : Expr} {es : List Expr} {kws : List Keyword} {ta : TE} {t tk : TA} {g : List Value → List Value → List Value} {gV : List V → List V → List V}
end
end Wn
namespace Wn
open PySem PySem.Spec PyProof.Rows L2 LamX He
/-! ### list(range(..)) -/
def rngV (lo : Int) (n : Nat) : List V := (List.range n).map fun k => .int (lo + (k : Nat))
section
variable {X : Cx} {a b : Expr} {ta : TA} {p p2 pos pos2 : Pos}
end
end Wn
namespace Wn
open PySem PySem.Spec PyProof.Rows L2 LamX He
/-! ### len(o), o an instance of an own class -/
end Wn
namespace Wn
open PySem PySem.Spec PyProof.Rows L2 LamX He
/-! ### one thing of a system is another -/
section
variable {α : Type} {f : α → List Addr} {n : Int} {x y : α}
def allF (f : α → List Addr) (l : List (Int × α)) : List Addr := l.flatMap fun t => f t.2
theorem allF_cons (t : Int × α) (l : List (Int × α)) : allF f (t :: l) = f t.2 ++ allF f l := List.flatMap_cons
theorem allF_mem {l : List (Int × α)} {a : Addr} : a ∈ allF f l ↔ ∃ t ∈ l, a ∈ f t.2 := List.mem_flatMap
theorem upAt_cons (t : Int × α) (l : List (Int × α)) (g : α → α) : upAt (t :: l) n g = (if t.1 = n then (t.1, g t.2) else t) :: upAt l n g := rfl
theorem upAt_none : ∀ {l : List (Int × α)} {g : α → α}, lk l n = none → upAt l n g = l
  | [], _, _ => rfl
  | t :: l, g, h => by
    by_cases e : t.1 = n
    · rw [lk_pos e] at h
      cases h
    · rw [lk_neg e] at h
      rw [upAt_cons, if_neg e, upAt_none h]
/-- the others are apart from it -/
theorem apart_of : ∀ {l : List (Int × α)}, (l.map (·.1)).Nodup → lk l n = some x → (allF f l).Nodup → ∀ t ∈ l, t.1 ≠ n → ∀ a ∈ f t.2, a ∉ f x
  | [], _, h, _ => nomatch h
  | r :: l, nd, hl, h => by
    obtain ⟨n1, n2⟩ := List.nodup_cons.mp (show (r.1 :: l.map (·.1)).Nodup from nd)
    rw [allF_cons] at h
    obtain ⟨d1, d2, d3⟩ := List.nodup_append.mp h
    intro t ht ne a ha hx
    by_cases e : r.1 = n
    · rw [lk_pos e] at hl
      cases hl
      rcases List.mem_cons.mp ht with z | z
      · exact ne (z ▸ e)
      · exact d3 a hx a (allF_mem.mpr ⟨t, z, ha⟩) rfl
    · rw [lk_neg e] at hl
      rcases List.mem_cons.mp ht with z | z
      · subst z
        exact d3 a ha a (allF_mem.mpr ⟨_, lk_mem hl, hx⟩) rfl
      · exact apart_of n2 hl d2 t z ne a ha hx
theorem allF_up : ∀ {l : List (Int × α)} {a : Addr}, a ∈ allF f (upAt l n fun _ => y) → (∃ t ∈ l, t.1 ≠ n ∧ a ∈ f t.2) ∨ a ∈ f y := fun {l a} h => by
  obtain ⟨t, ht, ha⟩ := allF_mem.mp h
  rcases upAt_mem ht with ⟨ne, hm⟩ | ⟨z, _, rfl⟩
  · exact .inl ⟨t, hm, ne, ha⟩
  · exact .inr ha
theorem nodup_up : ∀ {l : List (Int × α)}, (l.map (·.1)).Nodup → lk l n = some x → (allF f l).Nodup → (f y).Nodup → (∀ a ∈ f y, a ∈ f x ∨ a ∉ allF f l) → (allF f (upAt l n fun _ => y)).Nodup
  | [], _, h, _, _, _ => nomatch h
  | r :: l, nd, hl, h, hy, hn => by
    obtain ⟨n1, n2⟩ := List.nodup_cons.mp (show (r.1 :: l.map (·.1)).Nodup from nd)
    have ap := apart_of nd hl h
    rw [allF_cons] at h hn
    obtain ⟨d1, d2, d3⟩ := List.nodup_append.mp h
    rw [upAt_cons, allF_cons]
    by_cases e : r.1 = n
    · rw [lk_pos e] at hl
      cases hl
      have nn : lk l n = none := lk_none.mpr (e ▸ n1)
      rw [upAt_none nn, if_pos e]
      refine List.nodup_append.mpr ⟨hy, d2, fun a ha b hb z => ?_⟩
      subst z
      rcases hn a ha with q | q
      · exact d3 a q a hb rfl
      · exact q (List.mem_append_right _ hb)
    · rw [lk_neg e] at hl
      rw [if_neg e]
      refine List.nodup_append.mpr ⟨d1, nodup_up n2 hl d2 hy (fun a ha => (hn a ha).imp id fun q z => q (List.mem_append_right _ z)), fun a ha b hb z => ?_⟩
      subst z
      rcases allF_up hb with ⟨t, ht, ne, hat⟩ | hay
      · exact d3 a ha a (allF_mem.mpr ⟨t, ht, hat⟩) rfl
      · rcases hn a hay with q | q
        · exact ap r List.mem_cons_self e a ha q
        · exact q (List.mem_append_left _ ha)
end
theorem allF_one : ∀ l : List (Int × Th), allF (fun t : Th => [t.ad]) l = l.map (·.2.ad)
  | [] => rfl
  | r :: l => by
    rw [allF_cons, allF_one l]
    rfl
def Sy.re (s : Sy) (n : Int) (a : Addr) (tg : Tg) : Sy := { s with ths := upAt s.ths n fun _ => ⟨a, tg⟩ }
def Sv.re (v : Sv) (n : Int) (tv : Tv) : Sv := { v with ths := upAt v.ths n fun _ => tv }
theorem Sy.re_v (s : Sy) (n : Int) (a : Addr) (tg : Tg) : (s.re n a tg).v = s.v.re n tg.v := by
  show (⟨s.P, s.N, s.made, _, (upAt s.ths n fun _ => (⟨a, tg⟩ : Th)).map fun t => (t.1, t.2.tg.v)⟩ : Sv) = _
  rw [upAt_map (fun t : Th => t.tg.v) (fun _ => (⟨a, tg⟩ : Th)) (fun _ => tg.v) (fun _ => rfl)]
  rfl
section
variable {K : PySem.W.Frag} {H H' : Hp} {s : Sy} {n : Int} {t : Th} {tg : Tg}
theorem Sy.re_ths' (hl : lk s.ths n = some t) (nd : (s.ths.map (·.1)).Nodup) : (s.re n t.ad tg).ths' = s.ths' := by
  unfold Sy.ths' Sy.re upAt
  rw [List.map_map]
  refine List.map_congr_left fun u hu => ?_
  show (if u.1 = n then (u.1, (⟨t.ad, tg⟩ : Th)) else u).2.ad = u.2.ad
  split
  · rename_i e
    have z := lk_of_mem nd (show (u.1, u.2) ∈ s.ths from hu)
    rw [e, hl] at z
    cases z
    rfl
  · rfl
theorem SyAt.re (S : SyAt K H s) (hl : lk s.ths n = some t) (nd : (s.ths.map (·.1)).Nodup) (keep : ∀ b ∈ s.foot, b ≠ t.ad → b ∉ t.tg.lsts → b ∉ t.tg.ents → H' b = H b) (ht : TgAt K H' t.ad tg)
    (hL : ∀ x ∈ tg.lsts, x ∈ t.tg.lsts ∨ x ∉ s.foot) (hE : ∀ x ∈ tg.ents, x ∈ t.tg.ents ∨ x ∉ s.foot) (nl : tg.lsts.Nodup) (ne : tg.ents.Nodup) : SyAt K H' (s.re n t.ad tg) := by
  have tm := lk_mem hl
  have hta : t.ad ∈ s.ths' := Sy.th_in tm
  have tl : ∀ {x : Addr}, x ∈ t.tg.lsts → x ∈ s.lsts := fun h => Sy.ls_in tm h
  have te : ∀ {x : Addr}, x ∈ t.tg.ents → x ∈ s.ents := fun h => Sy.en_in tm h
  have th_ls : ∀ {a b : Addr}, a ∈ s.ths' → b ∈ s.lsts → a ≠ b := fun {a b} ha hb => by
    obtain ⟨_, _, _, _, _, q⟩ := S.th' ha
    obtain ⟨_, q'⟩ := S.ls hb
    exact ne_of q q' fun z => nomatch z
  have th_en : ∀ {a b : Addr}, a ∈ s.ths' → b ∈ s.ents → a ≠ b := fun {a b} ha hb => by
    obtain ⟨_, _, _, _, e1, q⟩ := S.th' ha
    obtain ⟨_, _, _, e2, q'⟩ := S.en hb
    exact ne_of q q' (ins_ne "label" (by rw [e1]; intro z; rw [← z] at e2; cases e2))
  have ls_en : ∀ {a b : Addr}, a ∈ s.lsts → b ∈ s.ents → a ≠ b := fun {a b} ha hb => by
    obtain ⟨_, q⟩ := S.ls ha
    obtain ⟨_, _, _, _, q'⟩ := S.en hb
    exact ne_of q q' fun z => nomatch z
  have kdc : ∀ {b : Addr}, b ∈ s.dcs → H' b = H b := fun {b} hb => keep b (Sy.in_dcs hb) (Ne.symm (S.dc_th hb (.inl hta))) (fun z => S.dc_th hb (.inr (.inl (tl z))) rfl) (fun z => S.dc_th hb (.inr (.inr (te z))) rfl)
  have kp : H' s.p = H s.p := keep _ List.mem_cons_self (Ne.symm (S.np (.inr (.inl hta)))) (fun z => S.np (.inr (.inr (.inl (tl z)))) rfl) (fun z => S.np (.inr (.inr (.inr (te z)))) rfl)
  have apA : ∀ u ∈ s.ths, u.1 ≠ n → u.2.ad ≠ t.ad := fun u hu ne z => by
    have q := apart_of (f := fun t : Th => [t.ad]) nd hl (by
      rw [allF_one]
      exact S.nt) u hu ne u.2.ad (List.mem_singleton.mpr rfl)
    exact q (List.mem_singleton.mpr z)
  have apL := apart_of (f := fun t : Th => t.tg.lsts) nd hl S.nl
  have apE := apart_of (f := fun t : Th => t.tg.ents) nd hl S.ne
  refine ⟨kp.trans S.ob, (kdc List.mem_cons_self).trans S.tb, fun u hu => (kdc (List.mem_cons_of_mem _ (List.mem_cons_of_mem _ (List.mem_map.mpr ⟨u, hu, rfl⟩)))).trans (S.tt u hu), ?_, fun u hu => ?_, S.nd, ?_, ?_, ?_⟩
  · rw [show (s.re n t.ad tg).G = s.G from rfl, kdc (List.mem_cons_of_mem _ List.mem_cons_self), S.gb]
    congr 2
    unfold Sy.re
    show kv thV s.ths = kv thV (upAt s.ths n fun _ => (⟨t.ad, tg⟩ : Th))
    unfold kv upAt
    rw [List.map_map]
    refine List.map_congr_left fun u hu => ?_
    show ((Sum.inl u.1 : Key), thV u.2) = (Sum.inl (if u.1 = n then (u.1, (⟨t.ad, tg⟩ : Th)) else u).1, thV (if u.1 = n then (u.1, (⟨t.ad, tg⟩ : Th)) else u).2)
    split
    · rename_i e
      have z := lk_of_mem nd (show (u.1, u.2) ∈ s.ths from hu)
      rw [e, hl] at z
      cases z
      rfl
    · rfl
  · rcases upAt_mem (show u ∈ upAt s.ths n (fun _ => (⟨t.ad, tg⟩ : Th)) from hu) with ⟨ni, hm⟩ | ⟨z, _, rfl⟩
    · have q := S.gt u hm
      have ka : H' u.2.ad = H u.2.ad := keep _ (Sy.in_ths (Sy.th_in hm)) (apA u hm ni) (fun z => th_ls (Sy.th_in hm) (tl z) rfl) (fun z => th_en (Sy.th_in hm) (te z) rfl)
      have kl : ∀ x ∈ u.2.tg.lsts, H' x = H x := fun x hx => keep x (Sy.in_lsts (Sy.ls_in hm hx)) (Ne.symm (th_ls hta (Sy.ls_in hm hx))) (apL u hm ni x hx) (fun z => ls_en (Sy.ls_in hm hx) (te z) rfl)
      have ke : ∀ x ∈ u.2.tg.ents, H' x = H x := fun x hx => keep x (Sy.in_ents (Sy.en_in hm hx)) (Ne.symm (th_en hta (Sy.en_in hm hx))) (fun z => ls_en (tl z) (Sy.en_in hm hx) rfl) (apE u hm ni x hx)
      cases e : u.2.tg with
      | src dx v fi =>
        rw [e] at q
        exact ka.trans q
      | set dx L R es row =>
        rw [e] at q kl ke
        exact ⟨ka.trans q.1, (kl L (by simp [Tg.lsts])).trans q.2.1, (kl R (by simp [Tg.lsts])).trans q.2.2.1, fun x hx => (ke x.ad (List.mem_map.mpr ⟨x, hx, rfl⟩)).trans (q.2.2.2 x hx)⟩
    · exact ht
  · rw [Sy.re_ths' hl nd]
    exact S.nt
  · exact nodup_up (f := fun t : Th => t.tg.lsts) (y := ⟨t.ad, tg⟩) nd hl S.nl nl fun a ha => (hL a ha).imp id fun z q => z (Sy.in_lsts q)
  · exact nodup_up (f := fun t : Th => t.tg.ents) (y := ⟨t.ad, tg⟩) nd hl S.ne ne fun a ha => (hE a ha).imp id fun z q => z (Sy.in_ents q)
theorem Sy.re_foot (hl : lk s.ths n = some t) (nd : (s.ths.map (·.1)).Nodup) {b : Addr} (h : b ∈ (s.re n t.ad tg).foot) : b ∈ s.foot ∨ b ∈ tg.lsts ∨ b ∈ tg.ents := by
  rcases Sy.foot_cases h with z | z | z | z | z
  · exact .inl (z ▸ List.mem_cons_self)
  · exact .inl (Sy.in_dcs z)
  · rw [Sy.re_ths' hl nd] at z
    exact .inl (Sy.in_ths z)
  · rcases allF_up (f := fun t : Th => t.tg.lsts) z with ⟨u, hu, _, q⟩ | q
    · exact .inl (Sy.in_lsts (Sy.ls_in hu q))
    · exact .inr (.inl q)
  · rcases allF_up (f := fun t : Th => t.tg.ents) z with ⟨u, hu, _, q⟩ | q
    · exact .inl (Sy.in_ents (Sy.en_in hu q))
    · exact .inr (.inr q)
end
end Wn
namespace Wn
open PySem PySem.Spec PyProof.Rows L2 LamX He
def Tv.isSet : Tv → Bool
  | .src _ _ => false
  | .set _ _ => true
/-! ### the things of a system changed, their kinds kept -/
def Sv.mapT (v : Sv) (g : Int → Tv → Tv) : Sv := { v with ths := v.ths.map fun t => (t.1, g t.1 t.2) }
theorem mapT_keys (v : Sv) (g : Int → Tv → Tv) : (v.mapT g).ths.map (·.1) = v.ths.map (·.1) := by
  show (v.ths.map fun t => (t.1, g t.1 t.2)).map (·.1) = _
  rw [List.map_map]
  rfl
theorem lk_mapK {α β : Type} (f : Int → α → β) (n : Int) : ∀ l : List (Int × α), lk (l.map fun r => (r.1, f r.1 r.2)) n = (lk l n).map (f n)
  | [] => rfl
  | r :: l => by
    show lk ((r.1, f r.1 r.2) :: l.map fun r => (r.1, f r.1 r.2)) n = _
    by_cases e : r.1 = n
    · rw [lk_pos (r := (r.1, f r.1 r.2)) e, lk_pos e, e]
      rfl
    · rw [lk_neg (r := (r.1, f r.1 r.2)) e, lk_neg e, lk_mapK f n l]
theorem Sv.re_map (v : Sv) (n : Int) (tv : Tv) : v.re n tv = v.mapT fun k x => if k = n then tv else x := by
  unfold Sv.re Sv.mapT upAt
  congr 1
  refine List.map_congr_left fun t _ => ?_
  show (if t.1 = n then (t.1, tv) else t) = (t.1, if t.1 = n then tv else t.2)
  split <;> rfl
theorem WF.mapT {v : Sv} (h : WF v) {g : Int → Tv → Tv} (hk : ∀ t ∈ v.ths, (g t.1 t.2).isSet = t.2.isSet) (hs : ∀ t ∈ v.ths, ∀ es row, g t.1 t.2 = .set es row → SetOk v es row) : WF (v.mapT g) where
  p := h.p
  n := h.n
  ndp := h.ndp
  rp := h.rp
  ndn := h.ndn
  rn := h.rn
  th := fun t ht r hr => by rw [mapT_keys]; exact h.th t ht r hr
  nds := by rw [mapT_keys]; exact h.nds
  rs := fun t ht => by
    obtain ⟨u, hu, rfl⟩ := List.mem_map.mp ht
    exact h.rs u hu
  held := fun t ht => by
    obtain ⟨u, hu, rfl⟩ := List.mem_map.mp ht
    exact h.held u hu
  ok := fun t ht es row e => by
    obtain ⟨u, hu, rfl⟩ := List.mem_map.mp ht
    obtain ⟨k1, k2, k3, k4, k5, k6⟩ := hs u hu es row e
    refine ⟨k1, k2, k3, k4, fun x hx => ?_, k6⟩
    obtain ⟨un, fi, q⟩ := k5 x hx
    have z : lk (v.mapT g).ths x.ser = some (g x.ser (.src un fi)) := by
      show lk (v.ths.map fun t => (t.1, g t.1 t.2)) x.ser = _
      rw [lk_mapK g, q]
      rfl
    have y := hk _ (lk_mem q)
    cases c : g x.ser (.src un fi) with
    | src a b => exact ⟨a, b, by rw [z, c]⟩
    | set a b =>
      rw [show g (x.ser, Tv.src un fi).1 (x.ser, Tv.src un fi).2 = g x.ser (.src un fi) from rfl, c] at y
      cases y
/-! ### pending -/
def pendR (row : List Int) (lab : Int) (arm : Bool) : List Int := if arm = true ∧ lab ∉ row then row ++ [lab] else row
def pendA (ser : Int) : List Ev → List Int → List Int
  | [], row => row
  | e :: es, row => pendA ser es (if e.ser = ser then pendR row e.lab e.arm else row)
def Tv.pend (ser : Int) : Tv → Tv
  | .src u f => .src u f
  | .set es row => .set es (pendA ser es row)
def Sv.pend (v : Sv) (ser : Int) : Sv := v.mapT fun _ t => t.pend ser
def RowOk (es : List Ev) (row : List Int) : Prop := row.Nodup ∧ ∀ x ∈ row, ∃ e ∈ es, e.lab = x ∧ e.arm = true
theorem pendR_ok {es : List Ev} {row : List Int} {e : Ev} (h : RowOk es row) (he : e ∈ es) : RowOk es (pendR row e.lab e.arm) := by
  unfold pendR
  split
  · rename_i c
    refine ⟨nd_snoc h.1 c.2, fun x hx => ?_⟩
    rcases List.mem_append.mp hx with z | z
    · exact h.2 x z
    · cases List.mem_singleton.mp z
      exact ⟨e, he, rfl, c.1⟩
  · exact h
theorem pendA_ok {es : List Ev} {ser : Int} : ∀ {l : List Ev} {row : List Int}, (∀ e ∈ l, e ∈ es) → RowOk es row → RowOk es (pendA ser l row)
  | [], _, _, h => h
  | e :: l, row, hl, h => by
    refine pendA_ok (l := l) (fun x hx => hl x (List.mem_cons_of_mem _ hx)) ?_
    split
    · exact pendR_ok h (hl e List.mem_cons_self)
    · exact h
theorem pendA_app (ser : Int) : ∀ (l m : List Ev) (row : List Int), pendA ser (l ++ m) row = pendA ser m (pendA ser l row)
  | [], _, _ => rfl
  | e :: l, m, row => pendA_app ser l m _
theorem nodup_le : ∀ {l m : List Int}, l.Nodup → (∀ x ∈ l, x ∈ m) → l.length ≤ m.length
  | [], _, _, _ => Nat.zero_le _
  | a :: l, m, nd, h => by
    obtain ⟨n1, n2⟩ := List.nodup_cons.mp nd
    have hm := h a List.mem_cons_self
    have k := nodup_le (m := m.erase a) n2 fun x hx => (List.mem_erase_of_ne (show x ≠ a from fun z => n1 (z ▸ hx))).mpr (h x (List.mem_cons_of_mem _ hx))
    rw [List.length_erase_of_mem hm] at k
    have := List.length_pos_of_mem hm
    rw [List.length_cons]
    omega
theorem RowOk.len {es : List Ev} {row : List Int} (h : RowOk es row) : row.length ≤ es.length := by
  have := nodup_le (m := es.map (·.lab)) h.1 fun x hx => by
    obtain ⟨e, he, q, _⟩ := h.2 x hx
    exact List.mem_map.mpr ⟨e, he, q⟩
  rw [List.length_map] at this
  exact this
theorem SetOk.row {v : Sv} {es : List Ev} {row : List Int} (h : SetOk v es row) : RowOk es row := ⟨h.2.2.1, h.2.2.2.1⟩
theorem SetOk.withRow {v : Sv} {es : List Ev} {row row' : List Int} (h : SetOk v es row) (r : RowOk es row') : SetOk v es row' := ⟨h.1, h.2.1, r.1, r.2, h.2.2.2.2⟩
theorem pend_kind (ser : Int) (t : Tv) : (t.pend ser).isSet = t.isSet := by cases t <;> rfl
theorem WF.pend {v : Sv} (h : WF v) (ser : Int) : WF (v.pend ser) := h.mapT (fun t _ => pend_kind ser t.2) fun t ht es row e => by
  cases c : t.2 with
  | src u f =>
    rw [c] at e
    cases e
  | set es0 row0 =>
    rw [c] at e
    cases e
    have k := h.ok t ht _ _ c
    exact k.withRow (pendA_ok (fun _ h => h) k.row)
end Wn
/-! the law's level: values, objects by places, what they stand for in the heap -/
namespace Wn
open PySem PySem.Spec PyProof.Rows L2 LamX He

inductive Val where
  | non | bl (b : Bool) | int (i : Int) | str (x : Str) | tup (vs : List Val) | loc (n : Nat)
inductive Ob where
  | lst (vs : List Val)
  | dct (kvs : List (Key × Val))
  | ro (vs : List Val)
  | rod (kvs : List (Key × Val))
  | sys (v : Sv)
structure Mu where
  nx : Nat
  ob : Nat → Option Ob
def Mu.put (μ : Mu) (n : Nat) (o : Ob) : Mu := ⟨μ.nx, fun m => if m = n then some o else μ.ob m⟩
def Mu.new (μ : Mu) (o : Ob) : Mu := ⟨μ.nx + 1, fun m => if m = μ.nx then some o else μ.ob m⟩
theorem Mu.put_nx (μ : Mu) (n : Nat) (o : Ob) : (μ.put n o).nx = μ.nx := rfl
theorem Mu.new_nx (μ : Mu) (o : Ob) : (μ.new o).nx = μ.nx + 1 := rfl
theorem Mu.put_same (μ : Mu) (n : Nat) (o : Ob) : (μ.put n o).ob n = some o := if_pos rfl
theorem Mu.put_ne (μ : Mu) {n m : Nat} (o : Ob) (h : m ≠ n) : (μ.put n o).ob m = μ.ob m := if_neg h
theorem Mu.new_same (μ : Mu) (o : Ob) : (μ.new o).ob μ.nx = some o := if_pos rfl
theorem Mu.new_ne (μ : Mu) {m : Nat} (o : Ob) (h : m ≠ μ.nx) : (μ.new o).ob m = μ.ob m := if_neg h
/-- the places' addresses, the systems' parts -/
structure Wt where
  ad : Nat → Addr
  sy : Nat → Sy
  /-- whose dict is locked at an address -/
  own : Addr → Nat

mutual
inductive VR (K : PySem.W.Frag) (ad : Nat → Addr) (b : Nat) (H : Hp) : Val → V → Prop
  | non : VR K ad b H .non .non
  | bl (x : Bool) : VR K ad b H (.bl x) (.bl x)
  | int (i : Int) : VR K ad b H (.int i) (.int i)
  | str (x : Str) : VR K ad b H (.str x) (.str x)
  | tup {a : Addr} {vs : List Val} {us : List V} : SqT K H a us → VRs K ad b H vs us → VR K ad b H (.tup vs) (.ref a)
  | loc {n : Nat} : n < b → VR K ad b H (.loc n) (.ref (ad n))
inductive VRs (K : PySem.W.Frag) (ad : Nat → Addr) (b : Nat) (H : Hp) : List Val → List V → Prop
  | nil : VRs K ad b H [] []
  | cons {v : Val} {vs : List Val} {u : V} {us : List V} : VR K ad b H v u → VRs K ad b H vs us → VRs K ad b H (v :: vs) (u :: us)
end
structure Grow0 (K : PySem.W.Frag) (w : Wt) (b : Nat) (H : Hp) (w' : Wt) (b' : Nat) (H' : Hp) : Prop where
  le : b ≤ b'
  ad : ∀ n, n < b → w'.ad n = w.ad n
  tp : ∀ a xs, SqT K H a xs → SqT K H' a xs
structure Grow (K : PySem.W.Frag) (w : Wt) (b : Nat) (H : Hp) (w' : Wt) (b' : Nat) (H' : Hp) : Prop extends Grow0 K w b H w' b' H' where
  fz : ∀ a o u, H a = some (.frz o u) → H' a = some (.frz o u)
theorem Grow.refl {K : PySem.W.Frag} {w : Wt} {b : Nat} {H : Hp} : Grow K w b H w b H := ⟨⟨Nat.le_refl _, fun _ _ => rfl, fun _ _ h => h⟩, fun _ _ _ h => h⟩
theorem Grow.trans {K : PySem.W.Frag} {w w1 w2 : Wt} {b b1 b2 : Nat} {H H1 H2 : Hp} (x : Grow K w b H w1 b1 H1) (y : Grow K w1 b1 H1 w2 b2 H2) : Grow K w b H w2 b2 H2 :=
  ⟨⟨Nat.le_trans x.le y.le, fun n h => (y.ad n (Nat.lt_of_lt_of_le h x.le)).trans (x.ad n h), fun a xs h => y.tp a xs (x.tp a xs h)⟩, fun a o u h => y.fz a o u (x.fz a o u h)⟩
mutual
theorem VR.grow0 {K : PySem.W.Frag} {w w' : Wt} {b b' : Nat} {H H' : Hp} (g : Grow0 K w b H w' b' H') : ∀ {v : Val} {u : V}, VR K w.ad b H v u → VR K w'.ad b' H' v u
  | _, _, .non => .non
  | _, _, .bl x => .bl x
  | _, _, .int x => .int x
  | _, _, .str x => .str x
  | _, _, .tup h r => .tup (g.tp _ _ h) (VRs.grow0 g r)
  | _, _, .loc (n := n) h => by
    have z := VR.loc (K := K) (ad := w'.ad) (H := H') (Nat.lt_of_lt_of_le h g.le)
    rw [g.ad n h] at z
    exact z
theorem VRs.grow0 {K : PySem.W.Frag} {w w' : Wt} {b b' : Nat} {H H' : Hp} (g : Grow0 K w b H w' b' H') : ∀ {v : List Val} {u : List V}, VRs K w.ad b H v u → VRs K w'.ad b' H' v u
  | _, _, .nil => .nil
  | _, _, .cons h r => .cons (VR.grow0 g h) (VRs.grow0 g r)
end
theorem VR.grow {K : PySem.W.Frag} {w w' : Wt} {b b' : Nat} {H H' : Hp} (g : Grow K w b H w' b' H') {v : Val} {u : V} (h : VR K w.ad b H v u) : VR K w'.ad b' H' v u := h.grow0 g.toGrow0
theorem VRs.grow {K : PySem.W.Frag} {w w' : Wt} {b b' : Nat} {H H' : Hp} (g : Grow K w b H w' b' H') {v : List Val} {u : List V} (h : VRs K w.ad b H v u) : VRs K w'.ad b' H' v u := h.grow0 g.toGrow0
section
variable {K : PySem.W.Frag} {ad : Nat → Addr} {b : Nat} {H : Hp}
theorem VRs.length : ∀ {vs : List Val} {us : List V}, VRs K ad b H vs us → us.length = vs.length
  | _, _, .nil => rfl
  | _, _, .cons _ r => by simp [r.length]
theorem VRs.get : ∀ {vs : List Val} {us : List V}, VRs K ad b H vs us → ∀ (i : Nat) (v : Val), vs[i]? = some v → ∃ u, us[i]? = some u ∧ VR K ad b H v u
  | _, _, .nil, _, _, h => by simp at h
  | _, _, .cons (u := u) h r, 0, v, e => by
    simp at e
    subst e
    exact ⟨u, by simp, h⟩
  | _, _, .cons _ r, i + 1, v, e => by
    obtain ⟨u, h1, h2⟩ := r.get i v (by simpa using e)
    exact ⟨u, by simpa using h1, h2⟩
theorem VRs.app : ∀ {vs vs' : List Val} {us us' : List V}, VRs K ad b H vs us → VRs K ad b H vs' us' → VRs K ad b H (vs ++ vs') (us ++ us')
  | _, _, _, _, .nil, s => s
  | _, _, _, _, .cons h r, s => .cons h (r.app s)
theorem VRs.one {v : Val} {u : V} (h : VR K ad b H v u) : VRs K ad b H [v] [u] := .cons h .nil
theorem VRs.take : ∀ {vs : List Val} {us : List V} (n : Nat), VRs K ad b H vs us → VRs K ad b H (vs.take n) (us.take n)
  | _, _, 0, _ => by simp; exact .nil
  | _, _, n + 1, .nil => by simp; exact .nil
  | _, _, n + 1, .cons h r => .cons h (r.take n)
theorem VRs.drop : ∀ {vs : List Val} {us : List V} (n : Nat), VRs K ad b H vs us → VRs K ad b H (vs.drop n) (us.drop n)
  | _, _, 0, r => r
  | _, _, n + 1, .nil => by simp; exact .nil
  | _, _, n + 1, .cons h r => r.drop n
theorem VRs.set : ∀ {vs : List Val} {us : List V} (n : Nat) {v : Val} {u : V}, VRs K ad b H vs us → VR K ad b H v u → VRs K ad b H (vs.set n v) (us.set n u)
  | _, _, _, _, _, .nil, _ => by simp; exact .nil
  | _, _, 0, _, _, .cons h r, q => .cons q r
  | _, _, n + 1, _, _, .cons h r, q => .cons h (r.set n q)
theorem VRs.erase : ∀ {vs : List Val} {us : List V} (n : Nat), VRs K ad b H vs us → VRs K ad b H (vs.eraseIdx n) (us.eraseIdx n)
  | _, _, _, .nil => by simp; exact .nil
  | _, _, 0, .cons h r => r
  | _, _, n + 1, .cons h r => .cons h (r.erase n)
theorem VRs.ints : ∀ (l : List Int), VRs K ad b H (l.map Val.int) (l.map V.int)
  | [] => .nil
  | _ :: l => .cons (.int _) (VRs.ints l)
theorem VRs.flat : ∀ (k : Nat) {vs : List Val} {us : List V}, VRs K ad b H vs us → VRs K ad b H (List.replicate k vs).flatten (List.replicate k us).flatten
  | 0, _, _, _ => .nil
  | k + 1, vs, us, h => by
    rw [List.replicate_succ, List.replicate_succ, List.flatten_cons, List.flatten_cons]
    exact h.app (VRs.flat k h)
end
/-- a list that is never written -/
def RoL (K : PySem.W.Frag) (H : Hp) (a : Addr) (us : List V) : Prop := (∃ o, H a = some (.frz o (.lst us))) ∨ ∃ (o : Obj) (its : Array Value) (n : Nat), K.lookup a = some o ∧ o.cls = .type "list" ∧ o.dict = none ∧ o.data = .seq its n ∧ its.size ≤ sizeLine ∧ Vals us its.toList
theorem RoL.sq {K : PySem.W.Frag} {H : Hp} {a : Addr} {us : List V} (h : RoL K H a us) : SqL K H a us := by
  rcases h with h | h
  · exact .inl (.inr h)
  · exact .inr h
def ObR (K : PySem.W.Frag) (w : Wt) (b : Nat) (H : Hp) (n : Nat) : Ob → Prop
  | .lst vs => ∃ us, H (w.ad n) = some (.lst us) ∧ VRs K w.ad b H vs us
  | .dct kvs => ∃ us, H (w.ad n) = some (.dK us) ∧ us.map (·.1) = kvs.map (·.1) ∧ VRs K w.ad b H (kvs.map (·.2)) (us.map (·.2))
  | .ro vs => ∃ us, RoL K H (w.ad n) us ∧ VRs K w.ad b H vs us
  | .rod kvs => w.own (w.ad n) = n ∧ ∃ o us, H (w.ad n) = some (.frz o (.dK us)) ∧ us.map (·.1) = kvs.map (·.1) ∧ VRs K w.ad b H (kvs.map (·.2)) (us.map (·.2))
  | .sys v => (w.sy n).p = w.ad n ∧ SyAt K H (w.sy n) ∧ (w.sy n).v = v ∧ WF v
def ft (w : Wt) (n : Nat) : Option Ob → List Addr
  | some (.lst _) => [w.ad n]
  | some (.dct _) => [w.ad n]
  | some (.sys _) => (w.sy n).foot
  | _ => []
/-- what may be written: a list, a dict, an instance -/
def isM : HO → Bool
  | .lst _ => true
  | .dK _ => true
  | .ins _ _ _ => true
  | _ => false
/-- the tables of code objects of the defs that make lambdas -/
def TbK (K : PySem.W.Frag) : List (Addr × Str) := lamL.map fun x => ((cT K (x, none)).2, x ++ ".<locals>." ++ "<lambda>")
theorem tabs_keep {K : PySem.W.Frag} {H H' : Hp} {T : List (Addr × Str)} (t : Tabs T H) (k : ∀ a o, H a = some o → isM o = false → H' a = some o) : Tabs T H' := fun p hp => by
  obtain ⟨ps, h1, h2, h3⟩ := t p hp
  refine ⟨ps, k _ _ h1 rfl, h2, fun pos cv hc => ?_⟩
  obtain ⟨c, e1, e2⟩ := h3 pos cv hc
  exact ⟨c, e1, k _ _ e2 rfl⟩
structure Sim (K : PySem.W.Frag) (w : Wt) (μ : Mu) (H : Hp) : Prop where
  bd : ∀ n, μ.nx ≤ n → μ.ob n = none
  ok : ∀ n o, μ.ob n = some o → ObR K w μ.nx H n o
  dj : ∀ n m, n ≠ m → ∀ a ∈ ft w n (μ.ob n), a ∉ ft w m (μ.ob m)
  tb : Tabs (TbK K) H
section
variable {K : PySem.W.Frag} {w w' : Wt} {μ : Mu} {H H' : Hp}
theorem Sim.lt (S : Sim K w μ H) {n : Nat} {o : Ob} (h : μ.ob n = some o) : n < μ.nx := by
  rcases Nat.lt_or_ge n μ.nx with z | z
  · exact z
  · rw [S.bd n z] at h
    cases h
theorem foot_m {s : Sy} (S : SyAt K H s) {a : Addr} (h : a ∈ s.foot) : ∃ o, H a = some o ∧ isM o = true := by
  rcases List.mem_cons.mp h with z | z
  · subst z
    exact ⟨_, S.ob, rfl⟩
  · rcases List.mem_append.mp z with z | z
    · obtain ⟨k, q⟩ := S.dc z
      exact ⟨_, q, rfl⟩
    · rcases List.mem_append.mp z with z | z
      · obtain ⟨C, dx, fs, _, _, q⟩ := S.th' z
        exact ⟨_, q, rfl⟩
      · rcases List.mem_append.mp z with z | z
        · obtain ⟨xs, q⟩ := S.ls z
          exact ⟨_, q, rfl⟩
        · obtain ⟨dx, fs, _, _, q⟩ := S.en z
          exact ⟨_, q, rfl⟩
theorem Sim.ftm (S : Sim K w μ H) {n : Nat} {a : Addr} (h : a ∈ ft w n (μ.ob n)) : ∃ o, H a = some o ∧ isM o = true := by
  cases e : μ.ob n with
  | none => rw [e] at h; cases h
  | some o =>
    have q := S.ok n o e
    rw [e] at h
    cases o with
    | lst vs =>
      obtain ⟨us, q, _⟩ := q
      cases List.mem_singleton.mp h
      exact ⟨_, q, rfl⟩
    | dct kvs =>
      obtain ⟨us, q, _⟩ := q
      cases List.mem_singleton.mp h
      exact ⟨_, q, rfl⟩
    | ro vs => cases h
    | rod kvs => cases h
    | sys v => exact foot_m q.2.1 h
theorem sqt_keep (k : ∀ a o, H a = some o → isM o = false → H' a = some o) {a : Addr} {xs : List V} (h : SqT K H a xs) : SqT K H' a xs := by
  rcases h with (h | ⟨o, h⟩) | h
  · exact .inl (.inl (k _ _ h rfl))
  · exact .inl (.inr ⟨o, k _ _ h rfl⟩)
  · exact .inr h
theorem rol_keep (k : ∀ a o, H a = some o → isM o = false → H' a = some o) {a : Addr} {xs : List V} (h : RoL K H a xs) : RoL K H' a xs := by
  rcases h with ⟨o, h⟩ | h
  · exact .inl ⟨o, k _ _ h rfl⟩
  · exact .inr h
/-- an object whose part of the heap stands as before -/
theorem ObR.keep {b b' : Nat} {n : Nat} {o : Ob} (h : ObR K w b H n o) (g : Grow K w b H w' b' H') (hn : n < b) (hs : w'.sy n = w.sy n) (ho : ∀ a, (∃ o u, H a = some (.frz o u)) → w'.own a = w.own a) (k : ∀ a o, H a = some o → isM o = false → H' a = some o) (kf : ∀ a u, a ∈ ft w n (some o) → H a = some u → H' a = some u) : ObR K w' b' H' n o := by
  have ea := g.ad n hn
  cases o with
  | lst vs =>
    obtain ⟨us, h1, h2⟩ := h
    refine ⟨us, ?_, h2.grow g⟩
    rw [ea]
    exact kf _ _ (by simp [ft]) h1
  | dct kvs =>
    obtain ⟨us, h1, h2, h3⟩ := h
    refine ⟨us, ?_, h2, h3.grow g⟩
    rw [ea]
    exact kf _ _ (by simp [ft]) h1
  | ro vs =>
    obtain ⟨us, h1, h2⟩ := h
    refine ⟨us, ?_, h2.grow g⟩
    rw [ea]
    exact rol_keep k h1
  | rod kvs =>
    obtain ⟨h0, o, us, h1, h2, h3⟩ := h
    refine ⟨?_, o, us, ?_, h2, h3.grow g⟩
    · rw [ea, ho _ ⟨_, _, h1⟩]
      exact h0
    · rw [ea]
      exact k _ _ h1 rfl
  | sys v =>
    obtain ⟨h1, h2, h3, h4⟩ := h
    refine ⟨by rw [ea, hs]; exact h1, by rw [hs]; exact h2.same fun b o e m => kf b o m e, by rw [hs]; exact h3, h4⟩
/-- the heap grows -/
theorem Sim.same (S : Sim K w μ H) (e : Same H H') : Sim K w μ H' ∧ Grow K w μ.nx H w μ.nx H' := by
  have g : Grow K w μ.nx H w μ.nx H' := ⟨⟨Nat.le_refl _, fun _ _ => rfl, fun a xs h => sqt_keep (fun a o h _ => e a o h) h⟩, fun a o u h => e _ _ h⟩
  exact ⟨⟨S.bd, fun n o h => (S.ok n o h).keep g (S.lt h) rfl (fun _ _ => rfl) (fun a o h _ => e a o h) (fun a u _ h => e a u h), S.dj, S.tb.ext e⟩, g⟩
/-- the tables grow -/
theorem Sim.extN (S : Sim K w μ H) (e : ExtN H H') (t : Tabs (TbK K) H') : Sim K w μ H' ∧ Grow K w μ.nx H w μ.nx H' := by
  have k1 : ∀ a o, H a = some o → isM o = true → H' a = some o := fun a o h z => e a o h (fun ps q => by subst q; cases z)
  have k0 : ∀ a o xs, H a = some o → (o = .tup xs ∨ ∃ q y, o = .frz q y) → H' a = some o := fun a o xs h z => e a o h (fun ps q => by
    subst q
    rcases z with z | ⟨_, _, z⟩ <;> cases z)
  have g : Grow K w μ.nx H w μ.nx H' := ⟨⟨Nat.le_refl _, fun _ _ => rfl, fun a xs h => by
    rcases h with (h | ⟨o, h⟩) | h
    · exact .inl (.inl (k0 _ _ xs h (.inl rfl)))
    · exact .inl (.inr ⟨o, k0 _ _ xs h (.inr ⟨_, _, rfl⟩)⟩)
    · exact .inr h⟩, fun a o u h => k0 _ _ [] h (.inr ⟨_, _, rfl⟩)⟩
  refine ⟨⟨S.bd, fun n o h => ?_, S.dj, t⟩, g⟩
  have q := S.ok n o h
  have fm : ∀ a u, a ∈ ft w n (some o) → H a = some u → H' a = some u := fun a u m z => by
    obtain ⟨u', h', q'⟩ := S.ftm (n := n) (by rw [h]; exact m)
    rw [z] at h'
    cases h'
    exact k1 a u z q'
  cases o with
  | lst vs =>
    obtain ⟨us, h1, h2⟩ := q
    exact ⟨us, fm _ _ (by simp [ft]) h1, h2.grow g⟩
  | dct kvs =>
    obtain ⟨us, h1, h2, h3⟩ := q
    exact ⟨us, fm _ _ (by simp [ft]) h1, h2, h3.grow g⟩
  | ro vs =>
    obtain ⟨us, h1, h2⟩ := q
    refine ⟨us, ?_, h2.grow g⟩
    rcases h1 with ⟨o, h1⟩ | h1
    · exact .inl ⟨o, k0 _ _ us h1 (.inr ⟨_, _, rfl⟩)⟩
    · exact .inr h1
  | rod kvs =>
    obtain ⟨h0, o, us, h1, h2, h3⟩ := q
    exact ⟨h0, o, us, k0 _ _ [] h1 (.inr ⟨_, _, rfl⟩), h2, h3.grow g⟩
  | sys v =>
    obtain ⟨h1, h2, h3, h4⟩ := q
    exact ⟨h1, h2.same fun b o e m => fm b o m e, h3, h4⟩
/-- one object changes -/
theorem Sim.step (S : Sim K w μ H) {n : Nat} {o o' : Ob} (hn : μ.ob n = some o) (ha : w'.ad = w.ad) (hs : ∀ m, m ≠ n → w'.sy m = w.sy m) (k : ∀ a u, H a = some u → a ∉ ft w n (some o) → H' a = some u) (hf : ∀ a ∈ ft w' n (some o'), a ∈ ft w n (some o) ∨ H a = none)
    (hr : Grow K w μ.nx H w' μ.nx H' → ObR K w' μ.nx H' n o') (ho : ∀ a, (∃ o u, H a = some (.frz o u)) → w'.own a = w.own a := by exact fun _ _ => rfl) : Sim K w' (μ.put n o') H' ∧ Grow K w μ.nx H w' μ.nx H' := by
  have fm : ∀ a ∈ ft w n (some o), ∃ u, H a = some u ∧ isM u = true := fun a h => S.ftm (n := n) (by rw [hn]; exact h)
  have km : ∀ a u, H a = some u → isM u = false → H' a = some u := fun a u h z => k a u h fun m => by
    obtain ⟨u', h', q⟩ := fm a m
    rw [h] at h'
    cases h'
    rw [z] at q
    cases q
  have g : Grow K w μ.nx H w' μ.nx H' := ⟨⟨Nat.le_refl _, fun m _ => by rw [ha], fun a xs h => sqt_keep km h⟩, fun a o u h => km _ _ h rfl⟩
  have fo : ∀ m, m ≠ n → ∀ p, ft w' m p = ft w m p := fun m hm p => by
    unfold ft
    rw [ha, hs m hm]
  have disj : ∀ m, m ≠ n → ∀ a ∈ ft w' n (some o'), a ∉ ft w m (μ.ob m) := fun m hm a h z => by
    rcases hf a h with q | q
    · exact S.dj n m (Ne.symm hm) a (by rw [hn]; exact q) z
    · obtain ⟨u, h', _⟩ := S.ftm z
      rw [q] at h'
      cases h'
  refine ⟨⟨fun m h => ?_, fun m p h => ?_, fun m1 m2 hm a h1 h2 => ?_, tabs_keep (K := K) S.tb km⟩, g⟩
  · have : m ≠ n := fun z => by
      have := S.lt hn
      rw [z] at h
      exact absurd this (Nat.not_lt.mpr h)
    rw [Mu.put_ne _ _ this]
    exact S.bd m h
  · by_cases e : m = n
    · subst e
      rw [Mu.put_same] at h
      cases h
      exact hr g
    · rw [Mu.put_ne _ _ e] at h
      exact (S.ok m p h).keep g (S.lt h) (hs m e) ho km fun a u m' h' => k a u h' fun z => S.dj m n e a (by rw [h]; exact m') (by rw [hn]; exact z)
  · by_cases e1 : m1 = n
    · subst e1
      rw [Mu.put_same] at h1
      rw [Mu.put_ne _ _ (Ne.symm hm), fo m2 (Ne.symm hm)] at h2
      exact disj m2 (Ne.symm hm) a h1 h2
    · by_cases e2 : m2 = n
      · subst e2
        rw [Mu.put_same] at h2
        rw [Mu.put_ne _ _ e1, fo m1 e1] at h1
        exact disj m1 e1 a h2 h1
      · rw [Mu.put_ne _ _ e1, fo m1 e1] at h1
        rw [Mu.put_ne _ _ e2, fo m2 e2] at h2
        exact S.dj m1 m2 hm a h1 h2
def Wt.add (w : Wt) (n : Nat) (p : Addr) (s : Sy) : Wt := ⟨fun m => if m = n then p else w.ad m, fun m => if m = n then s else w.sy m, w.own⟩
theorem Wt.add_ad (w : Wt) (n : Nat) (p : Addr) (s : Sy) : (w.add n p s).ad n = p := if_pos rfl
theorem Wt.add_sy (w : Wt) (n : Nat) (p : Addr) (s : Sy) : (w.add n p s).sy n = s := if_pos rfl
theorem Wt.add_ne (w : Wt) {n m : Nat} (p : Addr) (s : Sy) (h : m ≠ n) : (w.add n p s).ad m = w.ad m ∧ (w.add n p s).sy m = w.sy m := ⟨if_neg h, if_neg h⟩
/-- an object that stands in the heap is taken in -/
theorem Sim.add (S : Sim K w μ H) {p : Addr} {s : Sy} {o : Ob} (hf : ∀ a ∈ ft (w.add μ.nx p s) μ.nx (some o), ∀ m, a ∉ ft w m (μ.ob m)) (hr : Grow K w μ.nx H (w.add μ.nx p s) (μ.nx + 1) H → ObR K (w.add μ.nx p s) (μ.nx + 1) H μ.nx o) :
    Sim K (w.add μ.nx p s) (μ.new o) H ∧ Grow K w μ.nx H (w.add μ.nx p s) (μ.nx + 1) H := by
  have g : Grow K w μ.nx H (w.add μ.nx p s) (μ.nx + 1) H := ⟨⟨Nat.le_succ _, fun n h => (w.add_ne p s (Nat.ne_of_lt h)).1, fun _ _ h => h⟩, fun _ _ _ h => h⟩
  have fo : ∀ m, m ≠ μ.nx → ∀ q, ft (w.add μ.nx p s) m q = ft w m q := fun m hm q => by
    unfold ft
    rw [(w.add_ne p s hm).1, (w.add_ne p s hm).2]
  refine ⟨⟨fun m h => ?_, fun m q h => ?_, fun m1 m2 hm a h1 h2 => ?_, S.tb⟩, g⟩
  · have h : μ.nx + 1 ≤ m := h
    rw [Mu.new_ne _ _ (by omega)]
    exact S.bd m (by omega)
  · by_cases e : m = μ.nx
    · subst e
      rw [Mu.new_same] at h
      cases h
      exact hr g
    · rw [Mu.new_ne _ _ e] at h
      exact (S.ok m q h).keep g (S.lt h) (w.add_ne p s e).2 (fun _ _ => rfl) (fun _ _ h _ => h) (fun _ _ _ h => h)
  · by_cases e1 : m1 = μ.nx
    · subst e1
      rw [Mu.new_same] at h1
      rw [Mu.new_ne _ _ (Ne.symm hm), fo m2 (Ne.symm hm)] at h2
      exact hf a h1 m2 h2
    · by_cases e2 : m2 = μ.nx
      · subst e2
        rw [Mu.new_same] at h2
        rw [Mu.new_ne _ _ e1, fo m1 e1] at h1
        exact hf a h2 m1 h1
      · rw [Mu.new_ne _ _ e1, fo m1 e1] at h1
        rw [Mu.new_ne _ _ e2, fo m2 e2] at h2
        exact S.dj m1 m2 hm a h1 h2
/-- a new list is laid -/
theorem Sim.newL (S : Sim K w μ H) {p : Addr} (hp : H p = none) {vs : List Val} {us : List V} (r : VRs K w.ad μ.nx H vs us) : ∃ w', Sim K w' (μ.new (.lst vs)) (upd H p (.lst us)) ∧ Grow K w μ.nx H w' (μ.nx + 1) (upd H p (.lst us)) ∧ w'.ad μ.nx = p := by
  obtain ⟨S1, g1⟩ := S.same (H' := upd H p (.lst us)) (fun b o h => by rw [upd_ne (ne_of_none h hp)]; exact h)
  obtain ⟨S2, g2⟩ := S1.add (p := p) (s := w.sy 0) (o := .lst vs) (fun a ha m z => by
    have e : a = p := by simpa [ft, Wt.add] using ha
    subst e
    obtain ⟨u, h, _⟩ := S.ftm z
    rw [hp] at h
    cases h) (fun g => ⟨us, by rw [Wt.add_ad]; exact upd_same, (r.grow g1).grow g⟩)
  exact ⟨_, S2, g1.trans g2, Wt.add_ad ..⟩
/-- a new tuple is laid -/
theorem Sim.newT (S : Sim K w μ H) {p : Addr} (hp : H p = none) {vs : List Val} {us : List V} (r : VRs K w.ad μ.nx H vs us) : Sim K w μ (upd H p (.tup us)) ∧ Grow K w μ.nx H w μ.nx (upd H p (.tup us)) ∧ VR K w.ad μ.nx (upd H p (.tup us)) (.tup vs) (.ref p) := by
  obtain ⟨S1, g1⟩ := S.same (H' := upd H p (.tup us)) (fun b o h => by rw [upd_ne (ne_of_none h hp)]; exact h)
  exact ⟨S1, g1, .tup (SqT.of upd_same) (r.grow g1)⟩
theorem Sim.newD (S : Sim K w μ H) {p : Addr} (hp : H p = none) {kvs : List (Key × Val)} {us : List (Key × V)} (hk : us.map (·.1) = kvs.map (·.1)) (r : VRs K w.ad μ.nx H (kvs.map (·.2)) (us.map (·.2))) : ∃ w', Sim K w' (μ.new (.dct kvs)) (upd H p (.dK us)) ∧ Grow K w μ.nx H w' (μ.nx + 1) (upd H p (.dK us)) ∧ w'.ad μ.nx = p := by
  obtain ⟨S1, g1⟩ := S.same (H' := upd H p (.dK us)) (fun b o h => by rw [upd_ne (ne_of_none h hp)]; exact h)
  obtain ⟨S2, g2⟩ := S1.add (p := p) (s := w.sy 0) (o := .dct kvs) (fun a ha m z => by
    have e : a = p := by simpa [ft, Wt.add] using ha
    subst e
    obtain ⟨u, h, _⟩ := S.ftm z
    rw [hp] at h
    cases h) (fun g => ⟨us, by rw [Wt.add_ad]; exact upd_same, hk, (r.grow g1).grow g⟩)
  exact ⟨_, S2, g1.trans g2, Wt.add_ad ..⟩
/-- a list, a dict is written -/
theorem Sim.setL (S : Sim K w μ H) {n : Nat} {vs0 vs : List Val} {us : List V} (hn : μ.ob n = some (.lst vs0)) (r : VRs K w.ad μ.nx H vs us) : Sim K w (μ.put n (.lst vs)) (upd H (w.ad n) (.lst us)) ∧ Grow K w μ.nx H w μ.nx (upd H (w.ad n) (.lst us)) := by
  refine S.step hn rfl (fun _ _ => rfl) (fun a u h m => ?_) (fun a h => .inl h) (fun g => ⟨us, upd_same, r.grow g⟩)
  rw [upd_ne (fun z => m (by simp [ft, z]))]
  exact h
theorem Sim.setD (S : Sim K w μ H) {n : Nat} {k0 kvs : List (Key × Val)} {us : List (Key × V)} (hn : μ.ob n = some (.dct k0)) (hk : us.map (·.1) = kvs.map (·.1)) (r : VRs K w.ad μ.nx H (kvs.map (·.2)) (us.map (·.2))) : Sim K w (μ.put n (.dct kvs)) (upd H (w.ad n) (.dK us)) ∧ Grow K w μ.nx H w μ.nx (upd H (w.ad n) (.dK us)) := by
  refine S.step hn rfl (fun _ _ => rfl) (fun a u h m => ?_) (fun a h => .inl h) (fun g => ⟨us, upd_same, hk, r.grow g⟩)
  rw [upd_ne (fun z => m (by simp [ft, z]))]
  exact h
/-- a system is changed by a call -/
theorem Sim.setS (S : Sim K w μ H) {n : Nat} {v0 v : Sv} {s' : Sy} (hn : μ.ob n = some (.sys v0)) (h1 : SyAt K H' s') (h2 : s'.v = v) (h3 : WF v) (f : Fr' (w.sy n) s' H H') : ∃ w', Sim K w' (μ.put n (.sys v)) H' ∧ Grow K w μ.nx H w' μ.nx H' ∧ (∀ m, w'.ad m = w.ad m) ∧ (∀ m, m ≠ n → w'.sy m = w.sy m) ∧ w'.sy n = s' := by
  obtain ⟨q1, q2⟩ := S.step (w' := ⟨w.ad, fun m => if m = n then s' else w.sy m, w.own⟩) (H' := H') (o' := .sys v) hn rfl (fun m hm => if_neg hm) (fun a u h m => f.keep a u h m) (fun a h => by
    have h : a ∈ (if n = n then s' else w.sy n).foot := h
    rw [if_pos rfl] at h
    exact f.foot a h) (fun g => by
    show (if n = n then s' else w.sy n).p = w.ad n ∧ SyAt K H' (if n = n then s' else w.sy n) ∧ (if n = n then s' else w.sy n).v = v ∧ WF v
    rw [if_pos rfl]
    exact ⟨f.same.trans (S.ok n _ hn).1, h1, h2, h3⟩)
  exact ⟨_, q1, q2, fun _ => rfl, fun m hm => if_neg hm, if_pos rfl⟩
/-- a new system is taken in -/
theorem Sim.newS (S : Sim K w μ H) {v : Sv} {s : Sy} (e : Same H H') (h1 : SyAt K H' s) (h2 : s.v = v) (h3 : WF v) (f : ∀ c ∈ s.foot, H c = none) : ∃ w', Sim K w' (μ.new (.sys v)) H' ∧ Grow K w μ.nx H w' (μ.nx + 1) H' ∧ w'.ad μ.nx = s.p := by
  obtain ⟨S1, g1⟩ := S.same e
  obtain ⟨S2, g2⟩ := S1.add (p := s.p) (s := s) (o := .sys v) (fun a ha m z => by
    have ha : a ∈ ((w.add μ.nx s.p s).sy μ.nx).foot := ha
    rw [Wt.add_sy] at ha
    obtain ⟨u, h, _⟩ := S.ftm z
    rw [f a ha] at h
    cases h) (fun g => by
    show ((w.add μ.nx s.p s).sy μ.nx).p = (w.add μ.nx s.p s).ad μ.nx ∧ SyAt K H' ((w.add μ.nx s.p s).sy μ.nx) ∧ ((w.add μ.nx s.p s).sy μ.nx).v = v ∧ WF v
    rw [Wt.add_sy, Wt.add_ad]
    exact ⟨rfl, h1, h2, h3⟩)
  exact ⟨_, S2, g1.trans g2, Wt.add_ad ..⟩
end
section
variable {K : PySem.W.Frag} {w w' : Wt} {μ : Mu} {H H' : Hp} {n : Nat} {kvs : List (Key × Val)} {us : List (Key × V)} {o : Obj}
/-- a dict is locked -/
theorem Sim.lock (S : Sim K w μ H) (hn : μ.ob n = some (.dct kvs)) (hd : H (w.ad n) = some (.dK us)) (hk : us.map (·.1) = kvs.map (·.1)) (r : VRs K w.ad μ.nx H (kvs.map (·.2)) (us.map (·.2))) :
    ∃ w', Sim K w' (μ.put n (.rod kvs)) (upd H (w.ad n) (.frz o (.dK us))) ∧ Grow K w μ.nx H w' μ.nx (upd H (w.ad n) (.frz o (.dK us))) ∧ w'.ad = w.ad := by
  obtain ⟨q1, q2⟩ := S.step (w' := ⟨w.ad, w.sy, fun a => if a = w.ad n then n else w.own a⟩) (H' := upd H (w.ad n) (.frz o (.dK us))) (o' := .rod kvs) hn rfl (fun _ _ => rfl) (fun a u h m => by
    rw [upd_ne (fun z => m (by simp [ft, z]))]
    exact h) (fun a h => by cases h) (fun g => ⟨if_pos rfl, o, us, upd_same, hk, r.grow g⟩) (fun a ⟨o', u', h⟩ => if_neg fun z => by
      rw [z, hd] at h
      cases h)
  exact ⟨_, q1, q2, rfl⟩
theorem Sim.unlk (S : Sim K w μ H) (hn : μ.ob n = some (.rod kvs)) (hd : H (w.ad n) = some (.frz o (.dK us))) : Sim K w (μ.put n (.dct kvs)) (upd H (w.ad n) (.dK us)) := by
  obtain ⟨h0, o', us', e1, e2, e3⟩ := S.ok _ _ hn
  rw [hd] at e1
  cases e1
  have ne : ∀ a u, H a = some u → (∀ o' u', u ≠ .frz o' u') → a ≠ w.ad n := fun a u h z q => by
    rw [q, hd] at h
    exact z _ _ (Option.some.inj h).symm
  have tup : ∀ a xs, SqT K H a xs → SqT K (upd H (w.ad n) (.dK us)) a xs := fun a xs h => by
    rcases h with (h | ⟨o, h⟩) | h
    · exact .inl (.inl (by rw [upd_ne (ne _ _ h (fun _ _ z => by cases z))]; exact h))
    · refine .inl (.inr ⟨o, ?_⟩)
      rw [upd_ne]
      · exact h
      · intro q
        rw [q, hd] at h
        cases h
    · exact .inr h
  have g : Grow0 K w μ.nx H w μ.nx (upd H (w.ad n) (.dK us)) := ⟨Nat.le_refl _, fun _ _ => rfl, tup⟩
  have km : ∀ a u, H a = some u → isM u = true → upd H (w.ad n) (.dK us) a = some u := fun a u h z => by
    rw [upd_ne (ne _ _ h (fun _ _ q => by subst q; cases z))]
    exact h
  have fm : ∀ m a u, a ∈ ft w m (μ.ob m) → H a = some u → upd H (w.ad n) (.dK us) a = some u := fun m a u hm h => by
    obtain ⟨u', h', z⟩ := S.ftm hm
    rw [h] at h'
    cases h'
    exact km a u h z
  have nft : ∀ m, w.ad n ∉ ft w m (μ.ob m) := fun m z => by
    obtain ⟨u', h', z⟩ := S.ftm z
    rw [hd] at h'
    cases h'
    cases z
  refine ⟨fun m h => ?_, fun m p h => ?_, fun m1 m2 hm a h1 h2 => ?_, fun p hp => ?_⟩
  · have : m ≠ n := fun z => by
      have := S.lt hn
      rw [z] at h
      exact absurd this (Nat.not_lt.mpr h)
    rw [Mu.put_ne _ _ this]
    exact S.bd m h
  · by_cases e : m = n
    · subst e
      rw [Mu.put_same] at h
      cases h
      exact ⟨us, upd_same, e2, e3.grow0 g⟩
    · rw [Mu.put_ne _ _ e] at h
      have q := S.ok m p h
      cases p with
      | lst vs =>
        obtain ⟨us', h1, h2⟩ := q
        exact ⟨us', fm m _ _ (by rw [h]; simp [ft]) h1, h2.grow0 g⟩
      | dct kvs =>
        obtain ⟨us', h1, h2, h3⟩ := q
        exact ⟨us', fm m _ _ (by rw [h]; simp [ft]) h1, h2, h3.grow0 g⟩
      | ro vs =>
        obtain ⟨us', h1, h2⟩ := q
        refine ⟨us', ?_, h2.grow0 g⟩
        rcases h1 with ⟨o, h1⟩ | h1
        · refine .inl ⟨o, ?_⟩
          rw [upd_ne]
          · exact h1
          · intro q
            rw [q, hd] at h1
            cases h1
        · exact .inr h1
      | rod kvs' =>
        obtain ⟨g0, o', us', h1, h2, h3⟩ := q
        refine ⟨g0, o', us', ?_, h2, h3.grow0 g⟩
        rw [upd_ne]
        · exact h1
        · intro q
          rw [q, h0] at g0
          exact e g0.symm
      | sys v =>
        obtain ⟨h1, h2, h3, h4⟩ := q
        exact ⟨h1, h2.same fun b o e' mb => fm m b o (by rw [h]; exact mb) e', h3, h4⟩
  · have two : ∀ {m a}, m ≠ n → a ∈ ft w m ((μ.put n (.dct kvs)).ob m) → a ∈ ft w m (μ.ob m) := fun {m a} h z => by
      rw [Mu.put_ne _ _ h] at z
      exact z
    by_cases e1 : m1 = n
    · subst e1
      rw [Mu.put_same] at h1
      cases List.mem_singleton.mp h1
      exact nft m2 (two (Ne.symm hm) h2)
    · by_cases e2 : m2 = n
      · subst e2
        rw [Mu.put_same] at h2
        cases List.mem_singleton.mp h2
        exact nft m1 (two e1 h1)
      · exact S.dj m1 m2 hm a (two e1 h1) (two e2 h2)
  · obtain ⟨ps, h1, h2, h3⟩ := S.tb p hp
    refine ⟨ps, by rw [upd_ne (ne _ _ h1 (fun _ _ z => by cases z))]; exact h1, h2, fun pos cv hc => ?_⟩
    obtain ⟨c, z1, z2⟩ := h3 pos cv hc
    exact ⟨c, z1, by rw [upd_ne (ne _ _ z2 (fun _ _ z => by unfold CodeO at z; cases z))]; exact z2⟩
theorem Grow.unlk {b b' : Nat} {d : Addr} {H0 : Hp} (g : Grow K w b (upd H0 d (.frz o (.dK us))) w' b' H') (hd : H0 d = some (.dK us)) : Grow K w b H0 w' b' (upd H' d (.dK us)) := by
  have h' : H' d = some (.frz o (.dK us)) := g.fz _ _ _ upd_same
  refine ⟨⟨g.le, g.ad, fun a xs h => ?_⟩, fun a o' u h => ?_⟩
  · have q : SqT K (upd H0 d (.frz o (.dK us))) a xs := by
      rcases h with (h | ⟨o, h⟩) | h
      · exact .inl (.inl (by rw [upd_ne (fun z => by rw [z, hd] at h; cases h)]; exact h))
      · exact .inl (.inr ⟨o, by rw [upd_ne (fun z => by rw [z, hd] at h; cases h)]; exact h⟩)
      · exact .inr h
    have q := g.tp a xs q
    rcases q with (h | ⟨o, h⟩) | h
    · exact .inl (.inl (by rw [upd_ne (fun z => by rw [z, h'] at h; cases h)]; exact h))
    · exact .inl (.inr ⟨o, by rw [upd_ne (fun z => by rw [z, h'] at h; cases h)]; exact h⟩)
    · exact .inr h
  · have ne : a ≠ d := fun z => by
      rw [z, hd] at h
      cases h
    have q := g.fz a o' u (by rw [upd_ne ne]; exact h)
    rw [upd_ne ne]
    exact q
end
end Wn
/-! the law's level: expressions -/
namespace Wn
open PySem PySem.Spec PyProof.Rows L2 LamX He

inductive R (α : Type) where
  | ok (a : α) (μ : Mu)
  | er (c : Str) (fs : List (Str × Val)) (μ : Mu)
  | no
def R.bind {α β : Type} (r : R α) (k : α → Mu → R β) : R β := match r with
  | .ok a μ => k a μ
  | .er c fs μ => .er c fs μ
  | .no => .no
@[simp] theorem R.bind_ok {α β : Type} (a : α) (μ : Mu) (k : α → Mu → R β) : (R.ok a μ).bind k = k a μ := rfl
@[simp] theorem R.bind_no {α β : Type} (k : α → Mu → R β) : (R.no : R α).bind k = .no := rfl
@[simp] theorem R.bind_er {α β : Type} (c : Str) (fs : List (Str × Val)) (μ : Mu) (k : α → Mu → R β) : (R.er c fs μ : R α).bind k = .er c fs μ := rfl
abbrev Rho := List (Option Val)
abbrev ME := Rho → Mu → R Val
abbrev MA := Rho → Mu → R (List Val)
abbrev MT := Rho → Mu → R Bool
def EnvR (K : PySem.W.Frag) (w : Wt) (b : Nat) (H : Hp) (ρ : Rho) (σ : L2.St) : Prop := ρ.length = σ.length ∧ ∀ (i : Nat) (v : Val), ρ[i]? = some (some v) → ∃ u : V, σ[i]? = some (some u) ∧ VR K w.ad b H v u
theorem EnvR.grow {K : PySem.W.Frag} {w w' : Wt} {b b' : Nat} {H H' : Hp} {ρ : Rho} {σ : L2.St} (h : EnvR K w b H ρ σ) (g : Grow K w b H w' b' H') : EnvR K w' b' H' ρ σ :=
  ⟨h.1, fun i v e => let ⟨u, q, r⟩ := h.2 i v e; ⟨u, q, r.grow g⟩⟩
theorem EnvR.set {K : PySem.W.Frag} {w : Wt} {b : Nat} {H : Hp} {ρ : Rho} {σ : L2.St} (h : EnvR K w b H ρ σ) (i : Nat) {v : Val} {u : V} (r : VR K w.ad b H v u) : EnvR K w b H (ρ.set i (some v)) (σ.set i (some u)) := by
  refine ⟨by rw [List.length_set, List.length_set]; exact h.1, fun j x e => ?_⟩
  rw [List.getElem?_set] at e ⊢
  by_cases c : i = j
  · subst c
    by_cases d : i < ρ.length
    · rw [if_pos rfl, if_pos d] at e
      cases e
      exact ⟨u, by rw [if_pos rfl, if_pos (by rw [← h.1]; exact d)], r⟩
    · rw [if_pos rfl, if_neg d] at e
      cases e
  · rw [if_neg c] at e ⊢
    exact h.2 j x e
section
variable {K : PySem.W.Frag} {α β γ δ : Type}
abbrev Rel (α β : Type) := Wt → Nat → Hp → α → β → Prop
def relE (K : PySem.W.Frag) : Rel Val V := fun w b H v u => VR K w.ad b H v u
def relA (K : PySem.W.Frag) : Rel (List Val) (List V) := fun w b H v u => VRs K w.ad b H v u
def relT : Rel Bool Bool := fun _ _ _ v u => v = u
def Post (K : PySem.W.Frag) (rel : Rel α β) (E : XK) (w : Wt) (b : Nat) (H : Hp) (Q : β → Hp → Prop) : R α → Prop
  | .ok a μ' => ∀ w' H' u, Sim K w' μ' H' → rel w' μ'.nx H' a u → Grow K w b H w' μ'.nx H' → Q u H'
  | .er c fs μ' => ∀ w' H' d us, Sim K w' μ' H' → Grow K w b H w' μ'.nx H' → H' d = some (.xd us) → us.map (·.1) = fs.map (·.1) → VRs K w'.ad μ'.nx H' (fs.map (·.2)) (us.map (·.2)) → E (.ref (ga K c)) (some d) H'
  | .no => False
theorem Post.grow {rel : Rel α β} {E : XK} {w w1 : Wt} {b b1 : Nat} {H H1 : Hp} {Q : β → Hp → Prop} {r : R α} (h : Post K rel E w b H Q r) (g : Grow K w b H w1 b1 H1) : Post K rel E w1 b1 H1 Q r := by
  cases r with
  | ok a μ => exact fun w' H' u S r g' => h w' H' u S r (g.trans g')
  | er c fs μ => exact fun w' H' d us S g' => h w' H' d us S (g.trans g')
  | no => exact h
theorem Post.bind {rel : Rel α β} {rel' : Rel γ δ} {E : XK} {w : Wt} {b : Nat} {H : Hp} {Q : δ → Hp → Prop} {Q1 : β → Hp → Prop} {r : R α} {k : α → Mu → R γ} (h : Post K rel' E w b H Q (r.bind k))
    (f : ∀ a μ1 w1 H1 u1, Sim K w1 μ1 H1 → rel w1 μ1.nx H1 a u1 → Grow K w b H w1 μ1.nx H1 → Post K rel' E w1 μ1.nx H1 Q (k a μ1) → Q1 u1 H1) : Post K rel E w b H Q1 r := by
  cases r with
  | ok a μ1 => exact fun w1 H1 u1 S r g => f a μ1 w1 H1 u1 S r g (Post.grow h g)
  | er c fs μ => exact h
  | no => exact h.elim
def tM (K : PySem.W.Frag) (rel : Rel α β) (E : XK) (m : Rho → Mu → R α) : L2.St → Hp → (β → Hp → Prop) → Prop := fun σ H Q => ∃ w ρ μ, Sim K w μ H ∧ EnvR K w μ.nx H ρ σ ∧ Post K rel E w μ.nx H Q (m ρ μ)
end
def PM (X : Cx) (E : XK) (e : Expr) (m : ME) : Prop := PE X e (tM X.K (relE X.K) E m)
def PMA (X : Cx) (E : XK) (es : List Expr) (m : MA) : Prop := PA X es (tM X.K (relA X.K) E m)
def PMT (X : Cx) (E : XK) (e : Expr) (m : MT) : Prop := PT X e (tM X.K relT E m)
theorem PE.imp {X : Cx} {e : Expr} {t t0 : TE} (h : PE X e t) (i : ∀ σ H Q, t0 σ H Q → t σ H Q) : PE X e t0 := ⟨fun pins s σ H Q I hw => h.run pins s σ H Q I (i σ H Q hw)⟩
theorem PA.imp {X : Cx} {e : List Expr} {t t0 : TA} (h : PA X e t) (i : ∀ σ H Q, t0 σ H Q → t σ H Q) : PA X e t0 := ⟨fun pos pins s σ H Q I hw => h.run pos pins s σ H Q I (i σ H Q hw)⟩
theorem PT.imp {X : Cx} {e : Expr} {t t0 : TT} (h : PT X e t) (i : ∀ σ H Q, t0 σ H Q → t σ H Q) : PT X e t0 := ⟨fun pins s σ H Q I hw => h.run pins s σ H Q I (i σ H Q hw)⟩
theorem PW.imp {X : Cx} {e : Expr} {t t0 : TT} (h : PW X e t) (i : ∀ σ H Q, t0 σ H Q → t σ H Q) : PW X e t0 := ⟨fun e' pins s σ H Q I hw => h.run e' pins s σ H Q I (i σ H Q hw)⟩

/-! ### the words of the level -/
def mC (v : Val) : ME := fun _ μ => .ok v μ
def mV (i : Nat) : ME := fun ρ μ => match ρ[i]? with
  | some (some v) => .ok v μ
  | _ => .no
def mNil : MA := fun _ μ => .ok [] μ
def mCons (a : ME) (r : MA) : MA := fun ρ μ => (a ρ μ).bind fun x μ => (r ρ μ).bind fun xs μ => .ok (x :: xs) μ
def mTup (a : MA) : ME := fun ρ μ => (a ρ μ).bind fun xs μ => if xs.length ≤ 1000 then .ok (.tup xs) μ else .no
def mLst (a : MA) : ME := fun ρ μ => (a ρ μ).bind fun xs μ => if xs.length ≤ 1000 then .ok (.loc μ.nx) (μ.new (.lst xs)) else .no
def mOp (f : Val → Val → Mu → R Val) (a b : ME) : ME := fun ρ μ => (a ρ μ).bind fun x μ => (b ρ μ).bind fun y μ => f x y μ
def mUn (f : Val → Mu → R Val) (a : ME) : ME := fun ρ μ => (a ρ μ).bind fun x μ => f x μ
def mFn (f : List Val → Mu → R Val) (a : MA) : ME := fun ρ μ => (a ρ μ).bind fun xs μ => f xs μ
def mMt (f : Val → List Val → Mu → R Val) (o : ME) (a : MA) : ME := fun ρ μ => (o ρ μ).bind fun x μ => (a ρ μ).bind fun xs μ => f x xs μ
def boolM : Val → Mu → R Bool
  | .bl b, μ => .ok b μ
  | _, _ => .no
def mTest (m : ME) : MT := fun ρ μ => (m ρ μ).bind boolM
def mAnd (a b : MT) : MT := fun ρ μ => (a ρ μ).bind fun c μ => if c = true then b ρ μ else .ok false μ
def mOr (a b : MT) : MT := fun ρ μ => (a ρ μ).bind fun c μ => if c = true then .ok true μ else b ρ μ
def mNot (a : MT) : MT := fun ρ μ => (a ρ μ).bind fun c μ => .ok (!c) μ
def mIf (c : MT) (a b : ME) : ME := fun ρ μ => (c ρ μ).bind fun k μ => if k = true then a ρ μ else b ρ μ
/-- a test as a value -/
def mBl (m : MT) : ME := fun ρ μ => (m ρ μ).bind fun k μ => .ok (.bl k) μ

section
variable {X : Cx} {E : XK} {e a b : Expr} {es : List Expr} {ma mb : ME} {mr : MA} {pos : Pos}
theorem pm_var {i : Nat} (h : PE X e (tVar i)) : PM X E e (mV i) := PE.imp h fun σ H Q ⟨w, ρ, μ, S, EN, hp⟩ => by
  unfold mV at hp
  split at hp
  · rename_i v hv
    obtain ⟨u, h1, h2⟩ := EN.2 _ _ hv
    exact ⟨u, h1, hp w H u S h2 .refl⟩
  · exact hp.elim
theorem pm_c {v : Val} {u : V} (h : PE X e (tC u)) (r : ∀ w b H, VR X.K w b H v u) : PM X E e (mC v) := PE.imp h fun σ H Q ⟨w, ρ, μ, S, EN, hp⟩ => hp w H u S (r _ _ _) .refl
theorem pm_int {i j} : PM X E (.Constant (.int i) j pos) (mC (.int i)) := pm_c pe_int fun _ _ _ => .int _
theorem pm_bl {i j} : PM X E (.Constant (.bool i) j pos) (mC (.bl i)) := pm_c pe_bl fun _ _ _ => .bl _
theorem pm_non {j} : PM X E (.Constant .none j pos) (mC .non) := pm_c pe_non fun _ _ _ => .non
theorem pm_str {x j} : PM X E (.Constant (.str x) j pos) (mC (.str x)) := pm_c pe_str fun _ _ _ => .str _
theorem pma_nil : PMA X E [] mNil := PA.imp pa_nil fun σ H Q ⟨w, ρ, μ, S, EN, hp⟩ => hp w H [] S .nil .refl
theorem pma_cons (ha : PM X E e ma) (hr : PMA X E es mr) (hs : starEach (e :: es) X.env = (false, eval e X.env) :: starEach es X.env := by rfl) : PMA X E (e :: es) (mCons ma mr) :=
  PA.imp (pa_cons ha hr hs) fun σ H Q ⟨w, ρ, μ, S, EN, hp⟩ => ⟨w, ρ, μ, S, EN, Post.bind hp fun x μ1 w1 H1 u1 S1 r1 g1 h1 => ⟨w1, ρ, μ1, S1, EN.grow g1, Post.bind h1 fun xs μ2 w2 H2 u2 S2 r2 g2 h2 => h2 w2 H2 _ S2 (.cons (VR.grow g2 r1) r2) .refl⟩⟩
theorem lim1000 {n : Nat} (h : n ≤ 1000) : n ≤ sizeLine := Nat.le_trans h (by decide)
theorem lim6 {n : Nat} (h : n ≤ 1000000) : n < sizeLine := Nat.lt_of_le_of_lt h (by decide)
theorem pm_tup {x1} (h : PMA X E es mr) : PM X E (.Tuple es x1 pos) (mTup mr) :=
  PE.imp (pe_tup h) fun σ H Q ⟨w, ρ, μ, S, EN, hp⟩ => ⟨w, ρ, μ, S, EN, Post.bind hp fun xs μ1 w1 H1 u1 S1 r1 g1 h1 => by
    split at h1
    · rename_i hz
      refine ⟨by rw [VRs.length r1]; exact lim1000 hz, fun p np => ?_⟩
      obtain ⟨S2, g2, v2⟩ := S1.newT np r1
      exact h1 w1 _ _ S2 v2 g2
    · exact h1.elim⟩
theorem pm_lst (h : PMA X E es mr) : PM X E (.List es pos) (mLst mr) :=
  PE.imp (pe_lst h) fun σ H Q ⟨w, ρ, μ, S, EN, hp⟩ => ⟨w, ρ, μ, S, EN, Post.bind hp fun xs μ1 w1 H1 u1 S1 r1 g1 h1 => by
    split at h1
    · rename_i hz
      refine ⟨by rw [VRs.length r1]; exact lim1000 hz, fun p np => ?_⟩
      obtain ⟨w2, S2, g2, e2⟩ := S1.newL np r1
      exact h1 w2 _ _ S2 (by rw [← e2]; exact VR.loc (Nat.lt_succ_self _)) g2
    · exact h1.elim⟩
/-- an operator by values -/
def Prim2 (K : PySem.W.Frag) (r : R2) (f : Val → Val → Mu → R Val) : Prop := ∀ (E : XK) (w : Wt) (μ : Mu) (H : Hp) (x y : Val) (u v : V) (Q : VK), Sim K w μ H → VR K w.ad μ.nx H x u → VR K w.ad μ.nx H y v → Post K (relE K) E w μ.nx H Q (f x y μ) → r u v H Q
def PrimA (K : PySem.W.Frag) (r : List V → Hp → VK → Prop) (f : List Val → Mu → R Val) : Prop := ∀ (E : XK) (w : Wt) (μ : Mu) (H : Hp) (xs : List Val) (us : List V) (Q : VK), Sim K w μ H → VRs K w.ad μ.nx H xs us → Post K (relE K) E w μ.nx H Q (f xs μ) → r us H Q
structure BinP (X : Cx) (op : Operator) (f : Val → Val → Mu → R Val) : Prop where
  ex : ∃ r, OpR X (binaryOp op) r ∧ Prim2 X.K r f
structure CmpP (X : Cx) (op : CmpOp) (f : Val → Val → Mu → R Val) : Prop where
  ex : ∃ r, OpR X (compareOp op) r ∧ Prim2 X.K r f
theorem pm_bin {op : Operator} {f : Val → Val → Mu → R Val} (h : BinP X op f) (ha : PM X E a ma) (hb : PM X E b mb) : PM X E (.BinOp a op b pos) (mOp f ma mb) := by
  obtain ⟨r, ho, hf⟩ := h.ex
  exact PE.imp (pe_op ho ha hb) fun σ H Q ⟨w, ρ, μ, S, EN, hp⟩ => ⟨w, ρ, μ, S, EN, Post.bind hp fun x μ1 w1 H1 u1 S1 r1 g1 h1 => ⟨w1, ρ, μ1, S1, EN.grow g1, Post.bind h1 fun y μ2 w2 H2 u2 S2 r2 g2 h2 => hf E w2 μ2 H2 x y u1 u2 Q S2 (VR.grow g2 r1) r2 h2⟩⟩
theorem pm_cmp {op : CmpOp} {f : Val → Val → Mu → R Val} (h : CmpP X op f) (ha : PM X E a ma) (hb : PM X E b mb) (hm : behindInMarks op b = false := by first | exact nomark _ | rfl) : PM X E (.Compare a [op] [b] pos) (mOp f ma mb) := by
  obtain ⟨r, ho, hf⟩ := h.ex
  exact PE.imp (pe_cmpR ho ha hb hm) fun σ H Q ⟨w, ρ, μ, S, EN, hp⟩ => ⟨w, ρ, μ, S, EN, Post.bind hp fun x μ1 w1 H1 u1 S1 r1 g1 h1 => ⟨w1, ρ, μ1, S1, EN.grow g1, Post.bind h1 fun y μ2 w2 H2 u2 S2 r2 g2 h2 => hf E w2 μ2 H2 x y u1 u2 Q S2 (VR.grow g2 r1) r2 h2⟩⟩
theorem post_test {K : PySem.W.Frag} {w : Wt} {n : Nat} {H : Hp} {Q : Bool → Hp → Prop} {r : R Val} (h : Post K relT E w n H Q (r.bind boolM)) : Post K (relE K) E w n H (fun x H' => ∃ k, x = .bl k ∧ Q k H') r :=
  Post.bind h fun x μ1 w1 H1 u1 S1 r1 g1 h1 => by
    cases x with
    | bl k =>
      cases r1
      exact ⟨k, rfl, h1 w1 H1 k S1 rfl .refl⟩
    | _ => exact h1.elim
theorem pmt_cmp {op : CmpOp} {f : Val → Val → Mu → R Val} (h : CmpP X op f) (ha : PM X E a ma) (hb : PM X E b mb) (hm : behindInMarks op b = false := by first | exact nomark _ | rfl) : PMT X E (.Compare a [op] [b] pos) (mTest (mOp f ma mb)) := by
  obtain ⟨r, ho, hf⟩ := h.ex
  refine PT.imp (pt_cmpR ho ha hb hm) fun σ H Q ⟨w, ρ, μ, S, EN, hp⟩ => ?_
  have hp2 := post_test hp
  exact ⟨w, ρ, μ, S, EN, Post.bind hp2 fun x μ1 w1 H1 u1 S1 r1 g1 h1 => ⟨w1, ρ, μ1, S1, EN.grow g1, Post.bind h1 fun y μ2 w2 H2 u2 S2 r2 g2 h2 => hf E w2 μ2 H2 x y u1 u2 _ S2 (VR.grow g2 r1) r2 h2⟩⟩
theorem pmt_val (ha : PM X E a ma) (he : ∀ whole, isTrue a X.env whole = (do let v ← whole; standAt a.pos; holding [v] (truthy v)) := by intro _; rfl) : PMT X E a (mTest ma) :=
  PT.imp (pt_val ha he) fun σ H Q ⟨w, ρ, μ, S, EN, hp⟩ => ⟨w, ρ, μ, S, EN, post_test hp⟩
variable {ta tb : MT} {rest : List Expr}
def PMW (X : Cx) (E : XK) (e : Expr) (m : MT) : Prop := PW X e (tM X.K relT E m)
theorem PMW.t (h : PMW X E e ta) : PMT X E e ta := PW.pt h
theorem pmw_and1 (ha : PMT X E a ta) : PMW X E (.BoolOp .And [a] pos) ta := pw_and1 ha
theorem pmw_or1 (ha : PMT X E a ta) : PMW X E (.BoolOp .Or [a] pos) ta := pw_or1 ha
theorem pmw_and (ha : PMT X E a ta) (hb : PMW X E (.BoolOp .And (b :: rest) pos) tb) : PMW X E (.BoolOp .And (a :: b :: rest) pos) (mAnd ta tb) :=
  PW.imp (pw_and ha hb) fun σ H Q ⟨w, ρ, μ, S, EN, hp⟩ => ⟨w, ρ, μ, S, EN, Post.bind hp fun x μ1 w1 H1 u1 S1 r1 g1 h1 => by
    cases r1
    cases x with
    | true => exact iteT ⟨w1, ρ, μ1, S1, EN.grow g1, h1⟩
    | false => exact iteF (h1 w1 H1 false S1 rfl .refl)⟩
theorem pmw_or (ha : PMT X E a ta) (hb : PMW X E (.BoolOp .Or (b :: rest) pos) tb) : PMW X E (.BoolOp .Or (a :: b :: rest) pos) (mOr ta tb) :=
  PW.imp (pw_or ha hb) fun σ H Q ⟨w, ρ, μ, S, EN, hp⟩ => ⟨w, ρ, μ, S, EN, Post.bind hp fun x μ1 w1 H1 u1 S1 r1 g1 h1 => by
    cases r1
    cases x with
    | true => exact iteT (h1 w1 H1 true S1 rfl .refl)
    | false => exact iteF ⟨w1, ρ, μ1, S1, EN.grow g1, h1⟩⟩
theorem pmt_not (ha : PMT X E a ta) : PMT X E (.UnaryOp .Not a pos) (mNot ta) :=
  PT.imp (pt_not ha) fun σ H Q ⟨w, ρ, μ, S, EN, hp⟩ => ⟨w, ρ, μ, S, EN, Post.bind hp fun x μ1 w1 H1 u1 S1 r1 g1 h1 => by
    cases r1
    exact h1 w1 H1 _ S1 rfl .refl⟩
theorem pm_ifExp {c : Expr} (hc : PMT X E c ta) (ha : PM X E a ma) (hb : PM X E b mb) : PM X E (.IfExp c a b pos) (mIf ta ma mb) :=
  PE.imp (pe_ifExp hc ha hb) fun σ H Q ⟨w, ρ, μ, S, EN, hp⟩ => ⟨w, ρ, μ, S, EN, Post.bind hp fun x μ1 w1 H1 u1 S1 r1 g1 h1 => by
    cases r1
    cases x with
    | true => exact iteT ⟨w1, ρ, μ1, S1, EN.grow g1, h1⟩
    | false => exact iteF ⟨w1, ρ, μ1, S1, EN.grow g1, h1⟩⟩
/-- x and y, x or y, not x of truths, as values -/
def mAndV (a b : ME) : ME := fun ρ μ => (a ρ μ).bind fun x μ => (boolM x μ).bind fun c μ => if c = true then b ρ μ else .ok (.bl false) μ
def mOrV (a b : ME) : ME := fun ρ μ => (a ρ μ).bind fun x μ => (boolM x μ).bind fun c μ => if c = true then .ok (.bl true) μ else b ρ μ
def mNotV (a : ME) : ME := fun ρ μ => (a ρ μ).bind fun x μ => (boolM x μ).bind fun c μ => .ok (.bl (!c)) μ
/-- calls by values -/
theorem pm_callB {id : String} {x : Str} {r : List V → Hp → VK → Prop} {f : List Val → Mu → R Val} {p : Pos} (hc : CallR X (.builtin id) r) (hf : PrimA X.K r f) (hg : Gl X x) (hm : X.mg x = none) (hv : bootBuiltins x = some (.builtin id)) (ha : PMA X E (e :: es) mr) (hn : x ≠ "__name__" := by decide) (hdb : (x == ("__debug__" : Str)) = false := by decide)
    (he : starEach (e :: es) X.env = (false, eval e X.env) :: starEach es X.env := by rfl) (hpl : (backTo pos (starEach es X.env)).any (·.1) = false := by rfl) : PM X E (.Call (.Name x p) (e :: es) [] pos) (mFn f mr) :=
  PE.imp (pe_callB hc hg hm hv ha hn hdb he hpl) fun σ H Q ⟨w, ρ, μ, S, EN, hp⟩ => ⟨w, ρ, μ, S, EN, Post.bind hp fun xs μ1 w1 H1 u1 S1 r1 g1 h1 => hf E w1 μ1 H1 xs u1 Q S1 r1 h1⟩
theorem pm_callTy {T : String} {x : Str} {r : List V → Hp → VK → Prop} {f : List Val → Mu → R Val} {p : Pos} (hc : CallR X (.type T) r) (hf : PrimA X.K r f) (hg : Gl X x) (hm : X.mg x = none) (hv : bootBuiltins x = some (.type T)) (ha : PMA X E (e :: es) mr) (hn : x ≠ "__name__" := by decide) (hdb : (x == ("__debug__" : Str)) = false := by decide)
    (he : starEach (e :: es) X.env = (false, eval e X.env) :: starEach es X.env := by rfl) (hpl : (backTo pos (starEach es X.env)).any (·.1) = false := by rfl) : PM X E (.Call (.Name x p) (e :: es) [] pos) (mFn f mr) :=
  PE.imp (pe_callTy hc hg hm hv ha hn hdb he hpl) fun σ H Q ⟨w, ρ, μ, S, EN, hp⟩ => ⟨w, ρ, μ, S, EN, Post.bind hp fun xs μ1 w1 H1 u1 S1 r1 g1 h1 => hf E w1 μ1 H1 xs u1 Q S1 r1 h1⟩
end
end Wn
/-! the law's level: operators by values -/
namespace Wn
open PySem PySem.Spec PyProof.Rows L2 LamX He

/-! ### arithmetic -/
instance (i j : Int) : Decidable (CMul i j) := by unfold CMul; infer_instance
instance (i j : Int) : Decidable (CDiv i j) := by unfold CDiv; infer_instance
instance (i j : Int) : Decidable (CPow i j) := by unfold CPow; infer_instance
def addM : Val → Val → Mu → R Val
  | .int i, .int j, μ => .ok (.int (i + j)) μ
  | .str a, .str b, μ => if a.length + b.length ≤ 1000000 then .ok (.str (a ++ b)) μ else .no
  | .tup a, .tup b, μ => if a ≠ [] ∧ a.length + b.length ≤ 1000000 then .ok (.tup (a ++ b)) μ else .no
  | .loc n, .loc m, μ => match μ.ob n, μ.ob m with
    | some (.lst a), some (.lst b) => if a.length + b.length ≤ 1000000 then .ok (.loc μ.nx) (μ.new (.lst (a ++ b))) else .no
    | _, _ => .no
  | _, _, _ => .no
def subM : Val → Val → Mu → R Val
  | .int i, .int j, μ => .ok (.int (i - j)) μ
  | _, _, _ => .no
def mulM : Val → Val → Mu → R Val
  | .int i, .int j, μ => if CMul i j then .ok (.int (i * j)) μ else .no
  | .loc n, .int k, μ => match μ.ob n with
    | some (.lst a) => if 0 ≤ k ∧ k ≤ 1000 ∧ a.length ≤ 1000 then .ok (.loc μ.nx) (μ.new (.lst (List.replicate k.toNat a).flatten)) else .no
    | _ => .no
  | _, _, _ => .no
def modM : Val → Val → Mu → R Val
  | .int i, .int j, μ => if 0 < j then .ok (.int (i % j)) μ else .no
  | _, _, _ => .no
def fdivM : Val → Val → Mu → R Val
  | .int i, .int j, μ => if CDiv i j then .ok (.int (i / j)) μ else .no
  | _, _, _ => .no
def powM : Val → Val → Mu → R Val
  | .int i, .int j, μ => if CPow i j then .ok (.int (i ^ j.toNat)) μ else .no
  | _, _, _ => .no
section
variable {X : Cx}
theorem vr_tup {K : PySem.W.Frag} {ad : Nat → Addr} {b : Nat} {H : Hp} {vs : List Val} {u : V} (h : VR K ad b H (.tup vs) u) : ∃ a us, u = .ref a ∧ SqT K H a us ∧ VRs K ad b H vs us := by
  cases h with
  | tup h r => exact ⟨_, _, rfl, h, r⟩
theorem b_add : BinP X .Add addM := by
  refine ⟨_, (op_add.or (op_add_str.or (op_cat.or op_catT))), ?_⟩
  intro E w μ H x y u v Q S hx hy hp
  unfold addM at hp
  split at hp
  · cases hx; cases hy
    exact .inl ⟨_, _, rfl, rfl, hp w H _ S (.int _) .refl⟩
  · cases hx; cases hy
    split at hp
    · rename_i hz
      exact .inr (.inl ⟨_, _, rfl, rfl, Nat.le_of_lt (lim6 hz), hp w H _ S (.str _) .refl⟩)
    · exact hp.elim
  · obtain ⟨a, us, rfl, ha, ra⟩ := vr_tup hx
    obtain ⟨b, vs, rfl, hb, rb⟩ := vr_tup hy
    split at hp
    · rename_i hz
      refine .inr (.inr (.inr ⟨a, b, us, vs, rfl, rfl, ha, hb, fun z => ?_, ?_, fun z => ?_, fun _ p np => ?_⟩))
      · have := ra.length
        rw [z] at this
        exact hz.1 (List.length_eq_zero_iff.mp this.symm)
      · rw [ra.length, rb.length]
        exact Nat.le_of_lt (lim6 hz.2)
      · subst z
        cases rb
        refine hp w H _ S ?_ .refl
        rw [List.append_nil]
        exact .tup ha ra
      · obtain ⟨S2, g2, v2⟩ := S.newT np (ra.app rb)
        exact hp w _ _ S2 v2 g2
    · exact hp.elim
  · cases hx with
    | loc hn =>
      cases hy with
      | loc hm =>
        split at hp
        · rename_i a b ha hb
          split at hp
          · rename_i hz
            obtain ⟨us, h1, r1⟩ := S.ok _ _ ha
            obtain ⟨vs, h2, r2⟩ := S.ok _ _ hb
            refine .inr (.inr (.inl ⟨_, _, us, vs, rfl, rfl, h1, h2, by rw [r1.length, r2.length]; exact Nat.le_of_lt (lim6 hz), fun p np => ?_⟩))
            obtain ⟨w2, S2, g2, e2⟩ := S.newL np (r1.app r2)
            exact hp w2 _ _ S2 (by rw [← e2]; exact VR.loc (Nat.lt_succ_self _)) g2
          · exact hp.elim
        · exact hp.elim
  · exact hp.elim
theorem b_sub : BinP X .Sub subM := by
  refine ⟨_, op_sub, ?_⟩
  intro E w μ H x y u v Q S hx hy hp
  unfold subM at hp
  split at hp
  · cases hx; cases hy
    exact ⟨_, _, rfl, rfl, hp w H _ S (.int _) .refl⟩
  · exact hp.elim
theorem b_mul : BinP X .Mult mulM := by
  refine ⟨_, op_mul.or op_rep, ?_⟩
  intro E w μ H x y u v Q S hx hy hp
  unfold mulM at hp
  split at hp
  · cases hx; cases hy
    split at hp
    · rename_i hz
      exact .inl ⟨_, _, rfl, rfl, hz, hp w H _ S (.int _) .refl⟩
    · exact hp.elim
  · cases hx with
    | loc hn =>
      cases hy
      split at hp
      · rename_i a ha
        split at hp
        · rename_i hz
          obtain ⟨us, h1, r1⟩ := S.ok _ _ ha
          refine .inr ⟨_, _, us, rfl, rfl, h1, by omega, by omega, ?_, fun p np => ?_⟩
          · rw [r1.length]
            refine Nat.le_trans (Nat.mul_le_mul hz.2.2 (show _ ≤ 1000 by omega)) (by decide)
          · obtain ⟨w2, S2, g2, e2⟩ := S.newL np (VRs.flat _ r1)
            exact hp w2 _ _ S2 (by rw [← e2]; exact VR.loc (Nat.lt_succ_self _)) g2
        · exact hp.elim
      · exact hp.elim
  · exact hp.elim
theorem b_mod : BinP X .Mod modM := by
  refine ⟨_, op_mod, ?_⟩
  intro E w μ H x y u v Q S hx hy hp
  unfold modM at hp
  split at hp
  · cases hx; cases hy
    split at hp
    · rename_i hz
      exact ⟨_, _, rfl, rfl, hz, hp w H _ S (.int _) .refl⟩
    · exact hp.elim
  · exact hp.elim
theorem b_fdiv : BinP X .FloorDiv fdivM := by
  refine ⟨_, op_fdiv, ?_⟩
  intro E w μ H x y u v Q S hx hy hp
  unfold fdivM at hp
  split at hp
  · cases hx; cases hy
    split at hp
    · rename_i hz
      exact ⟨_, _, rfl, rfl, hz, hp w H _ S (.int _) .refl⟩
    · exact hp.elim
  · exact hp.elim
theorem b_pow : BinP X .Pow powM := by
  refine ⟨_, op_pow, ?_⟩
  intro E w μ H x y u v Q S hx hy hp
  unfold powM at hp
  split at hp
  · cases hx; cases hy
    split at hp
    · rename_i hz
      exact ⟨_, _, rfl, rfl, hz, hp w H _ S (.int _) .refl⟩
    · exact hp.elim
  · exact hp.elim
/-! ### comparisons -/
def cmpI (f : Int → Int → Bool) : Val → Val → Mu → R Val
  | .int i, .int j, μ => .ok (.bl (f i j)) μ
  | _, _, _ => .no
def ltM (x y : Val) (μ : Mu) : R Val := cmpI (fun i j => decide (i < j)) x y μ
def leM (x y : Val) (μ : Mu) : R Val := cmpI (fun i j => decide (i ≤ j)) x y μ
def gtM (x y : Val) (μ : Mu) : R Val := cmpI (fun i j => decide (j < i)) x y μ
def geM (x y : Val) (μ : Mu) : R Val := cmpI (fun i j => decide (j ≤ i)) x y μ
theorem prim_cmpI {K : PySem.W.Frag} (f : Int → Int → Bool) : Prim2 K (rI0 fun i j => .bl (f i j)) (cmpI f) := by
  intro E w μ H x y u v Q S hx hy hp
  unfold cmpI at hp
  split at hp
  · cases hx; cases hy
    exact ⟨_, _, rfl, rfl, hp w H _ S (.bl _) .refl⟩
  · exact hp.elim
theorem c_lt : CmpP X .Lt ltM := ⟨_, op_lt, prim_cmpI _⟩
theorem c_le : CmpP X .LtE leM := ⟨_, op_le, prim_cmpI _⟩
theorem c_gt : CmpP X .Gt gtM := ⟨_, op_gt, prim_cmpI _⟩
theorem c_ge : CmpP X .GtE geM := ⟨_, op_ge, prim_cmpI _⟩
def isNon : Val → Bool
  | .non => true
  | _ => false
def isM' : Val → Val → Mu → R Val
  | x, .non, μ => .ok (.bl (isNon x)) μ
  | _, _, _ => .no
def isntM : Val → Val → Mu → R Val
  | x, .non, μ => .ok (.bl (!isNon x)) μ
  | _, _, _ => .no
theorem isNon_eq {K : PySem.W.Frag} {ad : Nat → Addr} {b : Nat} {H : Hp} {x : Val} {u : V} (h : VR K ad b H x u) : decide (u = .non) = isNon x := by
  cases h <;> rfl
theorem c_isnt : CmpP X .IsNot isntM := by
  refine ⟨_, op_notN, ?_⟩
  intro E w μ H x y u v Q S hx hy hp
  unfold isntM at hp
  split at hp
  · cases hy
    refine ⟨rfl, ?_⟩
    rw [isNon_eq hx]
    exact hp w H _ S (.bl _) .refl
  · exact hp.elim
/-! ### data -/
def allO {α : Type} : List (Option α) → Option (List α)
  | [] => some []
  | none :: _ => none
  | some a :: r => match allO r with
    | none => none
    | some l => some (a :: l)
def scaD : Val → Option PyData
  | .non => some .none
  | .bl b => some (.bool b)
  | .int i => some (.int i)
  | .str x => if PyData.strOk x = true then some (.str x) else none
  | _ => none
def seqOf (μ : Mu) (n : Nat) : Option (List Val) := match μ.ob n with
  | some (.lst vs) => some vs
  | some (.ro vs) => some vs
  | _ => none
def toD : Nat → Mu → Val → Option PyData
  | 0, _, v => scaD v
  | k + 1, μ, .tup vs => (allO (vs.map (toD k μ))).map .tuple
  | k + 1, μ, .loc n => match seqOf μ n with
    | none => none
    | some vs => (allO (vs.map (toD k μ))).map .list
  | _ + 1, _, v => scaD v
theorem allO_some {α β : Type} {f : α → Option β} {g : α → β} : ∀ {l : List α}, (∀ x ∈ l, f x = some (g x)) → allO (l.map f) = some (l.map g)
  | [], _ => rfl
  | a :: l, h => by
    rw [List.map_cons, h a List.mem_cons_self, allO, allO_some fun x hx => h x (List.mem_cons_of_mem _ hx)]
    rfl
end
theorem seqOf_sq {K : PySem.W.Frag} {w : Wt} {μ : Mu} {H : Hp} (S : Sim K w μ H) {n : Nat} {vs : List Val} (h : seqOf μ n = some vs) : ∃ us, SqL K H (w.ad n) us ∧ VRs K w.ad μ.nx H vs us := by
  unfold seqOf at h
  split at h
  · rename_i vs' e
    cases h
    obtain ⟨us, h1, h2⟩ := S.ok _ _ e
    exact ⟨us, SqL.of h1, h2⟩
  · rename_i vs' e
    cases h
    obtain ⟨us, h1, h2⟩ := S.ok _ _ e
    exact ⟨us, h1.sq, h2⟩
  · cases h
theorem scaD_dp {K : PySem.W.Frag} {ad : Nat → Addr} {b : Nat} {H : Hp} {v : Val} {u : V} {d : PyData} (h : scaD v = some d) (r : VR K ad b H v u) : Dp K H u d ∧ d.canLay0 = true ∧ d.depth ≤ 1 := by
  unfold scaD at h
  split at h
  · cases h; cases r; exact ⟨.non, rfl, by simp [PyData.depth]⟩
  · cases h; cases r; exact ⟨.bl _, rfl, by simp [PyData.depth]⟩
  · cases h; cases r; exact ⟨.int _, rfl, by simp [PyData.depth]⟩
  · split at h
    · cases h; cases r
      refine ⟨.str _, ?_, by simp [PyData.depth]⟩
      rw [PyData.canLay0]
      assumption
    · cases h
  · cases h
theorem allD {K : PySem.W.Frag} {ad : Nat → Addr} {b : Nat} {H : Hp} {f : Val → Option PyData} {k : Nat} (hf : ∀ v u d, f v = some d → VR K ad b H v u → Dp K H u d ∧ d.canLay0 = true ∧ d.depth ≤ k) : ∀ {vs : List Val} {us : List V} {ds : List PyData}, allO (vs.map f) = some ds → VRs K ad b H vs us → DpAll K H us ds ∧ PyData.canLayAll0 ds = true ∧ PyData.depthAll ds ≤ k
  | [], _, ds, h, r => by
    cases r
    cases h
    exact ⟨.nil, rfl, by simp [PyData.depthAll]⟩
  | v :: vs, _, ds, h, r => by
    cases r with
    | cons r1 r2 =>
      rw [List.map_cons] at h
      cases e : f v with
      | none => rw [e, allO] at h; cases h
      | some d =>
        rw [e, allO] at h
        split at h
        · cases h
        · rename_i l hl
          cases h
          obtain ⟨a1, a2, a3⟩ := hf _ _ _ e r1
          obtain ⟨b1, b2, b3⟩ := allD hf hl r2
          refine ⟨.cons a1 b1, ?_, ?_⟩
          · rw [PyData.canLayAll0, a2, b2]
            rfl
          · rw [PyData.depthAll]
            omega
theorem toD_dp {K : PySem.W.Frag} {w : Wt} {μ : Mu} {H : Hp} (S : Sim K w μ H) : ∀ (k : Nat) (v : Val) (u : V) (d : PyData), toD k μ v = some d → VR K w.ad μ.nx H v u → Dp K H u d ∧ d.canLay0 = true ∧ d.depth ≤ k + 1
  | 0, v, u, d, h, r => scaD_dp h r
  | k + 1, .tup vs, u, d, h, r => by
    rw [toD] at h
    obtain ⟨ds, h1, h2⟩ := Option.map_eq_some_iff.mp h
    subst h2
    obtain ⟨a, us, rfl, ha, ra⟩ := vr_tup r
    obtain ⟨b1, b2, b3⟩ := allD (fun v u d => toD_dp S k v u d) h1 ra
    refine ⟨.tup ha b1, by rw [PyData.canLay0]; exact b2, ?_⟩
    rw [PyData.depth]
    omega
  | k + 1, .loc n, u, d, h, r => by
    rw [toD] at h
    split at h
    · cases h
    · rename_i vs e
      obtain ⟨ds, h1, h2⟩ := Option.map_eq_some_iff.mp h
      subst h2
      obtain ⟨us, ha, ra⟩ := seqOf_sq S e
      obtain ⟨b1, b2, b3⟩ := allD (fun v u d => toD_dp S k v u d) h1 ra
      cases r
      refine ⟨.lst ha b1, by rw [PyData.canLay0]; exact b2, ?_⟩
      rw [PyData.depth]
      omega
  | k + 1, .non, u, d, h, r => by have := scaD_dp h r; exact ⟨this.1, this.2.1, by omega⟩
  | k + 1, .bl _, u, d, h, r => by have := scaD_dp h r; exact ⟨this.1, this.2.1, by omega⟩
  | k + 1, .int _, u, d, h, r => by have := scaD_dp h r; exact ⟨this.1, this.2.1, by omega⟩
  | k + 1, .str _, u, d, h, r => by have := scaD_dp h r; exact ⟨this.1, this.2.1, by omega⟩
def datM (μ : Mu) (v : Val) : Option PyData := toD 8 μ v
theorem datM_dp {K : PySem.W.Frag} {w : Wt} {μ : Mu} {H : Hp} (S : Sim K w μ H) {v : Val} {u : V} {d : PyData} (h : datM μ v = some d) (r : VR K w.ad μ.nx H v u) : Dp K H u d ∧ SeqAt.shaped d = true := by
  obtain ⟨h1, h2, h3⟩ := toD_dp S 8 v u d h r
  exact ⟨h1, Bool.and_eq_true_iff.mpr ⟨h2, decide_eq_true (by omega)⟩⟩
def eqM (x y : Val) (μ : Mu) : R Val := match datM μ x, datM μ y with
  | some d, some e => .ok (.bl (PyData.eqv d e)) μ
  | _, _ => .no
def neM (x y : Val) (μ : Mu) : R Val := match datM μ x, datM μ y with
  | some d, some e => .ok (.bl (!PyData.eqv d e)) μ
  | _, _ => .no
def keyOf : Val → Option Key
  | .int i => some (.inl i)
  | .str x => some (.inr x)
  | _ => none
def kGet (kvs : List (Key × Val)) (k : Key) : Option Val := (kvs.find? fun p => decide (p.1 = k)).map (·.2)
def kPut (kvs : List (Key × Val)) (k : Key) (v : Val) : List (Key × Val) := if (kvs.any fun p => decide (p.1 = k)) then kvs.map fun p => if p.1 = k then (p.1, v) else p else kvs ++ [(k, v)]
def kDrop (kvs : List (Key × Val)) (k : Key) : List (Key × Val) := kvs.filter fun p => decide (p.1 ≠ k)
def dctOf (μ : Mu) (n : Nat) : Option (List (Key × Val)) := match μ.ob n with
  | some (.dct kvs) => some kvs
  | some (.rod kvs) => some kvs
  | _ => none
theorem dctOf_rd {K : PySem.W.Frag} {w : Wt} {μ : Mu} {H : Hp} {n : Nat} {kvs : List (Key × Val)} (S : Sim K w μ H) (h : dctOf μ n = some kvs) : ∃ us : List (Key × V), Rd H (w.ad n) (.dK us) ∧ us.map (·.1) = kvs.map (·.1) ∧ VRs K w.ad μ.nx H (kvs.map (·.2)) (us.map (·.2)) := by
  unfold dctOf at h
  split at h
  · rename_i kvs' e
    cases h
    obtain ⟨us, q1, q2, q3⟩ := S.ok _ _ e
    exact ⟨us, .inl q1, q2, q3⟩
  · rename_i kvs' e
    cases h
    obtain ⟨_, o, us, q1, q2, q3⟩ := S.ok _ _ e
    exact ⟨us, .inr ⟨o, q1⟩, q2, q3⟩
  · cases h
/-- x in y -/
def hasM (x y : Val) (μ : Mu) : Option Bool := match y with
  | .loc n => match μ.ob n with
    | some (.lst vs) => match datM μ x, allO (vs.map (datM μ)) with
      | some d, some ds => some (ds.any fun z => PyData.eqv z d)
      | _, _ => none
    | some (.dct kvs) => match keyOf x with
      | some k => some (kGet kvs k).isSome
      | none => none
    | some (.rod kvs) => match keyOf x with
      | some k => some (kGet kvs k).isSome
      | none => none
    | _ => none
  | _ => none
def ninM (x y : Val) (μ : Mu) : R Val := match hasM x y μ with
  | some b => .ok (.bl (!b)) μ
  | none => .no
section
variable {X : Cx}
theorem c_eq (hu : X.A.units + 64 < cLine) : CmpP X .Eq eqM := by
  refine ⟨_, op_eqD hu, ?_⟩
  intro E w μ H x y u v Q S hx hy hp
  unfold eqM at hp
  split at hp
  · rename_i d e h1 h2
    obtain ⟨a1, a2⟩ := datM_dp S h1 hx
    obtain ⟨b1, b2⟩ := datM_dp S h2 hy
    exact ⟨d, e, a1, b1, a2, b2, hp w H _ S (.bl _) .refl⟩
  · exact hp.elim
theorem c_ne (hu : X.A.units + 64 < cLine) : CmpP X .NotEq neM := by
  refine ⟨_, op_neD hu, ?_⟩
  intro E w μ H x y u v Q S hx hy hp
  unfold neM at hp
  split at hp
  · rename_i d e h1 h2
    obtain ⟨a1, a2⟩ := datM_dp S h1 hx
    obtain ⟨b1, b2⟩ := datM_dp S h2 hy
    exact ⟨d, e, a1, b1, a2, b2, hp w H _ S (.bl _) .refl⟩
  · exact hp.elim
end
section
variable {K : PySem.W.Frag} {ad : Nat → Addr} {b : Nat} {H : Hp}
theorem kGet_pos {p : Key × Val} {l : List (Key × Val)} {k : Key} (h : p.1 = k) : kGet (p :: l) k = some p.2 := by simp [kGet, List.find?_cons, h]
theorem kGet_neg {p : Key × Val} {l : List (Key × Val)} {k : Key} (h : ¬ p.1 = k) : kGet (p :: l) k = kGet l k := by simp [kGet, List.find?_cons, h]
theorem kGet_rel {k : Key} : ∀ {kvs : List (Key × Val)} {us : List (Key × V)}, us.map (·.1) = kvs.map (·.1) → VRs K ad b H (kvs.map (·.2)) (us.map (·.2)) → (∃ v u, kGet kvs k = some v ∧ valV us k = some u ∧ VR K ad b H v u) ∨ (kGet kvs k = none ∧ valV us k = none)
  | [], [], _, _ => .inr ⟨rfl, rfl⟩
  | p :: kvs, q :: us, h, r => by
    simp only [List.map_cons, List.cons.injEq] at h
    cases r with
    | cons r1 r2 =>
      by_cases c : p.1 = k
      · exact .inl ⟨p.2, q.2, kGet_pos c, valV_pos (h.1.trans c), r1⟩
      · rw [kGet_neg c, valV_neg (fun z => c (h.1.symm.trans z))]
        exact kGet_rel h.2 r2
  | [], _ :: _, h, _ => by simp at h
  | _ :: _, [], h, _ => by simp at h
theorem keyOf_kV {v : Val} {u : V} {k : Key} (h : keyOf v = some k) (r : VR K ad b H v u) : u = kV k := by
  unfold keyOf at h
  split at h
  · cases h; cases r; rfl
  · cases h; cases r; rfl
  · cases h
end
section
variable {X : Cx}
theorem op_notIn_d (hu : X.A.units + 1 < cLine) : OpR X (compareOp .NotIn) (fun x y H Q => ∃ a o, y = .ref a ∧ DGet H a x o ∧ Q (.bl (!o.isSome)) H) := by
  intro pins s σ H x y v u Q I rx ry h
  obtain ⟨a, o, rfl, g, q⟩ := h
  cases ry
  exact d_notIn hu I g rx fun s' I' => ⟨.bl _, H, I', rfl, q⟩
theorem has_ok {K : PySem.W.Frag} {w : Wt} {μ : Mu} {H : Hp} {x y : Val} {u v : V} {b : Bool} (S : Sim K w μ H) (hx : VR K w.ad μ.nx H x u) (hy : VR K w.ad μ.nx H y v) (h : hasM x y μ = some b) : (∃ d ds, Dp K H u d ∧ Dp K H v (.list ds) ∧ SeqAt.shaped d = true ∧ SeqAt.shaped (.list ds) = true ∧ b = ds.any fun z => PyData.eqv z d) ∨ ∃ a o, v = .ref a ∧ DGet H a u o ∧ b = o.isSome := by
  unfold hasM at h
  split at h
  · rename_i n
    cases hy with
    | loc hn =>
      split at h
      · rename_i vs e
        split at h
        · rename_i d ds h1 h2
          cases h
          obtain ⟨a1, a2⟩ := datM_dp S h1 hx
          obtain ⟨us, q1, q2⟩ := S.ok _ _ e
          obtain ⟨b1, b2, b3⟩ := allD (fun v u d => toD_dp S 8 v u d) h2 q2
          refine .inl ⟨d, ds, a1, .lst (SqL.of q1) b1, a2, Bool.and_eq_true_iff.mpr ⟨by rw [PyData.canLay0]; exact b2, decide_eq_true ?_⟩, rfl⟩
          rw [PyData.depth]
          omega
        · cases h
      · rename_i kvs e
        split at h
        · rename_i k hk
          cases h
          obtain ⟨us, q1, q2, q3⟩ := S.ok _ _ e
          rw [keyOf_kV hk hx]
          refine .inr ⟨_, _, rfl, DGet.k q1, ?_⟩
          rcases kGet_rel (k := k) q2 q3 with ⟨v, u, e1, e2, _⟩ | ⟨e1, e2⟩
          · rw [e1, e2]; rfl
          · rw [e1, e2]; rfl
        · cases h
      · rename_i kvs e
        split at h
        · rename_i k hk
          cases h
          obtain ⟨us, q1, q2, q3⟩ := dctOf_rd S (show dctOf μ n = some kvs by unfold dctOf; rw [e])
          rw [keyOf_kV hk hx]
          refine .inr ⟨_, _, rfl, .inl ⟨us, k, q1, rfl, rfl⟩, ?_⟩
          rcases kGet_rel (k := k) q2 q3 with ⟨v, u, e1, e2, _⟩ | ⟨e1, e2⟩
          · rw [e1, e2]; rfl
          · rw [e1, e2]; rfl
        · cases h
      · cases h
  · cases h
theorem c_notIn (hu : X.A.units + 65 < cLine) : CmpP X .NotIn ninM := by
  refine ⟨_, (op_notInD hu).or (op_notIn_d (by omega)), ?_⟩
  intro E w μ H x y u v Q S hx hy hp
  unfold ninM at hp
  split at hp
  · rename_i b hb
    rcases has_ok S hx hy hb with ⟨d, ds, a1, a2, a3, a4, rfl⟩ | ⟨a, o, rfl, g, rfl⟩
    · exact .inl ⟨d, ds, a1, a2, a3, a4, hp w H _ S (.bl _) .refl⟩
    · exact .inr ⟨a, o, rfl, g, hp w H _ S (.bl _) .refl⟩
  · exact hp.elim
end
end Wn
/-! the law's level: subscripts, calls of builtins, statements, loops, defs -/
namespace Wn
open PySem PySem.Spec PyProof.Rows L2 LamX He

/-! ### subscripts -/
section
variable {K : PySem.W.Frag} {ad : Nat → Addr} {b : Nat} {H : Hp}
theorem atI_rel {vs : List Val} {us : List V} {i : Int} {v : Val} (r : VRs K ad b H vs us) (h : atI vs i = some v) : ∃ u, atI us i = some u ∧ VR K ad b H v u := by
  unfold atI at h ⊢
  rw [r.length]
  cases e : ixN vs.length i with
  | none => rw [e] at h; cases h
  | some j =>
    rw [e] at h
    exact r.get j v h
end
def getM : Val → Val → Mu → R Val
  | .tup vs, .int i, μ => match atI vs i with
    | some v => .ok v μ
    | none => .no
  | .loc n, .int i, μ => match seqOf μ n with
    | some vs => match atI vs i with
      | some v => .ok v μ
      | none => .no
    | none => .no
  | _, _, _ => .no
def dgetM : Val → Val → Mu → R Val
  | .loc n, y, μ => match dctOf μ n, keyOf y with
    | some kvs, some k => match kGet kvs k with
      | some v => .ok v μ
      | none => .no
    | _, _ => .no
  | _, _, _ => .no
def cutG {α : Type} (xs : List α) (lo hi : Option Int) : List α := (xs.drop (HT.sIx xs.length 0 lo)).take (HT.sIx xs.length xs.length hi - HT.sIx xs.length 0 lo)
abbrev MO := Rho → Mu → R (Option Int)
def mP0 : MO := fun _ μ => .ok none μ
def mP (m : ME) : MO := fun ρ μ => (m ρ μ).bind fun x μ => match x with
  | .int i => .ok (some i) μ
  | _ => .no
def slM (x : Val) (lo hi : Option Int) (μ : Mu) : R Val := match x with
  | .tup vs => if HT.sIx vs.length 0 lo = 0 ∧ HT.sIx vs.length vs.length hi = vs.length then .no else .ok (.tup (cutG vs lo hi)) μ
  | .loc n => match seqOf μ n with
    | some vs => .ok (.loc μ.nx) (μ.new (.lst (cutG vs lo hi)))
    | none => .no
  | _ => .no
def mSl (e : ME) (lo hi : MO) : ME := fun ρ μ => (e ρ μ).bind fun x μ => (lo ρ μ).bind fun l μ => (hi ρ μ).bind fun h μ => slM x l h μ
def relO : Rel (Option Int) (Option Int) := fun _ _ _ v u => v = u
def PMO (X : Cx) (E : XK) (o : Option Expr) (m : MO) : Prop := PO X o (tM X.K relO E m)
theorem cut_rel {K : PySem.W.Frag} {ad : Nat → Addr} {b : Nat} {H : Hp} {vs : List Val} {us : List V} (lo hi : Option Int) (r : VRs K ad b H vs us) : VRs K ad b H (cutG vs lo hi) (cutV us lo hi) := by
  unfold cutG cutV
  rw [r.length]
  exact (r.drop _).take _
section
variable {X : Cx} {E : XK} {e a b o : Expr} {es : List Expr} {ma mb me mo : ME} {mr : MA} {pos apos cpos : Pos}
theorem pm_ix (ha : PM X E a ma) (hb : PM X E b mb) (hs : PlainIx b := by exact fun _ _ => rfl) : PM X E (.Subscript a b pos) (mOp getM ma mb) :=
  PE.imp (pe_ix (ix_list.or ix_tup) ha hb hs) fun σ H Q ⟨w, ρ, μ, S, EN, hp⟩ => ⟨w, ρ, μ, S, EN, Post.bind hp fun x μ1 w1 H1 u1 S1 r1 g1 h1 => ⟨w1, ρ, μ1, S1, EN.grow g1, Post.bind h1 fun y μ2 w2 H2 u2 S2 r2 g2 h2 => by
    have r1 := VR.grow g2 r1
    unfold getM at h2
    split at h2
    · cases r2
      obtain ⟨p, us, rfl, hq, rq⟩ := vr_tup r1
      split at h2
      · rename_i v hv
        obtain ⟨u, e1, e2⟩ := atI_rel rq hv
        exact .inr ⟨p, us, _, u, rfl, rfl, hq, e1, h2 w2 H2 u S2 e2 .refl⟩
      · exact h2.elim
    · cases r2
      cases r1
      split at h2
      · rename_i vs hs
        obtain ⟨us, hq, rq⟩ := seqOf_sq S2 hs
        split at h2
        · rename_i v hv
          obtain ⟨u, e1, e2⟩ := atI_rel rq hv
          exact .inl ⟨_, us, _, u, rfl, rfl, hq, e1, h2 w2 H2 u S2 e2 .refl⟩
        · exact h2.elim
      · exact h2.elim
    · exact h2.elim⟩⟩
theorem pm_dget (hu : X.A.units + 1 < cLine) (ha : PM X E a ma) (hb : PM X E b mb) (hs : NoSl b := by exact fun _ _ => rfl) : PM X E (.Subscript a b pos) (mOp dgetM ma mb) :=
  PE.imp (pe_dget hu ha hb hs) fun σ H Q ⟨w, ρ, μ, S, EN, hp⟩ => ⟨w, ρ, μ, S, EN, Post.bind hp fun x μ1 w1 H1 u1 S1 r1 g1 h1 => ⟨w1, ρ, μ1, S1, EN.grow g1, Post.bind h1 fun y μ2 w2 H2 u2 S2 r2 g2 h2 => by
    have r1 := VR.grow g2 r1
    unfold dgetM at h2
    split at h2
    · cases r1
      split at h2
      · rename_i kvs k hn hk
        split at h2
        · rename_i v hv
          obtain ⟨us, q1, q2, q3⟩ := dctOf_rd S2 hn
          have ek := keyOf_kV hk r2
          subst ek
          rcases kGet_rel (k := k) q2 q3 with ⟨v', u', e1, e2, e3⟩ | ⟨e1, e2⟩
          · rw [hv] at e1
            cases e1
            have dg : DGet H2 _ (kV k) (valV us k) := .inl ⟨us, k, q1, rfl, rfl⟩
            rw [e2] at dg
            exact ⟨_, u', rfl, dg, h2 w2 H2 u' S2 e3 .refl⟩
          · rw [hv] at e1
            cases e1
        · exact h2.elim
      · exact h2.elim
    · exact h2.elim⟩⟩
theorem pmo_none : PMO X E none mP0 := ⟨fun pins s σ H Q I ⟨w, ρ, μ, S, EN, hp⟩ => po_none.run pins s σ H Q I (hp w H none S rfl .refl)⟩
theorem pmo_some (h : PM X E e me) : PMO X E (some e) (mP me) := ⟨fun pins s σ H Q I ⟨w, ρ, μ, S, EN, hp⟩ => (po_some h).run pins s σ H Q I ⟨w, ρ, μ, S, EN, Post.bind hp fun x μ1 w1 H1 u1 S1 r1 g1 h1 => by
  cases x with
  | int i =>
    cases r1
    exact ⟨i, rfl, h1 w1 H1 _ S1 rfl .refl⟩
  | _ => exact h1.elim⟩⟩
theorem pm_slice {lo hi : Option Expr} {ml mh : MO} {p2 : Pos} (he : PM X E e me) (hl : PMO X E lo ml) (hh : PMO X E hi mh) : PM X E (.Subscript e (.Slice lo hi none p2) pos) (mSl me ml mh) :=
  PE.imp (pe_slice (sl_list.or sl_tup) he hl hh) fun σ H Q ⟨w, ρ, μ, S, EN, hp⟩ => ⟨w, ρ, μ, S, EN, Post.bind hp fun x μ1 w1 H1 u1 S1 r1 g1 h1 => ⟨w1, ρ, μ1, S1, EN.grow g1, Post.bind h1 fun l μ2 w2 H2 u2 S2 r2 g2 h2 => ⟨w2, ρ, μ2, S2, (EN.grow g1).grow g2, Post.bind h2 fun h μ3 w3 H3 u3 S3 r3 g3 h3 => by
    cases r2; cases r3
    have r1 := VR.grow g3 (VR.grow g2 r1)
    unfold slM at h3
    split at h3
    · obtain ⟨p, us, rfl, hq, rq⟩ := vr_tup r1
      split at h3
      · exact h3.elim
      · rename_i hc
        refine .inr ⟨p, us, rfl, hq, by rw [rq.length]; exact hc, fun q nq => ?_⟩
        obtain ⟨S4, g4, v4⟩ := S3.newT nq (cut_rel l h rq)
        exact h3 w3 _ _ S4 v4 g4
    · cases r1
      split at h3
      · rename_i vs hs
        obtain ⟨us, hq, rq⟩ := seqOf_sq S3 hs
        refine .inl ⟨_, us, rfl, hq, fun q nq => ?_⟩
        obtain ⟨w4, S4, g4, e4⟩ := S3.newL nq (cut_rel l h rq)
        exact h3 w4 _ _ S4 (by rw [← e4]; exact VR.loc (Nat.lt_succ_self _)) g4
      · exact h3.elim
    · exact h3.elim⟩⟩⟩
end
/-! ### builtins -/
def lenM : List Val → Mu → R Val
  | [.tup vs], μ => .ok (.int vs.length) μ
  | [.str x], μ => if x.length ≤ 1000000 then .ok (.int x.length) μ else .no
  | [.loc n], μ => match seqOf μ n with
    | some vs => .ok (.int vs.length) μ
    | none => .no
  | _, _ => .no
def listM : List Val → Mu → R Val
  | [.tup vs], μ => .ok (.loc μ.nx) (μ.new (.lst vs))
  | [.loc n], μ => match seqOf μ n with
    | some vs => .ok (.loc μ.nx) (μ.new (.lst vs))
    | none => .no
  | _, _ => .no
def tupleM : List Val → Mu → R Val
  | [.tup vs], μ => .ok (.tup vs) μ
  | [.loc n], μ => match seqOf μ n with
    | some vs => .ok (.tup vs) μ
    | none => .no
  | _, _ => .no
def minM : List Val → Mu → R Val
  | [.int i, .int j], μ => .ok (.int (if j < i then j else i)) μ
  | _, _ => .no
def maxM : List Val → Mu → R Val
  | [.int i, .int j], μ => .ok (.int (if j > i then j else i)) μ
  | _, _ => .no
def absM : List Val → Mu → R Val
  | [.int i], μ => .ok (.int (if i < 0 then -i else i)) μ
  | _, _ => .no
def intM : List Val → Mu → R Val
  | [.int i], μ => .ok (.int i) μ
  | _, _ => .no
def intsOf : List Val → Option (List Int)
  | [] => some []
  | .int i :: r => match intsOf r with
    | some l => some (i :: l)
    | none => none
  | _ :: _ => none
def sortedM : List Val → Mu → R Val
  | [.loc n], μ => match seqOf μ n with
    | some vs => match intsOf vs with
      | some l => .ok (.loc μ.nx) (μ.new (.lst ((srtI l).map Val.int)))
      | none => .no
    | none => .no
  | _, _ => .no
section
variable {X : Cx} {K : PySem.W.Frag}
theorem p_len : PrimA K (fun xs H Q => ∃ x n, xs = [x] ∧ LenV K x H n ∧ Q (.int n) H) lenM := by
  intro E w μ H xs us Q S r hp
  unfold lenM at hp
  split at hp
  · cases r with
    | cons r1 r2 =>
      cases r2
      obtain ⟨a, vs, rfl, hq, rq⟩ := vr_tup r1
      exact ⟨_, _, rfl, .inr ⟨vs, hq, rfl⟩, by rw [rq.length]; exact hp w H _ S (.int _) .refl⟩
  · cases r with
    | cons r1 r2 =>
      cases r2
      cases r1
      split at hp
      · rename_i hz
        exact ⟨_, _, rfl, ⟨Nat.le_of_lt (lim6 hz), rfl⟩, hp w H _ S (.int _) .refl⟩
      · exact hp.elim
  · cases r with
    | cons r1 r2 =>
      cases r2
      cases r1
      split at hp
      · rename_i vs hs
        obtain ⟨us, hq, rq⟩ := seqOf_sq S hs
        exact ⟨_, _, rfl, .inl ⟨us, hq, rfl⟩, by rw [rq.length]; exact hp w H _ S (.int _) .refl⟩
      · exact hp.elim
  · exact hp.elim
theorem p_min : PrimA K (fun xs H Q => ∃ i j, xs = [.int i, .int j] ∧ Q (.int (if j < i then j else i)) H) minM := by
  intro E w μ H xs us Q S r hp
  unfold minM at hp
  split at hp
  · cases r with
    | cons r1 r2 =>
      cases r2 with
      | cons r3 r4 =>
        cases r4; cases r1; cases r3
        exact ⟨_, _, rfl, hp w H _ S (.int _) .refl⟩
  · exact hp.elim
theorem p_max : PrimA K (fun xs H Q => ∃ i j, xs = [.int i, .int j] ∧ Q (.int (if j > i then j else i)) H) maxM := by
  intro E w μ H xs us Q S r hp
  unfold maxM at hp
  split at hp
  · cases r with
    | cons r1 r2 =>
      cases r2 with
      | cons r3 r4 =>
        cases r4; cases r1; cases r3
        exact ⟨_, _, rfl, hp w H _ S (.int _) .refl⟩
  · exact hp.elim
theorem p_abs : PrimA K (fun xs H Q => ∃ i, xs = [.int i] ∧ Q (.int (if i < 0 then -i else i)) H) absM := by
  intro E w μ H xs us Q S r hp
  unfold absM at hp
  split at hp
  · cases r with
    | cons r1 r2 =>
      cases r2; cases r1
      exact ⟨_, rfl, hp w H _ S (.int _) .refl⟩
  · exact hp.elim
theorem p_int : PrimA K (fun xs H Q => (∃ i, xs = [.int i] ∧ Q (.int i) H) ∨ ∃ k, xs = [.bl k] ∧ Q (.int (if k then 1 else 0)) H) intM := by
  intro E w μ H xs us Q S r hp
  unfold intM at hp
  split at hp
  · cases r with
    | cons r1 r2 =>
      cases r2; cases r1
      exact .inl ⟨_, rfl, hp w H _ S (.int _) .refl⟩
  · exact hp.elim
end
/-! ### methods of lists -/
def lstOf (x : Val) (μ : Mu) : Option (Nat × List Val) := match x with
  | .loc n => match μ.ob n with
    | some (.lst vs) => some (n, vs)
    | _ => none
  | _ => none
def mBm (f : Val → List Val → Mu → R Val) (o : ME) (a : MA) : ME := fun ρ μ => (o ρ μ).bind fun x μ => match lstOf x μ with
  | none => .no
  | some _ => (a ρ μ).bind fun xs μ => f x xs μ
def appM (x : Val) (xs : List Val) (μ : Mu) : R Val := match lstOf x μ, xs with
  | some (n, vs), [v] => if vs.length ≤ 1000000 then .ok .non (μ.put n (.lst (vs ++ [v]))) else .no
  | _, _ => .no
def popM (x : Val) (xs : List Val) (μ : Mu) : R Val := match lstOf x μ, xs with
  | some (n, vs), [.int i] => if vs.length ≤ 1000000 then match ixN vs.length i with
    | some k => match vs[k]? with
      | some v => .ok v (μ.put n (.lst (vs.eraseIdx k)))
      | none => .no
    | none => .no
    else .no
  | _, _ => .no
def extM (x : Val) (xs : List Val) (μ : Mu) : R Val := match lstOf x μ, xs with
  | some (n, vs), [y] => match lstOf y μ with
    | some (_, zs) => if vs.length + zs.length ≤ 1000000 then .ok .non (μ.put n (.lst (vs ++ zs))) else .no
    | none => .no
  | _, _ => .no
section
variable {X : Cx} {E : XK} {e o : Expr} {es : List Expr} {mo : ME} {mr : MA} {apos cpos : Pos} {name : Str} {id : String} {r : V → List V → Hp → VK → Prop} {f : Val → List Val → Mu → R Val}
end
end Wn
/-! the law's level: statements, loops, defs -/
namespace Wn
open PySem PySem.Spec PyProof.Rows L2 LamX He

inductive Fl where
  | nx (ρ : Rho) | rt (v : Val) | bk (ρ : Rho) | ct (ρ : Rho)
abbrev MS := Rho → Mu → R Fl
def PostS (K : PySem.W.Frag) (E : XK) (w : Wt) (b : Nat) (H : Hp) (D : Ends) : R Fl → Prop
  | .ok (.nx ρ') μ' => ∀ w' H' σ', Sim K w' μ' H' → EnvR K w' μ'.nx H' ρ' σ' → Grow K w b H w' μ'.nx H' → D.nx σ' H'
  | .ok (.rt v) μ' => ∀ w' H' u, Sim K w' μ' H' → VR K w'.ad μ'.nx H' v u → Grow K w b H w' μ'.nx H' → D.rt u H'
  | .ok (.bk ρ') μ' => ∀ w' H' σ', Sim K w' μ' H' → EnvR K w' μ'.nx H' ρ' σ' → Grow K w b H w' μ'.nx H' → D.bk σ' H'
  | .ok (.ct ρ') μ' => ∀ w' H' σ', Sim K w' μ' H' → EnvR K w' μ'.nx H' ρ' σ' → Grow K w b H w' μ'.nx H' → D.ct σ' H'
  | .er c fs μ' => ∀ w' H' d us, Sim K w' μ' H' → Grow K w b H w' μ'.nx H' → H' d = some (.xd us) → us.map (·.1) = fs.map (·.1) → VRs K w'.ad μ'.nx H' (fs.map (·.2)) (us.map (·.2)) → E (.ref (ga K c)) (some d) H'
  | .no => False
section
variable {K : PySem.W.Frag} {E : XK}
theorem PostS.grow {w w1 : Wt} {b b1 : Nat} {H H1 : Hp} {D : Ends} {r : R Fl} (h : PostS K E w b H D r) (g : Grow K w b H w1 b1 H1) : PostS K E w1 b1 H1 D r := by
  cases r with
  | ok a μ =>
    cases a with
    | nx ρ => exact fun w' H' σ' S r g' => h w' H' σ' S r (g.trans g')
    | rt v => exact fun w' H' σ' S r g' => h w' H' σ' S r (g.trans g')
    | bk ρ => exact fun w' H' σ' S r g' => h w' H' σ' S r (g.trans g')
    | ct ρ => exact fun w' H' σ' S r g' => h w' H' σ' S r (g.trans g')
  | er c fs μ => exact fun w' H' d us S g' => h w' H' d us S (g.trans g')
  | no => exact h
/-- an expression first -/
theorem PostS.bind {α β : Type} {rel : Rel α β} {w : Wt} {b : Nat} {H : Hp} {D : Ends} {Q1 : β → Hp → Prop} {r : R α} {k : α → Mu → R Fl} (h : PostS K E w b H D (r.bind k))
    (f : ∀ a μ1 w1 H1 u1, Sim K w1 μ1 H1 → rel w1 μ1.nx H1 a u1 → Grow K w b H w1 μ1.nx H1 → PostS K E w1 μ1.nx H1 D (k a μ1) → Q1 u1 H1) : Post K rel E w b H Q1 r := by
  cases r with
  | ok a μ1 => exact fun w1 H1 u1 S r g => f a μ1 w1 H1 u1 S r g (PostS.grow h g)
  | er c fs μ => exact h
  | no => exact h.elim
end
def tS (K : PySem.W.Frag) (E : XK) (m : MS) : TS := fun D σ H => ∃ w ρ μ, Sim K w μ H ∧ EnvR K w μ.nx H ρ σ ∧ PostS K E w μ.nx H D (m ρ μ)
def PMS (X : Cx) (E : XK) (st : Stmt) (m : MS) : Prop := PS X st (tS X.K E m)
def PMSs (X : Cx) (E : XK) (st : List Stmt) (m : MS) : Prop := PSs X st (tS X.K E m)
theorem PS.imp {X : Cx} {st : Stmt} {t t0 : TS} (h : PS X st t) (i : ∀ D σ H, t0 D σ H → t D σ H) : PS X st t0 := ⟨fun pins s σ H D I hw => h.run pins s σ H D I (i D σ H hw)⟩
theorem PSs.imp {X : Cx} {st : List Stmt} {t t0 : TS} (h : PSs X st t) (i : ∀ D σ H, t0 D σ H → t D σ H) : PSs X st t0 := ⟨fun pins s σ H D I hw => h.run pins s σ H D I (i D σ H hw)⟩

/-! ### the words -/
def sNil : MS := fun ρ μ => .ok (.nx ρ) μ
def sThen (r : R Fl) (k : Rho → Mu → R Fl) : R Fl := match r with
  | .ok (.nx ρ) μ => k ρ μ
  | r => r
@[simp] theorem sThen_nx (ρ : Rho) (μ : Mu) (k : Rho → Mu → R Fl) : sThen (.ok (.nx ρ) μ) k = k ρ μ := rfl
@[simp] theorem sThen_rt (v : Val) (μ : Mu) (k : Rho → Mu → R Fl) : sThen (.ok (.rt v) μ) k = .ok (.rt v) μ := rfl
@[simp] theorem sThen_bk (v : Rho) (μ : Mu) (k : Rho → Mu → R Fl) : sThen (.ok (.bk v) μ) k = .ok (.bk v) μ := rfl
@[simp] theorem sThen_ct (v : Rho) (μ : Mu) (k : Rho → Mu → R Fl) : sThen (.ok (.ct v) μ) k = .ok (.ct v) μ := rfl
def sSeq (a b : MS) : MS := fun ρ μ => sThen (a ρ μ) b
def sSet (i : Nat) (m : ME) : MS := fun ρ μ => (m ρ μ).bind fun v μ => .ok (.nx (ρ.set i (some v))) μ
def sExpr (m : ME) : MS := fun ρ μ => (m ρ μ).bind fun _ μ => .ok (.nx ρ) μ
def sRet (m : ME) : MS := fun ρ μ => (m ρ μ).bind fun v μ => .ok (.rt v) μ
def sRetN : MS := fun _ μ => .ok (.rt .non) μ
def sIf (c : MT) (a b : MS) : MS := fun ρ μ => (c ρ μ).bind fun k μ => if k = true then a ρ μ else b ρ μ
def sBrk : MS := fun ρ μ => .ok (.bk ρ) μ
def sCnt : MS := fun ρ μ => .ok (.ct ρ) μ
def sPar (i j : Nat) (m : MA) : MS := fun ρ μ => (m ρ μ).bind fun vs μ => match vs with
  | [v, w] => .ok (.nx ((ρ.set i (some v)).set j (some w))) μ
  | _ => .no
def sPar3 (i j k : Nat) (m : MA) : MS := fun ρ μ => (m ρ μ).bind fun vs μ => match vs with
  | [u, v, w] => .ok (.nx (((ρ.set i (some u)).set j (some v)).set k (some w))) μ
  | _ => .no
/-- targets: a name, names in a tuple -/
def unp : List Nat → List Val → Rho → Option Rho
  | [], [], ρ => some ρ
  | i :: is, v :: vs, ρ => unp is vs (ρ.set i (some v))
  | _, _, _ => none
def tgN (i : Nat) (v : Val) (ρ : Rho) : Option Rho := some (ρ.set i (some v))
def tgT (is : List Nat) (v : Val) (ρ : Rho) : Option Rho := match v with
  | .tup vs => unp is vs ρ
  | _ => none
def sAsg (g : Val → Rho → Option Rho) (m : ME) : MS := fun ρ μ => (m ρ μ).bind fun v μ => match g v ρ with
  | some ρ' => .ok (.nx ρ') μ
  | none => .no
def stoM : Val → Val → Val → Mu → R Unit
  | .loc n, .int i, v, μ => match μ.ob n with
    | some (.lst vs) => match ixN vs.length i with
      | some j => .ok () (μ.put n (.lst (vs.set j v)))
      | none => .no
    | _ => .no
  | _, _, _, _ => .no
def dstoM : Val → Val → Val → Mu → R Unit
  | .loc n, y, v, μ => match μ.ob n, keyOf y with
    | some (.dct kvs), some k => if kvs.length ≤ 1000000 then .ok () (μ.put n (.dct (kPut kvs k v))) else .no
    | _, _ => .no
  | _, _, _, _ => .no
def sSto (f : Val → Val → Val → Mu → R Unit) (o i v : ME) : MS := fun ρ μ => (v ρ μ).bind fun v μ => (o ρ μ).bind fun o μ => (i ρ μ).bind fun i μ => (f o i v μ).bind fun _ μ => .ok (.nx ρ) μ
section
variable {X : Cx} {E : XK} {e c o : Expr} {es : List Expr} {st : Stmt} {sts a b : List Stmt} {m mo mi mv : ME} {ms mt : MS} {mc : MT} {mr : MA} {pos : Pos}
theorem pmss_nil : PMSs X E [] sNil := PSs.imp pss_nil fun D σ H ⟨w, ρ, μ, S, EN, hp⟩ => hp w H σ S EN .refl
theorem post_then {K : PySem.W.Frag} {w : Wt} {b : Nat} {H : Hp} {D : Ends} {r : R Fl} {k : MS} (h : PostS K E w b H D (sThen r k)) : PostS K E w b H { D with nx := tS K E k D } r := by
  cases r with
  | ok a μ =>
    cases a with
    | nx ρ => exact fun w' H' σ' S EN g => ⟨w', ρ, μ, S, EN, PostS.grow h g⟩
    | _ => exact h
  | er c fs μ => exact h
  | no => exact h
theorem pmss_cons (h1 : PMS X E st ms) (h2 : PMSs X E sts mt) : PMSs X E (st :: sts) (sSeq ms mt) :=
  PSs.imp (pss_cons h1 h2) fun D σ H ⟨w, ρ, μ, S, EN, hp⟩ => ⟨w, ρ, μ, S, EN, post_then hp⟩
theorem pmss_one (h1 : PMS X E st ms) : PMSs X E [st] ms := pss_one h1
theorem pms_expr (he : PM X E e m) (hs : swapsWith e none pos.line X.env = pure false := by rfl) : PMS X E (.Expr e pos) (sExpr m) :=
  PS.imp (ps_expr he hs) fun D σ H ⟨w, ρ, μ, S, EN, hp⟩ => ⟨w, ρ, μ, S, EN, PostS.bind hp fun x μ1 w1 H1 u1 S1 r1 g1 h1 => h1 w1 H1 σ S1 (EN.grow g1) .refl⟩
theorem pms_ret (he : PM X E e m) : PMS X E (.Return (some e) pos) (sRet m) :=
  PS.imp (ps_ret he) fun D σ H ⟨w, ρ, μ, S, EN, hp⟩ => ⟨w, ρ, μ, S, EN, PostS.bind hp fun x μ1 w1 H1 u1 S1 r1 g1 h1 => h1 w1 H1 u1 S1 r1 .refl⟩
theorem pms_if (hc : PMT X E c mc) (ha : PMSs X E a ms) (hb : PMSs X E b mt) : PMS X E (.If c a b pos) (sIf mc ms mt) :=
  PS.imp (ps_if hc ha hb) fun D σ H ⟨w, ρ, μ, S, EN, hp⟩ => ⟨w, ρ, μ, S, EN, PostS.bind hp fun x μ1 w1 H1 u1 S1 r1 g1 h1 => by
    cases r1
    cases x with
    | true => exact iteT ⟨w1, ρ, μ1, S1, EN.grow g1, h1⟩
    | false => exact iteF ⟨w1, ρ, μ1, S1, EN.grow g1, h1⟩⟩
theorem pms_set {i : Nat} {x : Str} {pos' : Pos} (hN : X.N.Nodup) (hi : X.N[i]? = some x) (hx : Loc X.env.scope x) (he : PM X E e m) (hs : swapsWith e (some (.Name x pos')) pos.line X.env = pure false := by rfl) (hf : X.fn x = true ∨ X.env.scope.names.lookup x = some .local := by first | exact .inl rfl | exact .inr rfl | assumption) :
    PMS X E (.Assign [.Name x pos'] e pos) (sSet i m) :=
  PS.imp (ps_set hN hi hx he hs hf) fun D σ H ⟨w, ρ, μ, S, EN, hp⟩ => ⟨w, ρ, μ, S, EN, PostS.bind hp fun x μ1 w1 H1 u1 S1 r1 g1 h1 => h1 w1 H1 _ S1 ((EN.grow g1).set i r1) .refl⟩
/-! ### targets -/
theorem wipe_in {σ : L2.St} {i : Nat} : ∀ {vs : List Nat}, i ∈ vs → (wipe σ vs)[i]? = (σ[i]?).map fun _ => none
  | [], h => by cases h
  | v :: vs, h => by
    unfold wipe
    by_cases c : v = i
    · subst c
      rw [List.getElem?_set, if_pos rfl, wipe_length]
      by_cases d : v < σ.length
      · rw [if_pos d, List.getElem?_eq_getElem d]
        rfl
      · rw [if_neg d, List.getElem?_eq_none (by omega)]
        rfl
    · rw [List.getElem?_set_ne c]
      rcases List.mem_cons.mp h with z | z
      · exact (c z.symm).elim
      · exact wipe_in z
theorem wipe_set {σ : L2.St} {i : Nat} {x : Option V} {vs : List Nat} (h : i ∈ vs) : wipe (σ.set i x) vs = wipe σ vs := by
  apply List.ext_getElem?
  intro j
  by_cases c : j ∈ vs
  · rw [wipe_in c, wipe_in c, List.getElem?_set]
    by_cases d : i = j
    · subst d
      rw [if_pos rfl]
      by_cases l : i < σ.length
      · rw [if_pos l, List.getElem?_eq_getElem l]
        rfl
      · rw [if_neg l, List.getElem?_eq_none (by omega)]
    · rw [if_neg d]
  · have ne : i ≠ j := fun z => c (by rw [← z]; exact h)
    rw [wipe_out c, wipe_out c, List.getElem?_set_ne ne]
def Wiped (is : List Nat) (σ σ' : L2.St) : Prop := ∀ vs : List Nat, (∀ i ∈ is, i ∈ vs) → wipe σ' vs = wipe σ vs
def tG (K : PySem.W.Frag) (is : List Nat) (g : Val → Rho → Option Rho) : TG := fun x σ H Q => ∃ w ρ b v ρ', EnvR K w b H ρ σ ∧ VR K w.ad b H v x ∧ g v ρ = some ρ' ∧ ∀ σ', EnvR K w b H ρ' σ' → Wiped is σ σ' → Q σ' H
def PMG (X : Cx) (tg : Expr) (is : List Nat) (g : Val → Rho → Option Rho) : Prop := PG X tg (tG X.K is g)
def tGs (K : PySem.W.Frag) (is : List Nat) : TGs := fun xs σ H Q => ∃ w ρ b vs ρ', EnvR K w b H ρ σ ∧ VRs K w.ad b H vs xs ∧ unp is vs ρ = some ρ' ∧ ∀ σ', EnvR K w b H ρ' σ' → Wiped is σ σ' → Q σ' H
theorem PG.imp {tg : Expr} {t t0 : TG} (h : PG X tg t) (i : ∀ x σ H Q, t0 x σ H Q → t x σ H Q) : PG X tg t0 := ⟨fun pins s σ H v u Q I r hw => h.run pins s σ H v u Q I r (i v σ H Q hw)⟩
theorem PGs.imp {tg : List Expr} {t t0 : TGs} (h : PGs X tg t) (i : ∀ x σ H Q, t0 x σ H Q → t x σ H Q) : PGs X tg t0 := ⟨fun pins s σ H v u Q I r hw => h.run pins s σ H v u Q I r (i v σ H Q hw)⟩
theorem pmg_name {i : Nat} {x : Str} (hN : X.N.Nodup) (hi : X.N[i]? = some x) (hx : Loc X.env.scope x) (hf : X.fn x = true ∨ X.env.scope.names.lookup x = some .local := by first | exact .inl rfl | exact .inr rfl | assumption) : PMG X (.Name x pos) [i] (tgN i) :=
  PG.imp (pg_name hN hi hx hf) fun x σ H Q ⟨w, ρ, b, v, ρ', EN, r, h1, h2⟩ => by
    cases h1
    exact h2 _ (EN.set i r) fun vs hv => wipe_set (hv i (by simp))
def PMGs (X : Cx) (ts : List Expr) (is : List Nat) : Prop := PGs X ts (tGs X.K is)
theorem pmgs_nil : PMGs X [] [] := PGs.imp pgs_nil fun x σ H Q ⟨w, ρ, b, vs, ρ', EN, r, h1, h2⟩ => by
  cases vs with
  | nil =>
    cases r
    cases h1
    exact ⟨rfl, h2 _ EN fun _ _ => rfl⟩
  | cons v vs => cases h1
theorem pmgs_cons {i : Nat} {x : Str} {is : List Nat} {ts : List Expr} {px : Pos} (hN : X.N.Nodup) (hi : X.N[i]? = some x) (hx : Loc X.env.scope x) (h2 : PMGs X ts is) (hf : X.fn x = true ∨ X.env.scope.names.lookup x = some .local := by first | exact .inl rfl | exact .inr rfl | assumption)
    (ha : (assignEach (.Name x px :: ts) X.env).map (·.2) = assign (.Name x px) X.env :: (assignEach ts X.env).map (·.2) := by rfl) : PMGs X (.Name x px :: ts) (i :: is) :=
  PGs.imp (pgs_cons (pg_name (i := i) hN hi hx hf) h2 ha) fun xs σ H Q ⟨w, ρ, b, vs, ρ', EN, r, h1, h3⟩ => by
    cases vs with
    | nil => cases h1
    | cons v vs =>
      cases r with
      | cons r1 r2 => exact ⟨_, _, rfl, w, _, b, vs, ρ', EN.set i r1, r2, h1, fun σ' EN' hw => h3 σ' EN' fun l hl => (hw l fun j hj => hl j (List.mem_cons_of_mem _ hj)).trans (wipe_set (hl i List.mem_cons_self))⟩
theorem unp_len : ∀ {is : List Nat} {vs : List Val} {ρ ρ' : Rho}, unp is vs ρ = some ρ' → vs.length = is.length
  | [], [], _, _, _ => rfl
  | i :: is, v :: vs, ρ, ρ', h => by simp [unp_len (is := is) (vs := vs) h]
  | [], _ :: _, _, _, h => by cases h
  | _ :: _, [], _, _, h => by cases h
theorem pmg_tup {ts : List Expr} {is : List Nat} {k : Nat} {n : Nat} (hc : X.calm = true) (h : PMGs X ts is) (hl : is.length = n := by rfl)
    (hn : (assignEach ts X.env).length = n := by rfl) (hst : (assignEach ts X.env).findIdx? (·.1) = none := by rfl) : PMG X (.Tuple ts k pos) is (tgT is) :=
  PG.imp (pg_tup hc h hn hst) fun x σ H Q ⟨w, ρ, b, v, ρ', EN, r, h1, h2⟩ => by
    cases v with
    | tup vs =>
      obtain ⟨a, us, rfl, hq, rq⟩ := vr_tup r
      exact ⟨a, us, rfl, hq, by rw [rq.length, unp_len (is := is) h1]; exact hl, w, ρ, b, vs, ρ', EN, rq, h1, h2⟩
    | _ => cases h1
theorem pms_asg {tg : Expr} {is : List Nat} {g : Val → Rho → Option Rho} (he : PM X E e m) (hg : PMG X tg is g) (hs : swapsWithSole [tg] e pos.line X.env = pure false := by rfl) (hw : swappedStores [tg] e X.env = pure none := by rfl)
    (h1 : (assignEach [tg] X.env).map (·.2) = [assign tg X.env] := by rfl) : PMS X E (.Assign [tg] e pos) (sAsg g m) :=
  PS.imp (ps_asg he hg hs hw h1) fun D σ H ⟨w, ρ, μ, S, EN, hp⟩ => ⟨w, ρ, μ, S, EN, PostS.bind hp fun x μ1 w1 H1 u1 S1 r1 g1 h1 => by
    split at h1
    · rename_i ρ' hq
      exact ⟨w1, ρ, μ1.nx, x, ρ', EN.grow g1, r1, hq, fun σ' EN' _ => h1 w1 H1 σ' S1 EN' .refl⟩
    · exact h1.elim⟩
/-! ### stores -/
theorem pms_sto {o i : Expr} {pos' : Pos} (hv : PM X E e mv) (ho : PM X E o mo) (hi : PM X E i mi) (hs : swapsWithSole [.Subscript o i pos'] e pos.line X.env = pure false := by rfl) (hw : swappedStores [.Subscript o i pos'] e X.env = pure none := by rfl)
    (h1 : (assignEach [.Subscript o i pos'] X.env).map (·.2) = [assign (.Subscript o i pos') X.env] := by rfl)
    (ha : ∀ v, assign (.Subscript o i pos') X.env v = (do
      let ov ← holding [v] (eval o X.env)
      let iv ← holding [v, ov] (eval i X.env)
      standAt pos'
      holding [v, ov, iv] (setItem ov iv v)
      release [v, ov, iv] []) := by intro _; rfl) : PMS X E (.Assign [.Subscript o i pos'] e pos) (sSto stoM mo mi mv) :=
  PS.imp (ps_asg hv (pg_sub ho hi set_list ha) hs hw h1) fun D σ H ⟨w, ρ, μ, S, EN, hp⟩ => ⟨w, ρ, μ, S, EN, PostS.bind hp fun v μ1 w1 H1 uv S1 rv g1 h1 => ⟨w1, ρ, μ1, S1, EN.grow g1, PostS.bind h1 fun o μ2 w2 H2 uo S2 ro g2 h2 => ⟨w2, ρ, μ2, S2, (EN.grow g1).grow g2, PostS.bind h2 fun i μ3 w3 H3 ui S3 ri g3 h3 => by
    have rv := VR.grow g3 (VR.grow g2 rv)
    have ro := VR.grow g3 ro
    have EN3 := ((EN.grow g1).grow g2).grow g3
    unfold stoM at h3
    split at h3
    · cases ri
      cases ro
      split at h3
      · rename_i vs hn
        split at h3
        · rename_i j hj
          obtain ⟨us, q1, q2⟩ := S3.ok _ _ hn
          obtain ⟨S4, g4⟩ := S3.setL hn (q2.set j rv)
          exact ⟨_, us, _, j, rfl, rfl, q1, by rw [q2.length]; exact hj, h3 w3 _ σ S4 (EN3.grow g4) g4⟩
        · exact h3.elim
      · exact h3.elim
    · exact h3.elim⟩⟩⟩
end
section
variable {K : PySem.W.Frag} {ad : Nat → Addr} {b : Nat} {H : Hp}
theorem kAny {k : Key} : ∀ {kvs : List (Key × Val)} {us : List (Key × V)}, us.map (·.1) = kvs.map (·.1) → (us.any fun p => decide (p.1 = k)) = kvs.any fun p => decide (p.1 = k)
  | [], [], _ => rfl
  | p :: kvs, q :: us, h => by
    simp only [List.map_cons, List.cons.injEq] at h
    rw [List.any_cons, List.any_cons, kAny h.2, h.1]
  | [], _ :: _, h => by simp at h
  | _ :: _, [], h => by simp at h
theorem kPut_rel {k : Key} {v : Val} {u : V} (rv : VR K ad b H v u) {kvs : List (Key × Val)} {us : List (Key × V)} (h : us.map (·.1) = kvs.map (·.1)) (r : VRs K ad b H (kvs.map (·.2)) (us.map (·.2))) :
    (putK us k u).map (·.1) = (kPut kvs k v).map (·.1) ∧ VRs K ad b H ((kPut kvs k v).map (·.2)) ((putK us k u).map (·.2)) := by
  unfold putK kPut
  rw [kAny h]
  by_cases c : (kvs.any fun p => decide (p.1 = k)) = true
  · rw [if_pos c, if_pos c]
    clear c
    induction kvs generalizing us with
    | nil =>
      cases us with
      | nil => exact ⟨rfl, .nil⟩
      | cons _ _ => simp at h
    | cons p kvs ih =>
      cases us with
      | nil => simp at h
      | cons q us =>
        simp only [List.map_cons, List.cons.injEq] at h
        cases r with
        | cons r1 r2 =>
          obtain ⟨i1, i2⟩ := ih h.2 r2
          simp only [List.map_cons]
          by_cases c : p.1 = k
          · rw [if_pos c, if_pos (h.1.trans c)]
            exact ⟨by rw [i1, h.1], .cons rv i2⟩
          · rw [if_neg c, if_neg (fun z => c (h.1.symm.trans z))]
            exact ⟨by rw [i1, h.1], .cons r1 i2⟩
  · rw [if_neg c, if_neg c]
    refine ⟨by rw [List.map_append, List.map_append, h]; rfl, ?_⟩
    rw [List.map_append, List.map_append]
    exact r.app (VRs.one rv)
theorem kDrop_rel {k : Key} : ∀ {kvs : List (Key × Val)} {us : List (Key × V)}, us.map (·.1) = kvs.map (·.1) → VRs K ad b H (kvs.map (·.2)) (us.map (·.2)) →
    (dropK us k).map (·.1) = (kDrop kvs k).map (·.1) ∧ VRs K ad b H ((kDrop kvs k).map (·.2)) ((dropK us k).map (·.2))
  | [], [], _, _ => ⟨rfl, .nil⟩
  | p :: kvs, q :: us, h, r => by
    simp only [List.map_cons, List.cons.injEq] at h
    cases r with
    | cons r1 r2 =>
      obtain ⟨i1, i2⟩ := kDrop_rel (k := k) h.2 r2
      unfold dropK kDrop at i1 i2 ⊢
      by_cases c : p.1 = k
      · have c' : q.1 = k := h.1.trans c
        rw [List.filter_cons_of_neg (fun z => (of_decide_eq_true z) c'), List.filter_cons_of_neg (fun z => (of_decide_eq_true z) c)]
        exact ⟨i1, i2⟩
      · have c' : ¬ q.1 = k := fun z => c (h.1.symm.trans z)
        rw [List.filter_cons_of_pos (p := fun kv : Key × V => decide (kv.1 ≠ k)) (decide_eq_true c'), List.filter_cons_of_pos (p := fun kv : Key × Val => decide (kv.1 ≠ k)) (decide_eq_true c)]
        exact ⟨by rw [List.map_cons, List.map_cons, i1, h.1], .cons r1 i2⟩
  | [], _ :: _, h, _ => by simp at h
  | _ :: _, [], h, _ => by simp at h
end
section
variable {X : Cx} {E : XK} {e c o : Expr} {es : List Expr} {st : Stmt} {sts a b : List Stmt} {m mo mi mv : ME} {ms mt : MS} {mc : MT} {mr : MA} {pos : Pos}
theorem kv_len' {K : PySem.W.Frag} {ad : Nat → Addr} {b : Nat} {H : Hp} {kvs : List (Key × Val)} {us : List (Key × V)} (h : us.map (·.1) = kvs.map (·.1)) : us.length = kvs.length := by
  have := congrArg List.length h
  simpa using this
theorem pms_dsto {o i : Expr} {pos' : Pos} (hu : X.A.units + 1 < cLine) (hv : PM X E e mv) (ho : PM X E o mo) (hi : PM X E i mi) (hs : swapsWith e (some (.Subscript o i pos')) pos.line X.env = pure false := by rfl) : PMS X E (.Assign [.Subscript o i pos'] e pos) (sSto dstoM mo mi mv) :=
  PS.imp (ps_dput hu ho hi hv hs) fun D σ H ⟨w, ρ, μ, S, EN, hp⟩ => ⟨w, ρ, μ, S, EN, PostS.bind hp fun v μ1 w1 H1 uv S1 rv g1 h1 => ⟨w1, ρ, μ1, S1, EN.grow g1, PostS.bind h1 fun o μ2 w2 H2 uo S2 ro g2 h2 => ⟨w2, ρ, μ2, S2, (EN.grow g1).grow g2, PostS.bind h2 fun i μ3 w3 H3 ui S3 ri g3 h3 => by
    have rv := VR.grow g3 (VR.grow g2 rv)
    have ro := VR.grow g3 ro
    have EN3 := ((EN.grow g1).grow g2).grow g3
    unfold dstoM at h3
    split at h3
    · cases ro
      split at h3
      · rename_i kvs k hn hk
        split at h3
        · rename_i hz
          obtain ⟨us, q1, q2, q3⟩ := S3.ok _ _ hn
          rw [keyOf_kV hk ri]
          obtain ⟨p1, p2⟩ := kPut_rel (k := k) rv q2 q3
          obtain ⟨S4, g4⟩ := S3.setD hn p1 p2
          exact ⟨_, _, rfl, DPut.k q1 (by rw [kv_len' (K := X.K) (ad := w3.ad) (b := 0) (H := H3) q2]; exact lim6 hz), h3 w3 _ σ S4 (EN3.grow g4) g4⟩
        · exact h3.elim
      · exact h3.elim
    · exact h3.elim⟩⟩⟩
end
end Wn
/-! the law's level: loops, defs -/
namespace Wn
open PySem PySem.Spec PyProof.Rows L2 LamX He

/-! ### what is walked -/
inductive Wk where
  | seq (v : Val) | rng (lo : Int) (n : Nat) | enm (n : Nat) | zip (n m : Nat) | key (n : Nat)
def keyV : Key → Val
  | .inl i => .int i
  | .inr x => .str x
def rngM (lo : Int) (n : Nat) : List Val := (List.range n).map fun (k : Nat) => .int (lo + (k : Int))
def enmM (vs : List Val) : List Val := vs.zipIdx.map fun p => .tup [.int (p.2 : Nat), p.1]
def zipM (vs ws : List Val) : List Val := (vs.zip ws).map fun p => .tup [p.1, p.2]
def Wk.items : Wk → Mu → Option (List Val)
  | .seq (.tup vs), _ => some vs
  | .seq (.loc n), μ => seqOf μ n
  | .seq _, _ => none
  | .rng lo n, _ => some (rngM lo n)
  | .enm n, μ => (seqOf μ n).map enmM
  | .zip n m, μ => match seqOf μ n, seqOf μ m with
    | some vs, some ws => some (zipM vs ws)
    | _, _ => none
  | .key n, μ => match μ.ob n with
    | some (.rod kvs) => some (kvs.map fun p => keyV p.1)
    | _ => none
abbrev MI := Rho → Mu → R Wk
def relI (K : PySem.W.Frag) : Rel Wk It := fun w b H k J => ∀ w' μ' H', Grow K w b H w' μ'.nx H' → Sim K w' μ' H' → ∀ vs, k.items μ' = some vs → ∀ i : Nat, (vs[i]? = none → J.stop i H') ∧
  ∀ v, vs[i]? = some v → J.go i H' ∧ ∀ x H2, J.yld i H' x H2 → ∃ w2, Sim K w2 μ' H2 ∧ VR K w2.ad μ'.nx H2 v x ∧ Grow K w' μ'.nx H' w2 μ'.nx H2
def PMI (X : Cx) (E : XK) (tg iter : Expr) (m : MI) : Prop := PI X tg iter (tM X.K (relI X.K) E m)
theorem PI.imp {X : Cx} {tg iter : Expr} {t t0 : TI} (h : PI X tg iter t) (i : ∀ σ H R, t0 σ H R → t σ H R) : PI X tg iter t0 := ⟨fun pins s σ H R I hw => h.run pins s σ H R I (i σ H R hw)⟩
def iSeq (m : ME) : MI := fun ρ μ => (m ρ μ).bind fun v μ => match (Wk.seq v).items μ with
  | some _ => .ok (.seq v) μ
  | none => .no
def iRng1 (m : MA) : MI := fun ρ μ => (m ρ μ).bind fun vs μ => match vs with
  | [.int j] => if j ≤ 1000000 ∧ -1000000 ≤ j then .ok (.rng 0 j.toNat) μ else .no
  | _ => .no
def iRng2 (m : MA) : MI := fun ρ μ => (m ρ μ).bind fun vs μ => match vs with
  | [.int i, .int j] => if (j ≤ 1000000 ∧ -1000000 ≤ j) ∧ i ≤ 1000000 ∧ -1000000 ≤ i then .ok (.rng i (j - i).toNat) μ else .no
  | _ => .no
def iEnm (m : MA) : MI := fun ρ μ => (m ρ μ).bind fun vs μ => match vs with
  | [.loc n] => match seqOf μ n with
    | some _ => .ok (.enm n) μ
    | none => .no
  | _ => .no
theorem rngM_get (lo : Int) (n i : Nat) : (rngM lo n)[i]? = if i < n then some (.int (lo + i)) else none := by
  unfold rngM
  rw [List.getElem?_map]
  by_cases c : i < n
  · rw [if_pos c, List.getElem?_range c]
    rfl
  · rw [if_neg c, List.getElem?_eq_none (by rw [List.length_range]; omega)]
    rfl
theorem enmM_get (vs : List Val) (i : Nat) : (enmM vs)[i]? = (vs[i]?).map fun v => .tup [.int (i : Nat), v] := by
  unfold enmM
  rw [List.getElem?_map, List.getElem?_zipIdx]
  cases vs[i]? with
  | none => rfl
  | some v => simp
section
variable {X : Cx} {E : XK} {e tg iter a : Expr} {m n : ME} {pos p : Pos}
theorem relI_seq {K : PySem.W.Frag} {w : Wt} {b : Nat} {H : Hp} {k : Nat} (hk : k < b) : relI K w b H (.seq (.loc k)) (Itl K (w.ad k)) := by
  intro w' μ' H' g S vs hv i
  obtain ⟨us, q1, q2⟩ := seqOf_sq S (show seqOf μ' k = some vs from hv)
  rw [g.ad k hk] at q1
  refine ⟨fun h => ⟨us, q1, ?_⟩, fun v h => ?_⟩
  · rw [q2.length]
    exact List.getElem?_eq_none_iff.mp h
  · obtain ⟨u, e1, e2⟩ := q2.get i v h
    refine ⟨⟨us, u, q1, e1⟩, fun x H2 y => ?_⟩
    obtain ⟨rfl, y⟩ := y
    have := y us q1
    rw [e1] at this
    cases this
    exact ⟨w', S, e2, .refl⟩
theorem relI_tup {K : PySem.W.Frag} {w : Wt} {b : Nat} {H : Hp} {p : Addr} {vs0 : List Val} {us : List V} (hq : SqT K H p us) (r : VRs K w.ad b H vs0 us) : relI K w b H (.seq (.tup vs0)) (Itt K p) := by
  intro w' μ' H' g S vs hv i
  have hv : some vs0 = some vs := hv
  cases hv
  have q1 := g.tp _ _ hq
  have q2 := r.grow g
  refine ⟨fun h => ⟨us, q1, ?_⟩, fun v h => ?_⟩
  · rw [q2.length]
    exact List.getElem?_eq_none_iff.mp h
  · obtain ⟨u, e1, e2⟩ := q2.get i v h
    refine ⟨⟨us, u, q1, e1⟩, fun x H2 y => ?_⟩
    obtain ⟨rfl, y⟩ := y
    have := y us q1
    rw [e1] at this
    cases this
    exact ⟨w', S, e2, .refl⟩
theorem relI_rng {K : PySem.W.Frag} {w : Wt} {b : Nat} {H : Hp} {lo : Int} {n : Nat} : relI K w b H (.rng lo n) (Itr lo n) := by
  intro w' μ' H' g S vs hv i
  have hv : some (rngM lo n) = some vs := hv
  cases hv
  rw [rngM_get]
  refine ⟨fun h => ?_, fun v h => ?_⟩
  · split at h
    · cases h
    · rename_i c
      exact Nat.le_of_not_lt c
  · split at h
    · rename_i c
      cases h
      refine ⟨c, fun x H2 y => ?_⟩
      obtain ⟨rfl, rfl⟩ := y
      exact ⟨w', S, .int _, .refl⟩
    · cases h
theorem relI_enm {K : PySem.W.Frag} {w : Wt} {b : Nat} {H : Hp} {k : Nat} (hk : k < b) : relI K w b H (.enm k) (Ite K (w.ad k)) := by
  intro w' μ' H' g S vs hv i
  obtain ⟨vs0, h0, h1⟩ := Option.map_eq_some_iff.mp (show (seqOf μ' k).map enmM = some vs from hv)
  subst h1
  obtain ⟨us, q1, q2⟩ := seqOf_sq S h0
  rw [g.ad k hk] at q1
  rw [enmM_get]
  refine ⟨fun h => ⟨us, q1, ?_⟩, fun v h => ?_⟩
  · rw [q2.length]
    exact List.getElem?_eq_none_iff.mp (Option.map_eq_none_iff.mp h)
  · obtain ⟨v0, h2, h3⟩ := Option.map_eq_some_iff.mp h
    subst h3
    obtain ⟨u, e1, e2⟩ := q2.get i v0 h2
    refine ⟨⟨us, u, q1, e1⟩, fun x H2 y => ?_⟩
    obtain ⟨T, x', rfl, hT, rfl, hx⟩ := y
    have := hx us q1
    rw [e1] at this
    cases this
    obtain ⟨S4, g4, v4⟩ := S.newT hT (VRs.cons (.int (i : Nat)) (VRs.one e2))
    exact ⟨w', S4, v4, g4⟩
theorem pi_seq {l : Expr} {tl : TE} (hl : PE X l tl) : PI X tg l (fun σ H R => tl σ H fun x H1 => (∃ a, x = .ref a ∧ (∃ xs, SqL X.K H1 a xs) ∧ R (Itl X.K a) H1) ∨ ∃ a, x = .ref a ∧ (∃ xs, SqT X.K H1 a xs) ∧ R (Itt X.K a) H1) := by
  refine ⟨fun pins s σ H R I h => ?_⟩
  refine thn (hl.run pins s σ H _ I h) fun v s1 ⟨x, H1, I1, r1, q1⟩ => ?_
  rcases q1 with ⟨a, e, ⟨xs, hq⟩, q⟩ | ⟨a, e, ⟨xs, hq⟩, q⟩
  · subst e
    cases r1
    obtain ⟨its, rv, p, hz⟩ := I1.list hq
    refine wpAny_pyIter_list p.isList ?_
    refine ⟨s1.heap.objs.size, [s1.heap.objs.size], _, _, H1, rfl, I1.kept (t' := s1.toks) fun b o e => Heap.get?_push_of_some _ e, turn_list a _, ⟨_, Heap.get?_push_size _ rfl, rfl, rfl⟩, fun b hb => ?_, q⟩
    have e : b = s1.heap.objs.size := by simpa using hb
    subst e
    exact I1.fpOk (Nat.le_refl _) (I1.hok.fresh (Nat.le_refl _))
  · subst e
    cases r1
    obtain ⟨its, rv, p, hz⟩ := I1.tuple hq
    refine wpAny_pyIter_tuple (show s1.heap.IsTuple a its.toArray from p) ?_
    refine ⟨s1.heap.objs.size, [s1.heap.objs.size], _, _, H1, rfl, I1.kept (t' := s1.toks) fun b o e => Heap.get?_push_of_some _ e, turn_tuple a _, ⟨_, Heap.get?_push_size _ rfl, rfl, rfl⟩, fun b hb => ?_, q⟩
    have e : b = s1.heap.objs.size := by simpa using hb
    subst e
    exact I1.fpOk (Nat.le_refl _) (I1.hok.fresh (Nat.le_refl _))
theorem pmi_seq (h : PM X E e m) : PMI X E tg e (iSeq m) :=
  PI.imp (pi_seq h) fun σ H R ⟨w, ρ, μ, S, EN, hp⟩ => ⟨w, ρ, μ, S, EN, Post.bind hp fun x μ1 w1 H1 u1 S1 r1 g1 h1 => by
    split at h1
    · rename_i vs hv
      cases x with
      | loc k =>
        cases r1 with
        | loc hk =>
          obtain ⟨us, q1, q2⟩ := seqOf_sq S1 (show seqOf μ1 k = some vs from hv)
          exact .inl ⟨_, rfl, ⟨us, q1⟩, h1 w1 H1 _ S1 (relI_seq hk) .refl⟩
      | tup vs0 =>
        obtain ⟨a, us, rfl, hq, rq⟩ := vr_tup r1
        exact .inr ⟨_, rfl, ⟨us, hq⟩, h1 w1 H1 _ S1 (relI_tup hq rq) .refl⟩
      | non => cases hv
      | bl _ => cases hv
      | int _ => cases hv
      | str _ => cases hv
    · exact h1.elim⟩
theorem pmi_rng1 {mr : MA} (hg : Gl X "range") (hm : X.mg "range" = none) (h : PMA X E [a] mr) (hs : starEach [a] X.env = [(false, eval a X.env)] := by rfl) : PMI X E tg (.Call (.Name "range" p) [a] [] pos) (iRng1 mr) :=
  PI.imp (pi_range1 hg hm h hs) fun σ H R ⟨w, ρ, μ, S, EN, hp⟩ => ⟨w, ρ, μ, S, EN, Post.bind hp fun x μ1 w1 H1 u1 S1 r1 g1 h1 => by
    split at h1
    · cases r1 with
      | cons r1 r2 =>
        cases r2; cases r1
        split at h1
        · rename_i hz
          exact ⟨_, rfl, by omega, by omega, h1 w1 H1 _ S1 relI_rng .refl⟩
        · exact h1.elim
    · exact h1.elim⟩
theorem pmi_enm {mr : MA} {elts : List Expr} {kk : Nat} {tpos : Pos} (hg : Gl X "enumerate") (hm : X.mg "enumerate" = none) (h : PMA X E [e] mr) (hs : starEach [e] X.env = [(false, eval e X.env)] := by rfl) : PMI X E (.Tuple elts kk tpos) (.Call (.Name "enumerate" p) [e] [] pos) (iEnm mr) :=
  PI.imp (pi_enum hg hm h hs) fun σ H R ⟨w, ρ, μ, S, EN, hp⟩ => ⟨w, ρ, μ, S, EN, Post.bind hp fun x μ1 w1 H1 u1 S1 r1 g1 h1 => by
    split at h1
    · rename_i k
      cases r1 with
      | cons r1 r2 =>
        cases r2
        cases r1 with
        | loc hk =>
          split at h1
          · rename_i vs hv
            obtain ⟨us, q1, q2⟩ := seqOf_sq S1 hv
            exact ⟨_, us, rfl, q1, h1 w1 H1 _ S1 (relI_enm hk) .refl⟩
          · exact h1.elim
    · exact h1.elim⟩
end
/-! ### for -/
def forM' (get : Mu → Option (List Val)) (g : Val → Rho → Option Rho) (body : MS) : Nat → Nat → Rho → Mu → R Fl
  | 0, _, _, _ => .no
  | f + 1, i, ρ, μ => match get μ with
    | none => .no
    | some vs => match vs[i]? with
      | none => .ok (.nx ρ) μ
      | some v => match g v ρ with
        | none => .no
        | some ρ1 => match body ρ1 μ with
          | .ok (.nx ρ2) μ2 => forM' get g body f (i + 1) ρ2 μ2
          | .ok (.ct ρ2) μ2 => forM' get g body f (i + 1) ρ2 μ2
          | .ok (.bk ρ2) μ2 => .ok (.nx ρ2) μ2
          | r => r
def sFor (it : MI) (g : Val → Rho → Option Rho) (body : MS) : MS := fun ρ μ => (it ρ μ).bind fun k μ => match k.items μ with
  | none => .no
  | some vs => forM' k.items g body (vs.length + 1) 0 ρ μ
section
variable {X : Cx} {E : XK} {e tg iter c : Expr} {body : List Stmt} {mi : MI} {is : List Nat} {g : Val → Rho → Option Rho} {mb : MS} {mc : MT} {pos : Pos}
theorem pms_for (hp : PassesOwn (model X.prog X.w) X.A X.env X.xe) (hc : X.calm = true) (hi : PMI X E tg iter mi) (hg : PMG X tg is g) (hb : PMSs X E body mb)
    (hs : ∀ x, foldedSetIterable iter X.env x = pure x := by intro _; rfl) : PMS X E (.For tg iter body [] pos) (sFor mi g mb) :=
  PS.imp (ps_for hp hc hi hg hb hs) fun D σ H ⟨w, ρ, μ, S, EN, hp⟩ => ⟨w, ρ, μ, S, EN, PostS.bind hp fun k μ1 w1 H1 J S1 r1 g1 h1 => by
    split at h1
    · exact h1.elim
    · rename_i vs0 hv0
      refine ⟨fun i f σ' H' => ∃ w' ρ' μ', Sim X.K w' μ' H' ∧ EnvR X.K w' μ'.nx H' ρ' σ' ∧ Grow X.K w1 μ1.nx H1 w' μ'.nx H' ∧ PostS X.K E w' μ'.nx H' D (forM' k.items g mb f i ρ' μ'), ⟨_, w1, ρ, μ1, S1, EN.grow g1, .refl, h1⟩, ?_⟩
      rintro i f σ' H' ⟨w', ρ', μ', S', EN', g', h'⟩
      cases f with
      | zero => exact h'.elim
      | succ f =>
        rw [forM'] at h'
        split at h'
        · exact h'.elim
        · rename_i vs hv
          obtain ⟨q1, q2⟩ := r1 w' μ' H' g' S' vs hv i
          split at h'
          · rename_i hn
            exact .inl ⟨q1 hn, h' w' H' σ' S' EN' .refl⟩
          · rename_i v hn
            obtain ⟨go, yl⟩ := q2 v hn
            refine .inr ⟨go, fun σ2 H2 => ∃ w2 ρ2 μ2, Sim X.K w2 μ2 H2 ∧ EnvR X.K w2 μ2.nx H2 ρ2 σ2 ∧ Grow X.K w1 μ1.nx H1 w2 μ2.nx H2 ∧ PostS X.K E w2 μ2.nx H2 D (forM' k.items g mb f (i + 1) ρ2 μ2), fun σ2 H2 q => ⟨f, Nat.lt_succ_self _, q⟩, fun x H2 y => ?_⟩
            obtain ⟨w2, S2, v2, g2⟩ := yl x H2 y
            split at h'
            · exact h'.elim
            · rename_i ρ1 hg1
              refine ⟨w2, ρ', μ'.nx, v, ρ1, EN'.grow g2, v2, hg1, fun σ3 EN3 _ => ⟨w2, ρ1, μ', S2, EN3, ?_⟩⟩
              have h' := PostS.grow (b1 := μ'.nx) (H1 := H2) (w1 := w2) h' g2
              cases hb2 : mb ρ1 μ' with
              | no => rw [hb2] at h'; exact h'
              | er c fs μ3 => rw [hb2] at h'; exact h'
              | ok a μ3 =>
                cases a with
                | nx ρ3 =>
                  rw [hb2] at h'
                  exact fun w4 H4 σ4 S4 EN4 g4 => ⟨w4, ρ3, μ3, S4, EN4, (g'.trans g2).trans g4, PostS.grow h' g4⟩
                | ct ρ3 =>
                  rw [hb2] at h'
                  exact fun w4 H4 σ4 S4 EN4 g4 => ⟨w4, ρ3, μ3, S4, EN4, (g'.trans g2).trans g4, PostS.grow h' g4⟩
                | bk ρ3 =>
                  rw [hb2] at h'
                  exact h'
                | rt v3 =>
                  rw [hb2] at h'
                  exact h'⟩
end
/-! ### for x in d: the dict is locked meanwhile -/
theorem keyV_rel {K : PySem.W.Frag} {ad : Nat → Addr} {b : Nat} {H : Hp} (k : Key) : VR K ad b H (keyV k) (kV k) := by
  cases k with
  | inl i => exact .int i
  | inr x => exact .str x
theorem relI_key {K : PySem.W.Frag} {w : Wt} {b : Nat} {H : Hp} {n : Nat} {o : Obj} {us : List (Key × V)} (hk : n < b) (hd : H (w.ad n) = some (.frz o (.dK us))) : relI K w b H (.key n) (Itk (w.ad n) o us) := by
  intro w' μ' H' g S vs hv i
  have hd' := g.fz _ _ _ hd
  have hv : (match μ'.ob n with | some (.rod kvs) => some (kvs.map fun p => keyV p.1) | _ => none) = some vs := hv
  split at hv
  · rename_i kvs e
    cases hv
    obtain ⟨_, o', us', q1, q2, q3⟩ := S.ok _ _ e
    rw [g.ad n hk, hd'] at q1
    cases q1
    have hl : us.length = kvs.length := by
      have := congrArg List.length q2
      simpa using this
    refine ⟨fun h => ⟨hd', ?_⟩, fun v h => ?_⟩
    · have := List.getElem?_eq_none_iff.mp h
      rw [List.length_map] at this
      omega
    · rw [List.getElem?_map] at h
      obtain ⟨p, h1, h2⟩ := Option.map_eq_some_iff.mp h
      have hi : i < kvs.length := (List.getElem?_eq_some_iff.mp h1).1
      refine ⟨⟨hd', by omega⟩, fun x H2 y => ?_⟩
      obtain ⟨rfl, k, v', e1, rfl⟩ := y
      have e3 : (us.map (·.1))[i]? = (kvs.map (·.1))[i]? := by rw [q2]
      rw [List.getElem?_map, List.getElem?_map, e1, h1] at e3
      have e3 : k = p.1 := Option.some.inj e3
      subst h2 e3
      exact ⟨w', S, keyV_rel _, .refl⟩
  · cases hv
def iKey (i : Nat) : MI := fun ρ μ => match ρ[i]? with
  | some (some (.loc n)) => match μ.ob n with
    | some (.rod _) => .ok (.key n) μ
    | _ => .no
  | _ => .no
theorem pmi_key {X : Cx} {E : XK} {e tg : Expr} {i : Nat} (h : PE X e (tVar i)) : PMI X E tg e (iKey i) :=
  PI.imp (pi_keys h) fun σ H R ⟨w, ρ, μ, S, EN, hp⟩ => by
    unfold iKey at hp
    split at hp
    · rename_i n hv
      split at hp
      · rename_i kvs e
        obtain ⟨u, h1, h2⟩ := EN.2 _ _ hv
        cases h2 with
        | loc hn =>
          obtain ⟨_, o, us, q1, q2, q3⟩ := S.ok _ _ e
          exact ⟨_, h1, _, o, rfl, .inl ⟨us, q1, hp w H _ S (relI_key hn q1) .refl⟩⟩
      · exact hp.elim
    · exact hp.elim
def unlk (n : Nat) : R Fl → R Fl
  | .ok a μ => match μ.ob n with
    | some (.rod kvs) => .ok a (μ.put n (.dct kvs))
    | _ => .no
  | _ => .no
def sLk (i : Nat) (m : MS) : MS := fun ρ μ => match ρ[i]? with
  | some (some (.loc n)) => match μ.ob n with
    | some (.dct kvs) => unlk n (m ρ (μ.put n (.rod kvs)))
    | _ => m ρ μ
  | _ => m ρ μ
theorem pms_lk {X : Cx} {E : XK} {st : Stmt} {m : MS} {i : Nat} (h : PMS X E st m) : PMS X E st (sLk i m) := by
  refine ⟨fun pins s σ H D I ht => ?_⟩
  obtain ⟨w, ρ, μ, S, EN, hp⟩ := ht
  unfold sLk at hp
  split at hp
  · rename_i n hv
    split at hp
    · rename_i kvs e
      obtain ⟨us, q1, q2, q3⟩ := S.ok _ _ e
      have hnx := S.lt e
      refine (ps_lock h).run pins s σ H D I ⟨w.ad n, .dK us, q1, trivial, fun od => ?_⟩
      obtain ⟨w1, S1, g1, e1⟩ := S.lock (o := od) e q1 q2 q3
      refine ⟨w1, ρ, μ.put n (.rod kvs), S1, EN.grow g1, ?_⟩
      have fin : ∀ {a : Fl} {μ' : Mu} {w' : Wt} {H' : Hp} {kvs' : List (Key × Val)}, μ'.ob n = some (.rod kvs') → Sim X.K w' μ' H' → Grow X.K w1 μ.nx (upd H (w.ad n) (.frz od (.dK us))) w' μ'.nx H' →
          H' (w.ad n) = some (.frz od (.dK us)) ∧ Sim X.K w' (μ'.put n (.dct kvs')) (upd H' (w.ad n) (.dK us)) ∧ Grow X.K w μ.nx H w' μ'.nx (upd H' (w.ad n) (.dK us)) ∧ Grow0 X.K w' μ'.nx H' w' μ'.nx (upd H' (w.ad n) (.dK us)) := fun {a μ' w' H' kvs'} e' S' g' => by
        have hf := g'.fz _ _ _ upd_same
        have ea : w'.ad n = w.ad n := by rw [g'.ad n hnx, e1]
        have S2 := S'.unlk (o := od) (us := us) e' (by rw [ea]; exact hf)
        rw [ea] at S2
        have g2 : Grow X.K w μ.nx (upd H (w.ad n) (.frz od (.dK us))) w' μ'.nx H' := ⟨⟨g'.le, fun m hm => by rw [g'.ad m hm, e1], g'.tp⟩, g'.fz⟩
        refine ⟨hf, S2, g2.unlk q1, ⟨Nat.le_refl _, fun _ _ => rfl, fun a xs h => ?_⟩⟩
        rcases h with (h | ⟨o, h⟩) | h
        · exact .inl (.inl (by rw [upd_ne (fun z => by rw [z, hf] at h; cases h)]; exact h))
        · exact .inl (.inr ⟨o, by rw [upd_ne (fun z => by rw [z, hf] at h; cases h)]; exact h⟩)
        · exact .inr h
      show PostS X.K E w1 μ.nx (upd H (w.ad n) (.frz od (.dK us))) _ (m ρ (μ.put n (.rod kvs)))
      cases hm : m ρ (μ.put n (.rod kvs)) with
      | no => rw [hm] at hp; exact hp
      | er c fs μ' => rw [hm] at hp; exact hp.elim
      | ok a μ' =>
        rw [hm] at hp
        have hp : PostS X.K E w μ.nx H D (match μ'.ob n with | some (.rod kvs) => .ok a (μ'.put n (.dct kvs)) | _ => .no) := hp
        · split at hp
          · rename_i kvs' e'
            cases a with
            | nx ρ' =>
              intro w' H' σ' S' EN' g'
              obtain ⟨z1, z2, z3, z4⟩ := fin (a := .nx ρ') e' S' g'
              exact ⟨z1, hp w' _ σ' z2 ⟨EN'.1, fun i x hx => (EN'.2 i x hx).imp fun u hu => ⟨hu.1, hu.2.grow0 z4⟩⟩ z3⟩
            | bk ρ' =>
              intro w' H' σ' S' EN' g'
              obtain ⟨z1, z2, z3, z4⟩ := fin (a := .nx ρ') e' S' g'
              exact ⟨z1, hp w' _ σ' z2 ⟨EN'.1, fun i x hx => (EN'.2 i x hx).imp fun u hu => ⟨hu.1, hu.2.grow0 z4⟩⟩ z3⟩
            | ct ρ' =>
              intro w' H' σ' S' EN' g'
              obtain ⟨z1, z2, z3, z4⟩ := fin (a := .nx ρ') e' S' g'
              exact ⟨z1, hp w' _ σ' z2 ⟨EN'.1, fun i x hx => (EN'.2 i x hx).imp fun u hu => ⟨hu.1, hu.2.grow0 z4⟩⟩ z3⟩
            | rt v =>
              intro w' H' u S' r' g'
              obtain ⟨z1, z2, z3, z4⟩ := fin (a := .rt v) e' S' g'
              exact ⟨z1, hp w' _ u z2 (r'.grow0 z4) z3⟩
          · exact hp.elim
    · exact h.run pins s σ H D I ⟨w, ρ, μ, S, EN, hp⟩
  · exact h.run pins s σ H D I ⟨w, ρ, μ, S, EN, hp⟩
end Wn
/-! the law's level: comprehensions, defs -/
namespace Wn
open PySem PySem.Spec PyProof.Rows L2 LamX He

def E0' : XK := fun _ _ _ => False
def R.cut {α : Type} : R α → R α
  | .er _ _ _ => .no
  | r => r
@[simp] theorem R.cut_ok {α : Type} (a : α) (μ : Mu) : (R.ok a μ).cut = .ok a μ := rfl
@[simp] theorem R.cut_no {α : Type} : (R.no : R α).cut = .no := rfl
def wipeV (ρ : Rho) : List Nat → Rho
  | [] => ρ
  | v :: vs => (wipeV ρ vs).set v none
theorem EnvR.wipe {K : PySem.W.Frag} {w : Wt} {b : Nat} {H : Hp} {ρ : Rho} {σ : L2.St} (h : EnvR K w b H ρ σ) : ∀ vs : List Nat, EnvR K w b H (wipeV ρ vs) (L2.wipe σ vs)
  | [] => h
  | v :: vs => by
    have ih := h.wipe vs
    unfold wipeV L2.wipe
    refine ⟨by rw [List.length_set, List.length_set]; exact ih.1, fun i x e => ?_⟩
    by_cases c : v = i
    · subst c
      rw [List.getElem?_set, if_pos rfl] at e
      split at e
      · cases e
      · cases e
    · rw [List.getElem?_set_ne c] at e ⊢
      exact ih.2 i x e
theorem wipe_wipe (σ : L2.St) (vs : List Nat) : L2.wipe (L2.wipe σ vs) vs = L2.wipe σ vs := by
  apply List.ext_getElem?
  intro j
  by_cases c : j ∈ vs
  · rw [wipe_in c, wipe_in c]
    cases σ[j]? <;> rfl
  · rw [wipe_out c]
def mYes : MT := fun _ μ => .ok true μ
def lcM (get : Mu → Option (List Val)) (g : Val → Rho → Option Rho) (c : MT) (elt : ME) (D : Nat) (ρ : Rho) : Nat → Nat → Mu → R Unit
  | 0, _, _ => .no
  | f + 1, i, μ => match get μ with
    | none => .no
    | some vs => match vs[i]? with
      | none => .ok () μ
      | some v => match g v ρ with
        | none => .no
        | some ρ1 => (c ρ1 μ).cut.bind fun k μ => if k = true then (elt ρ1 μ).cut.bind fun y μ => match μ.ob D with
              | some (.lst acc) => if acc.length ≤ 1000000 then lcM get g c elt D ρ f (i + 1) (μ.put D (.lst (acc ++ [y]))) else .no
              | _ => .no
            else lcM get g c elt D ρ f (i + 1) μ
def mLc (it : MI) (own : List Nat) (g : Val → Rho → Option Rho) (c : MT) (elt : ME) : ME := fun ρ μ => (it ρ μ).bind fun k μ => match k.items μ with
  | none => .no
  | some vs => (lcM k.items g c elt μ.nx (wipeV ρ own) (vs.length + 1) 0 (μ.new (.lst []))).bind fun _ μ' => .ok (.loc μ.nx) μ'
theorem Post.cut {K : PySem.W.Frag} {α β γ δ : Type} {rel : Rel α β} {rel' : Rel γ δ} {E : XK} {w : Wt} {b : Nat} {H : Hp} {Q : δ → Hp → Prop} {Q1 : β → Hp → Prop} {r : R α} {k : α → Mu → R γ} (h : Post K rel' E w b H Q (r.cut.bind k))
    (f : ∀ a μ1 w1 H1 u1, Sim K w1 μ1 H1 → rel w1 μ1.nx H1 a u1 → Grow K w b H w1 μ1.nx H1 → Post K rel' E w1 μ1.nx H1 Q (k a μ1) → Q1 u1 H1) : Post K rel E0' w b H Q1 r := by
  cases r with
  | ok a μ1 => exact fun w1 H1 u1 S r g => f a μ1 w1 H1 u1 S r g (Post.grow h g)
  | er c fs μ => exact h.elim
  | no => exact h.elim
def PMTs (X : Cx) (ifs : List Expr) (m : MT) : Prop := PTs X ifs (tM X.K relT E0' m)
theorem PTs.imp {X : Cx} {e : List Expr} {t t0 : TT} (h : PTs X e t) (i : ∀ σ H Q, t0 σ H Q → t σ H Q) : PTs X e t0 := ⟨fun pins s σ H Q I hw => h.run pins s σ H Q I (i σ H Q hw)⟩
section
variable {X : Cx} {E : XK}
theorem pmts_nil : PMTs X [] mYes := PTs.imp pts_nil fun σ H Q ⟨w, ρ, μ, S, EN, hp⟩ => hp w H true S rfl .refl
theorem lc_sim {K : PySem.W.Frag} {σ : L2.St} {is own : List Nat} {g : Val → Rho → Option Rho} {mc : MT} {me : ME} {k : Wk} {J : It} {w1 : Wt} {μ1 : Mu} {H1 : Hp} {ρ : Rho} {Q : VK} {vs0 : List Val} (S1 : Sim K w1 μ1 H1) (EN1 : EnvR K w1 μ1.nx H1 ρ σ) (r1 : relI K w1 μ1.nx H1 k J) (hsub : ∀ i ∈ is, i ∈ own)
    (h1 : Post K (relE K) E w1 μ1.nx H1 Q ((lcM k.items g mc me μ1.nx (wipeV ρ own) (vs0.length + 1) 0 (μ1.new (.lst []))).bind fun _ μ' => .ok (.loc μ1.nx) μ')) (D : Addr) (hD : H1 D = none) :
    ∃ W : Nat → Nat → Hp → Prop, (∃ m, W 0 m (upd H1 D (.lst []))) ∧ ∀ i m H, W i m H →
      (J.stop i H ∧ Q (.ref D) H) ∨ (J.go i H ∧ ∃ Nx : Hp → Prop, (∀ H', Nx H' → ∃ m', m' < m ∧ W (i + 1) m' H') ∧ ∀ x H', J.yld i H x H' → tG K is g x (L2.wipe σ own) H' fun σ2 H2 => L2.wipe σ2 own = L2.wipe σ own ∧ tM K relT E0' mc σ2 H2 fun b H3 =>
        if b = true then tM K (relE K) E0' me σ2 H3 fun y H4 => ∃ acc, H4 D = some (.lst acc) ∧ acc.length < sizeLine ∧ Nx (upd H4 D (.lst (acc ++ [y]))) else Nx H3) := by
  obtain ⟨w2, S2, g2, e2⟩ := S1.newL hD (vs := []) (us := []) .nil
  have hnx : μ1.nx < μ1.nx + 1 := Nat.lt_succ_self _
  refine ⟨fun i f H' => ∃ w' μ', Sim K w' μ' H' ∧ Grow K w2 (μ1.nx + 1) (upd H1 D (.lst [])) w' μ'.nx H' ∧ Post K (relE K) E w' μ'.nx H' Q ((lcM k.items g mc me μ1.nx (wipeV ρ own) f i μ').bind fun _ μ' => .ok (.loc μ1.nx) μ'), ⟨_, w2, μ1.new (.lst []), S2, .refl, Post.grow h1 g2⟩, ?_⟩
  rintro i f H' ⟨w', μ', S', g', h'⟩
  have eD : w'.ad μ1.nx = D := (g'.ad _ hnx).trans e2
  have gg := g2.trans g'
  cases f with
  | zero => exact h'.elim
  | succ f =>
    rw [lcM] at h'
    split at h'
    · exact h'.elim
    · rename_i vs hv
      obtain ⟨q1, q2⟩ := r1 w' μ' H' gg S' vs hv i
      split at h'
      · rename_i hn
        refine .inl ⟨q1 hn, h' w' H' _ S' ?_ .refl⟩
        have := VR.loc (K := K) (ad := w'.ad) (H := H') (Nat.lt_of_lt_of_le hnx g'.le)
        rw [eD] at this
        exact this
      · rename_i v hn
        obtain ⟨go, yl⟩ := q2 v hn
        refine .inr ⟨go, fun H2 => ∃ w2' μ2, Sim K w2' μ2 H2 ∧ Grow K w2 (μ1.nx + 1) (upd H1 D (.lst [])) w2' μ2.nx H2 ∧ Post K (relE K) E w2' μ2.nx H2 Q ((lcM k.items g mc me μ1.nx (wipeV ρ own) f (i + 1) μ2).bind fun _ μ' => .ok (.loc μ1.nx) μ'), fun H2 q => ⟨f, Nat.lt_succ_self _, q⟩, fun x H2 y => ?_⟩
        obtain ⟨w3, S3, v3, g3⟩ := yl x H2 y
        split at h'
        · exact h'.elim
        · rename_i ρ1 hg1
          refine ⟨w3, wipeV ρ own, μ'.nx, v, ρ1, ((EN1.grow gg).grow g3).wipe own, v3, hg1, fun σ3 EN3 hw => ⟨?_, w3, ρ1, μ', S3, EN3, ?_⟩⟩
          · have z := hw own hsub
            rw [z]
            exact wipe_wipe σ own
          · have h4 := Post.grow (b1 := μ'.nx) (H1 := H2) (w1 := w3) h' g3
            have h4 : Post K (relE K) E w3 μ'.nx H2 Q ((mc ρ1 μ').cut.bind fun a μ => ((if a = true then (me ρ1 μ).cut.bind fun y μ => match μ.ob μ1.nx with
                | some (.lst acc) => if acc.length ≤ 1000000 then lcM k.items g mc me μ1.nx (wipeV ρ own) f (i + 1) (μ.put μ1.nx (.lst (acc ++ [y]))) else .no
                | _ => .no
              else lcM k.items g mc me μ1.nx (wipeV ρ own) f (i + 1) μ).bind fun _ μ' => .ok (.loc μ1.nx) μ')) := by
              cases hmc : (mc ρ1 μ').cut with
              | ok a μ => rw [hmc] at h4; exact h4
              | er c fs μ => rw [hmc] at h4; exact h4
              | no => rw [hmc] at h4; exact h4
            refine Post.cut h4 fun c μ4 w4 H4 u4 S4 r4 g4 h5 => ?_
            cases r4
            cases c with
            | false => exact iteF ⟨w4, μ4, S4, (g'.trans g3).trans g4, h5⟩
            | true =>
              refine iteT ⟨w4, ρ1, μ4, S4, EN3.grow g4, ?_⟩
              rw [if_pos rfl] at h5
              have h5 : Post K (relE K) E w4 μ4.nx H4 Q ((me ρ1 μ4).cut.bind fun y μ => ((match μ.ob μ1.nx with
                | some (.lst acc) => if acc.length ≤ 1000000 then lcM k.items g mc me μ1.nx (wipeV ρ own) f (i + 1) (μ.put μ1.nx (.lst (acc ++ [y]))) else .no
                | _ => .no).bind fun _ μ' => .ok (.loc μ1.nx) μ')) := by
                cases hmc : (me ρ1 μ4).cut with
                | ok a μ => rw [hmc] at h5; exact h5
                | er c fs μ => rw [hmc] at h5; exact h5
                | no => rw [hmc] at h5; exact h5
              refine Post.cut h5 fun y μ5 w5 H5 u5 S5 r5 g5 h6 => ?_
              split at h6
              · rename_i acc hacc
                split at h6
                · rename_i hz
                  obtain ⟨us, q3, q4⟩ := S5.ok _ _ hacc
                  have g5' := ((g'.trans g3).trans g4).trans g5
                  have eD5 : w5.ad μ1.nx = D := (g5'.ad _ hnx).trans e2
                  obtain ⟨S6, g6⟩ := S5.setL hacc (q4.app (VRs.one r5))
                  rw [eD5] at q3 S6 g6
                  exact ⟨us, q3, by rw [q4.length]; exact lim6 hz, w5, _, S6, g5'.trans g6, Post.grow h6 g6⟩
                · exact h6.elim
              · exact h6.elim
theorem pm_lc {elt tg iter : Expr} {ifs : List Expr} {scope : Scope} {own : List (Str × Nat)} {pos : Pos} {mi : MI} {is : List Nat} {g : Val → Rho → Option Rho} {mc : MT} {me : ME} (hc : X.calm = true) (hN : X.N.Nodup) (hi : PMI X E tg iter mi) (ok : BlkOk X.N X.env.scope scope own)
    (hg : ∀ (s : Shared) (H : Hp) (C : Addr) (cl : List (Str × Addr)) (fp : List Addr), PMG (X.blk s H scope (compEnvC scope cl C X.env) fp) tg is g) (ht : ∀ (s : Shared) (H : Hp) (C : Addr) (cl : List (Str × Addr)) (fp : List Addr), PMTs (X.blk s H scope (compEnvC scope cl C X.env) fp) ifs mc)
    (he : ∀ (s : Shared) (H : Hp) (C : Addr) (cl : List (Str × Addr)) (fp : List Addr), PM (X.blk s H scope (compEnvC scope cl C X.env) fp) E0' elt me) (hsub : ∀ i ∈ is, i ∈ own.map (·.2) := by decide) (hs : ∀ x, foldedSetIterable iter X.env x = pure x := by intro _; rfl) :
    PM X E (.ListComp elt [⟨tg, iter, ifs, 0⟩] scope pos) (mLc mi (own.map (·.2)) g mc me) :=
  PE.imp (pe_lc (g := tG X.K is g) (tt := tM X.K relT E0' mc) (te := tM X.K (relE X.K) E0' me) hc hN hi ok hg ht he hs) fun σ H Q ⟨w, ρ, μ, S, EN, hp⟩ => ⟨w, ρ, μ, S, EN, Post.bind hp fun k μ1 w1 H1 J S1 r1 g1 h1 => by
    split at h1
    · exact h1.elim
    · exact fun D hD => lc_sim S1 (EN.grow g1) r1 hsub h1 D hD⟩
/-- list(range(..)) -/
def mListR1 (m : MA) : ME := fun ρ μ => (m ρ μ).bind fun vs μ => match vs with
  | [.int j] => if j ≤ 1000000 ∧ -1000000 ≤ j then .ok (.loc μ.nx) (μ.new (.lst (rngM 0 j.toNat))) else .no
  | _ => .no
theorem VRs.rng {K : PySem.W.Frag} {ad : Nat → Addr} {b : Nat} {H : Hp} (lo : Int) (n : Nat) : VRs K ad b H (rngM lo n) (rngV lo n) := by
  unfold rngM rngV
  induction (List.range n) with
  | nil => exact .nil
  | cons a l ih => exact .cons (.int _) ih
end
/-! ### defs -/
def startV (N : Nat) (vs : List Val) : Rho := vs.map some ++ List.replicate (N - vs.length) none
def runM (n N : Nat) (m : MS) (args : List Val) (μ : Mu) : R Val := if args.length = n then match m (startV N args) μ with
    | .ok (.nx _) μ' => .ok .non μ'
    | .ok (.rt v) μ' => .ok v μ'
    | .ok _ _ => .no
    | .er c fs μ' => .er c fs μ'
    | .no => .no
  else .no
def spM (K : PySem.W.Frag) (n : Nat) (d : List Val → Mu → R Val) : Sp := fun vs H Q E => vs.length = n ∧ ∃ w μ args, Sim K w μ H ∧ VRs K w.ad μ.nx H args vs ∧ Post K (relE K) E0' w μ.nx H Q (d args μ)
theorem EnvR.start {K : PySem.W.Frag} {w : Wt} {b : Nat} {H : Hp} {N : List Str} {vs : List V} {args : List Val} (r : VRs K w.ad b H args vs) : EnvR K w b H (startV N.length args) (L2.start N vs) := by
  have hl := r.length
  unfold startV L2.start
  refine ⟨by simp [hl], fun i v e => ?_⟩
  by_cases c : i < args.length
  · rw [List.getElem?_append_left (by simpa using c), List.getElem?_map] at e
    obtain ⟨v', h1, h2⟩ := Option.map_eq_some_iff.mp e
    cases h2
    obtain ⟨u, h3, h4⟩ := r.get i v h1
    refine ⟨u, ?_, h4⟩
    rw [List.getElem?_append_left (by rw [List.length_map]; omega), List.getElem?_map, h3]
    rfl
  · rw [List.getElem?_append_right (by simpa using c), List.getElem?_replicate] at e
    split at e
    · cases e
    · cases e
section
variable {P : Program} {w : World} {K : PySem.W.Frag} {mg : Str → Option Value} {base : Heap} {x qual : Str} {params : Arguments} {body : List Stmt} {scope : Scope} {dvs : List V} {kws : List (Str × V)} {f : Addr} {fd : FuncData}
/-- a def of the law -/
theorem okM {N ps : List Str} {k n N' : Nat} {m : MS} (F : FunD K x qual params body scope dvs kws f fd) (Sc : FnScope N ps scope) (hn : n = ps.length) (hN : N' = N.length)
    (hbody : ∀ (cdv : Value) (A : Around) (outer : List Env) (s : Shared) (H : Hp), A.guards = some [] → Room k (A.deeper (envOfC qual scope s.heap.objs.size f cdv)) → PMSs (cxOf CX0 P w K mg base N qual scope f cdv A outer s H E0').nox E0' body m) :
    FnG P w K mg base CX0 (k + 1) f fd ps (spM K n (runM n N' m)) := by
  subst hn hN
  refine okG F Sc (fun vs H Q E h => h.1) (fun cdv A outer s H vs Q E hg hr h => ?_)
  obtain ⟨hl, w', μ, args, S, r, hp⟩ := h
  refine ⟨_, PSs.nox (hbody cdv A outer s H hg hr), w', startV N.length args, μ, S, EnvR.start r, ?_⟩
  unfold runM at hp
  rw [if_pos (by rw [← r.length]; exact hl)] at hp
  show PostS K E0' w' μ.nx H _ (m (startV N.length args) μ)
  cases hm : m (startV N.length args) μ with
  | no => rw [hm] at hp; exact hp
  | er c fs μ1 => rw [hm] at hp; exact hp
  | ok a μ1 =>
    rw [hm] at hp
    cases a with
    | nx ρ => exact fun w1 H1 σ1 S1 EN1 g1 => hp w1 H1 _ S1 .non g1
    | rt v => exact fun w1 H1 u S1 r1 g1 => hp w1 H1 u S1 r1 g1
    | bk ρ => exact hp.elim
    | ct ρ => exact hp.elim
end
section
variable {X : Cx} {E : XK} {k n : Nat} {f : Addr} {fd : FuncData} {ps : List Str} {d : List Val → Mu → R Val} {x : Str} {p pos : Pos} {e : Expr} {es : List Expr} {mr : MA}
/-- a def of the law that is called, with as many arguments as it has -/
def mCall (n : Nat) (d : List Val → Mu → R Val) (m : MA) : ME := fun ρ μ => (m ρ μ).bind fun xs μ => if xs.length = n then (d xs μ).cut else .no
theorem pm_call (F : FnG X.prog X.w X.K X.mg X.base CX0 k f fd ps (spM X.K n d)) (hgd : X.A.guards = some []) (hr : Room k X.A) (hg : Gl X x) (hm : X.mg x = some (.ref f)) (hk : PySem.W.keepIn X.K (.ref f) = true) (hb : Binds X.K fd ps [])
    (ha : PMA X E (e :: es) mr) (hdb : (x == ("__debug__" : Str)) = false := by decide) (he : starEach (e :: es) X.env = (false, eval e X.env) :: starEach es X.env := by rfl) (hpl : (backTo pos (starEach es X.env)).any (·.1) = false := by rfl) :
    PM X E (.Call (.Name x p) (e :: es) [] pos) (mCall n d mr) :=
  PE.imp (pe_callG F hgd hr hg hm hk hb .nil (E := E0') (pass0) ha hdb he hpl) fun σ H Q ⟨w, ρ, μ, S, EN, hp⟩ => ⟨w, ρ, μ, S, EN, Post.bind hp fun xs μ1 w1 H1 us S1 r1 g1 h1 => by
    split at h1
    · rename_i hl
      rw [List.append_nil]
      refine ⟨r1.length.trans hl, w1, μ1, xs, S1, r1, ?_⟩
      cases hd : d xs μ1 with
      | no => rw [hd] at h1; exact h1
      | er c fs μ2 => rw [hd] at h1; exact h1.elim
      | ok a μ2 => rw [hd] at h1; exact h1
    · exact h1.elim⟩
end
end Wn
/-! the law's level: methods of systems -/
namespace Wn
open PySem PySem.Spec PyProof.Rows L2 LamX He

/-! ### o.m(e, .., k = v, ..) -/
section
variable {X : Cx} {CX : CXT} {k n : Nat} {f C : Addr} {fd : FuncData} {ps ks : List Str} {sp : Sp} {E : XK} {x m : Str} {p pos apos : Pos} {o e : Expr} {es : List Expr} {kws : List Keyword} {ta : TE} {t tk : TA} {g : List Value → List Value → List Value} {gV : List V → List V → List V}
end
/-! ### methods of systems -/
def sysOf (x : Val) (μ : Mu) : Option (Nat × Sv) := match x with
  | .loc n => match μ.ob n with
    | some (.sys v) => some (n, v)
    | _ => none
  | _ => none
theorem sysOf_eq {x : Val} {μ : Mu} {n : Nat} {v : Sv} (h : sysOf x μ = some (n, v)) : x = .loc n ∧ μ.ob n = some (.sys v) := by
  unfold sysOf at h
  split at h
  · split at h
    · rename_i e
      cases h
      exact ⟨rfl, e⟩
    · cases h
  · cases h
abbrev MSy := Nat → Sv → List Val → Mu → R Val
def onSys (f : MSy) (x : Val) (xs : List Val) (μ : Mu) : R Val := match sysOf x μ with
  | some p => f p.1 p.2 xs μ
  | none => .no
def mMeth (f : MSy) (ds : List Val) (o : ME) (a : MA) : ME := fun ρ μ => (o ρ μ).bind fun x μ => match sysOf x μ with
  | none => .no
  | some _ => (a ρ μ).bind fun xs μ => onSys f x (xs ++ ds) μ
def mMethK (f : MSy) (n l : Nat) (g : List Val → List Val → List Val) (o : ME) (a b : MA) : ME := fun ρ μ => (o ρ μ).bind fun x μ => match sysOf x μ with
  | none => .no
  | some _ => (a ρ μ).bind fun xs μ => (b ρ μ).bind fun zs μ => if xs.length = n ∧ zs.length = l then onSys f x (g xs zs) μ else .no
def PrimS (K : PySem.W.Frag) (sp : Sp) (f : MSy) : Prop := ∀ (E : XK) (w : Wt) (μ : Mu) (H : Hp) (n : Nat) (v : Sv) (xs : List Val) (us : List V) (Q : VK), Sim K w μ H → μ.ob n = some (.sys v) → VRs K w.ad μ.nx H xs us → Post K (relE K) E w μ.nx H Q (f n v xs μ) → sp (.ref (w.ad n) :: us) H Q E
def PMK (X : Cx) (E : XK) (kws : List Keyword) (m : MA) : Prop := PK X kws (tM X.K (relA X.K) E m)
theorem PK.imp {X : Cx} {e : List Keyword} {t t0 : TA} (h : PK X e t) (i : ∀ σ H Q, t0 σ H Q → t σ H Q) : PK X e t0 := ⟨fun pos pins s σ H Q I hw => h.run pos pins s σ H Q I (i σ H Q hw)⟩
section
variable {X : Cx} {E : XK} {k n : Nat} {f : Addr} {fd : FuncData} {ps ks : List Str} {sp : Sp} {m : Str} {p pos apos kpos : Pos} {o e : Expr} {es : List Expr} {kws : List Keyword} {mo me : ME} {mr mk : MA} {fm : MSy} {dvs : List V} {ds : List Value} {dM : List Val}
theorem pmk_nil : PMK X E [] mNil := PK.imp pk_nil fun σ H Q ⟨w, ρ, μ, S, EN, hp⟩ => hp w H [] S .nil .refl
theorem pmk_cons {nm} (ha : PM X E e me) (hr : PMK X E kws mr) : PMK X E (⟨nm, e, kpos⟩ :: kws) (mCons me mr) :=
  PK.imp (pk_cons ha hr) fun σ H Q ⟨w, ρ, μ, S, EN, hp⟩ => ⟨w, ρ, μ, S, EN, Post.bind hp fun x μ1 w1 H1 u1 S1 r1 g1 h1 => ⟨w1, ρ, μ1, S1, EN.grow g1, Post.bind h1 fun xs μ2 w2 H2 u2 S2 r2 g2 h2 => h2 w2 H2 _ S2 (.cons (VR.grow g2 r1) r2) .refl⟩⟩
theorem sys_ob {K : PySem.W.Frag} {w : Wt} {μ : Mu} {H : Hp} {n : Nat} {v : Sv} (S : Sim K w μ H) (h : μ.ob n = some (.sys v)) : ∃ P N T G k, H (w.ad n) = some (.ins (ga K "System") (w.sy n).dx (sysF P N T G k)) := by
  obtain ⟨h1, h2, _⟩ := S.ok _ _ h
  rw [← h1]
  exact ⟨_, _, _, _, _, h2.ob⟩
theorem pm_meth {CX : CXT} {pl : Sem Bool} (he : PM X E o mo) (c : Cls X.K (ga X.K "System")) (hm : Meth X.K (ga X.K "System") m f) (F : FnOk X.prog X.w X.K X.mg X.base CX k f fd ps sp) (hr : Room k X.A) (hb : Binds X.K fd ps ds) (hd : Vals dvs ds) (hx : Passes CX X E) (hf : PrimS X.K sp fm) (hdv : ∀ ad b H, VRs X.K ad b H dM dvs) (ha : PMA X E (e :: es) mr)
    (hl : ∀ P N T G k, (sysF P N T G k).lookup m = none := by intros; rfl)
    (hst : starEach (e :: es) X.env = (false, eval e X.env) :: starEach es X.env := by rfl) (hpl : (backTo pos (starEach es X.env)).any (·.1) = false := by rfl)
    (ht : eval (.Call (.Attribute o m apos) (e :: es) [] pos) X.env = (do
      let ov ← eval o X.env
      standAt apos.atName
      let (f, first) ← holding [ov] (getMethod ov m pl)
      callWith pos f first (backTo pos (starEach (e :: es) X.env)) (backToKw pos (keywordEach [] X.env))) := by rfl) : PM X E (.Call (.Attribute o m apos) (e :: es) [] pos) (mMeth fm dM mo mr) :=
  PE.imp (pe_meth he c hm F hr hb hd hx ha hst hpl ht) fun σ H Q ⟨w, ρ, μ, S, EN, hp⟩ => ⟨w, ρ, μ, S, EN, Post.bind hp fun x μ1 w1 H1 u1 S1 r1 g1 h1 => by
    split at h1
    · exact h1.elim
    · rename_i q hq
      obtain ⟨rfl, hob⟩ := sysOf_eq (n := q.1) (v := q.2) hq
      obtain ⟨P, N, T, G, k', ob⟩ := sys_ob S1 hob
      cases r1 with
      | loc hn =>
        refine ⟨_, _, _, rfl, ob, hl .., w1, ρ, μ1, S1, EN.grow g1, Post.bind h1 fun xs μ2 w2 H2 us S2 r2 g2 h2 => ?_⟩
        unfold onSys at h2
        split at h2
        · rename_i q2 hq2
          obtain ⟨e1, hob2⟩ := sysOf_eq (n := q2.1) (v := q2.2) hq2
          have e1 : q.1 = q2.1 := Val.loc.inj e1
          rw [← g2.ad _ hn, e1]
          exact hf E w2 μ2 H2 _ _ _ _ Q S2 hob2 (r2.app (hdv _ _ _)) h2
        · exact h2.elim⟩
/-- a new system -/
def mMake (f : List Val → Mu → R Val) (a : MA) : ME := fun ρ μ => (a ρ μ).bind fun xs μ => f xs μ
end
/-! ### errors that are raised, new data -/
mutual
def ofD : PyData → Val
  | .none => .non
  | .bool b => .bl b
  | .int i => .int i
  | .str x => .str x
  | .tuple ds => .tup (ofDs ds)
  | .list _ => .non
  | .dict _ => .non
def ofDs : List PyData → List Val
  | [] => []
  | d :: ds => ofD d :: ofDs ds
end
mutual
def noL : PyData → Bool
  | .tuple ds => noLs ds
  | .list _ => false
  | .dict _ => false
  | _ => true
def noLs : List PyData → Bool
  | [] => true
  | d :: ds => noL d && noLs ds
end
theorem sqt_same {K : PySem.W.Frag} {H H' : Hp} (e : Same H H') {a : Addr} {xs : List V} (h : SqT K H a xs) : SqT K H' a xs := sqt_keep (fun a o h _ => e a o h) h
mutual
theorem vr_dp {K : PySem.W.Frag} {ad : Nat → Addr} {b : Nat} {H H' : Hp} (e : Same H H') : ∀ (d : PyData) (u : V), Dp K H u d → noL d = true → VR K ad b H' (ofD d) u
  | .none, _, h, _ => by cases h; rw [ofD]; exact .non
  | .bool _, _, h, _ => by cases h; rw [ofD]; exact .bl _
  | .int _, _, h, _ => by cases h; rw [ofD]; exact .int _
  | .str _, _, h, _ => by cases h; rw [ofD]; exact .str _
  | .tuple ds, _, h, n => by
    cases h with
    | tup h1 h2 =>
      rw [ofD]
      rw [noL] at n
      exact .tup (sqt_same e h1) (vrs_dp e ds _ h2 n)
  | .list _, _, _, n => by rw [noL] at n; cases n
  | .dict _, _, _, n => by rw [noL] at n; cases n
theorem vrs_dp {K : PySem.W.Frag} {ad : Nat → Addr} {b : Nat} {H H' : Hp} (e : Same H H') : ∀ (ds : List PyData) (us : List V), DpAll K H us ds → noLs ds = true → VRs K ad b H' (ofDs ds) us
  | [], _, h, _ => by cases h; rw [ofDs]; exact .nil
  | d :: ds, _, h, n => by
    cases h with
    | cons h1 h2 =>
      rw [ofDs]
      rw [noLs] at n
      have n := Bool.and_eq_true_iff.mp n
      exact .cons (vr_dp e d _ h1 n.1) (vrs_dp e ds _ h2 n.2)
end
/-- a list that stands in the heap is taken in -/
theorem Sim.takeL {K : PySem.W.Frag} {w : Wt} {μ : Mu} {H : Hp} (S : Sim K w μ H) {p : Addr} {us : List V} {vs : List Val} (hp : H p = some (.lst us)) (hn : ∀ m, p ∉ ft w m (μ.ob m)) (r : VRs K w.ad μ.nx H vs us) : ∃ w', Sim K w' (μ.new (.lst vs)) H ∧ Grow K w μ.nx H w' (μ.nx + 1) H ∧ w'.ad μ.nx = p := by
  obtain ⟨S2, g2⟩ := S.add (p := p) (s := w.sy 0) (o := .lst vs) (fun a ha m z => by
    have e : a = p := by simpa [ft, Wt.add] using ha
    subst e
    exact hn m z) (fun g => ⟨us, by rw [Wt.add_ad]; exact hp, r.grow g⟩)
  exact ⟨_, S2, g2, Wt.add_ad ..⟩
end Wn
/-! the law's level: small things -/
namespace Wn
open PySem PySem.Spec PyProof.Rows L2 LamX He
theorem _root_.L2.Room.units1 {k : Nat} {A : Around} (r : Room k A) : A.units + 65 < cLine := by have := r.un; omega
def negM : Val → Mu → R Val
  | .int i, μ => .ok (.int (-i)) μ
  | _, _ => .no
end Wn
/-! the law's level: frames -/
namespace Wn
open PySem PySem.Spec PyProof.Rows L2 LamX He
/-- all objects but those of S stand -/
structure Kee (S : List Nat) (μ μ' : Mu) : Prop where
  le : μ.nx ≤ μ'.nx
  ob : ∀ n, n < μ.nx → n ∉ S → μ'.ob n = μ.ob n
theorem Kee.refl (S : List Nat) (μ : Mu) : Kee S μ μ := ⟨Nat.le_refl _, fun _ _ _ => rfl⟩
theorem Kee.trans {S : List Nat} {μ μ1 μ2 : Mu} (a : Kee S μ μ1) (b : Kee S μ1 μ2) : Kee S μ μ2 := ⟨Nat.le_trans a.le b.le, fun n h q => (b.ob n (Nat.lt_of_lt_of_le h a.le) q).trans (a.ob n h q)⟩
theorem Kee.mono {S S' : List Nat} {μ μ' : Mu} (a : Kee S μ μ') (h : ∀ n ∈ S, n ∈ S') : Kee S' μ μ' := ⟨a.le, fun n l q => a.ob n l fun z => q (h n z)⟩
theorem Kee.put {S : List Nat} {μ : Mu} {n : Nat} {o : Ob} (h : n ∈ S) : Kee S μ (μ.put n o) := ⟨Nat.le_refl _, fun m _ q => Mu.put_ne _ _ fun z => q (z ▸ h)⟩
theorem Kee.new {S : List Nat} {μ : Mu} {o : Ob} : Kee S μ (μ.new o) := ⟨Nat.le_succ _, fun m l _ => Mu.new_ne _ _ (Nat.ne_of_lt l)⟩
theorem Kee.lt {S : List Nat} {μ μ' : Mu} (a : Kee S μ μ') {n : Nat} (h : n < μ.nx) : n < μ'.nx := Nat.lt_of_lt_of_le h a.le
theorem Kee.putN {S : List Nat} {μ μ1 : Mu} {n : Nat} {o : Ob} (a : Kee S μ μ1) (h : μ.nx ≤ n ∨ n ∈ S) : Kee S μ (μ1.put n o) := ⟨a.le, fun m l q => by
  rw [Mu.put_ne _ _ (fun z => by
    subst z
    rcases h with h | h
    · exact absurd l (Nat.not_lt.mpr h)
    · exact q h)]
  exact a.ob m l q⟩
theorem Kee.newN {S : List Nat} {μ μ1 : Mu} {o : Ob} (a : Kee S μ μ1) : Kee S μ (μ1.new o) := a.trans Kee.new
def Bag (μ : Mu) (b : Nat) : Prop := b < μ.nx ∧ ∃ c m, μ.ob b = some (.lst [.int c, .int m])
theorem Bag.keep {S : List Nat} {μ μ' : Mu} {b : Nat} (h : Bag μ b) (k : Kee S μ μ') (q : b ∉ S) : Bag μ' b := ⟨k.lt h.1, by rw [k.ob b h.1 q]; exact h.2⟩
/-! ### outcomes -/
def Goes (r : R Fl) (P : Rho → Mu → Prop) : Prop := match r with
  | .ok (.nx ρ) μ => P ρ μ
  | _ => False
def Gets {α : Type} (r : R α) (P : α → Mu → Prop) : Prop := match r with
  | .ok a μ => P a μ
  | _ => False
def Rets (r : R Fl) (P : Val → Mu → Prop) : Prop := match r with
  | .ok (.nx _) μ => P .non μ
  | .ok (.rt v) μ => P v μ
  | _ => False
theorem Goes_nx (ρ : Rho) (μ : Mu) (P : Rho → Mu → Prop) : Goes (.ok (.nx ρ) μ) P = P ρ μ := rfl
theorem Gets_ok {α : Type} (a : α) (μ : Mu) (P : α → Mu → Prop) : Gets (.ok a μ) P = P a μ := rfl
theorem Rets_nx (ρ : Rho) (μ : Mu) (P : Val → Mu → Prop) : Rets (.ok (.nx ρ) μ) P = P .non μ := rfl
theorem Rets_rt (v : Val) (μ : Mu) (P : Val → Mu → Prop) : Rets (.ok (.rt v) μ) P = P v μ := rfl
theorem Goes.mono {r : R Fl} {P Q : Rho → Mu → Prop} (h : Goes r P) (f : ∀ ρ μ, P ρ μ → Q ρ μ) : Goes r Q := by
  cases r with
  | ok a μ =>
    cases a with
    | nx ρ => exact f _ _ h
    | _ => exact h
  | _ => exact h
theorem Rets.mono {r : R Fl} {P Q : Val → Mu → Prop} (h : Rets r P) (f : ∀ v μ, P v μ → Q v μ) : Rets r Q := by
  cases r with
  | ok a μ =>
    cases a with
    | nx ρ => exact f _ _ h
    | rt v => exact f _ _ h
    | _ => exact h
  | _ => exact h
theorem Gets.mono {α : Type} {r : R α} {P Q : α → Mu → Prop} (h : Gets r P) (f : ∀ v μ, P v μ → Q v μ) : Gets r Q := by
  cases r with
  | ok a μ => exact f _ _ h
  | _ => exact h
theorem Goes.ex {r : R Fl} {P : Rho → Mu → Prop} (h : Goes r P) : ∃ ρ μ, r = .ok (.nx ρ) μ ∧ P ρ μ := by
  cases r with
  | ok a μ =>
    cases a with
    | nx ρ => exact ⟨ρ, μ, rfl, h⟩
    | _ => exact h.elim
  | _ => exact h.elim
theorem Gets.ex {α : Type} {r : R α} {P : α → Mu → Prop} (h : Gets r P) : ∃ a μ, r = .ok a μ ∧ P a μ := by
  cases r with
  | ok a μ => exact ⟨a, μ, rfl, h⟩
  | _ => exact h.elim
theorem Goes.then {r : R Fl} {k : Rho → Mu → R Fl} {P : Rho → Mu → Prop} (h : Goes r fun ρ μ => Goes (k ρ μ) P) : Goes (sThen r k) P := by
  obtain ⟨ρ, μ, rfl, h⟩ := h.ex
  exact h
theorem Rets.then {r : R Fl} {k : Rho → Mu → R Fl} {P : Val → Mu → Prop} (h : Goes r fun ρ μ => Rets (k ρ μ) P) : Rets (sThen r k) P := by
  obtain ⟨ρ, μ, rfl, h⟩ := h.ex
  exact h
theorem Goes.bind {α : Type} {r : R α} {k : α → Mu → R Fl} {P : Rho → Mu → Prop} (h : Gets r fun a μ => Goes (k a μ) P) : Goes (r.bind k) P := by
  obtain ⟨ρ, μ, rfl, h⟩ := h.ex
  exact h
theorem Rets.bind {α : Type} {r : R α} {k : α → Mu → R Fl} {P : Val → Mu → Prop} (h : Gets r fun a μ => Rets (k a μ) P) : Rets (r.bind k) P := by
  obtain ⟨ρ, μ, rfl, h⟩ := h.ex
  exact h
theorem Gets.bind {α β : Type} {r : R α} {k : α → Mu → R β} {P : β → Mu → Prop} (h : Gets r fun a μ => Gets (k a μ) P) : Gets (r.bind k) P := by
  obtain ⟨ρ, μ, rfl, h⟩ := h.ex
  exact h
/-- a def's run -/
theorem Gets.run {n N : Nat} {m : MS} {args : List Val} {μ : Mu} {P : Val → Mu → Prop} (hl : args.length = n) (h : Rets (m (startV N args) μ) P) : Gets (runM n N m args μ) P := by
  unfold runM
  rw [if_pos hl]
  cases e : m (startV N args) μ with
  | ok a μ1 =>
    rw [e] at h
    cases a with
    | nx ρ => exact h
    | rt v => exact h
    | bk _ => exact h.elim
    | ct _ => exact h.elim
  | er _ _ _ => rw [e] at h; exact h.elim
  | no => rw [e] at h; exact h.elim
/-! ### loops -/
section
variable {get : Mu → Option (List Val)} {g : Val → Rho → Option Rho} {body : MS} {P : Rho → Mu → Prop}
/-- a for whose body always goes on, by an invariant -/
theorem for_goes {vs : List Val} (I : Nat → Rho → Mu → Prop) (hget : ∀ i ρ μ, i ≤ vs.length → I i ρ μ → get μ = some vs)
    (hs : ∀ i v ρ μ, vs[i]? = some v → I i ρ μ → ∃ ρ1, g v ρ = some ρ1 ∧ Goes (body ρ1 μ) (I (i + 1))) (hd : ∀ ρ μ, I vs.length ρ μ → P ρ μ) :
    ∀ (f i : Nat) (ρ : Rho) (μ : Mu), i + f = vs.length + 1 → i ≤ vs.length → I i ρ μ → Goes (forM' get g body f i ρ μ) P
  | 0, i, ρ, μ, hf, hi, h => by omega
  | f + 1, i, ρ, μ, hf, hi, h => by
    have hg := hget i ρ μ (by omega) h
    by_cases c : i < vs.length
    · obtain ⟨ρ1, h1, h2⟩ := hs i vs[i] ρ μ (List.getElem?_eq_getElem c) h
      obtain ⟨ρ2, μ2, h3, h4⟩ := h2.ex
      have h5 := for_goes I hget hs hd f (i + 1) ρ2 μ2 (by omega) (by omega) h4
      rw [forM', hg]
      simp only [List.getElem?_eq_getElem c, h1, h3]
      exact h5
    · have e : i = vs.length := by omega
      subst e
      rw [forM', hg]
      simp only [List.getElem?_eq_none (Nat.le_refl _)]
      exact hd _ _ h
theorem sFor_goes {it : MI} {ρ : Rho} {μ μ1 : Mu} {k : Wk} {vs : List Val} (hi : it ρ μ = .ok k μ1) (hv : k.items μ1 = some vs) (I : Nat → Rho → Mu → Prop) (h0 : I 0 ρ μ1) (hget : ∀ i ρ μ, i ≤ vs.length → I i ρ μ → k.items μ = some vs)
    (hs : ∀ i v ρ μ, vs[i]? = some v → I i ρ μ → ∃ ρ1, g v ρ = some ρ1 ∧ Goes (body ρ1 μ) (I (i + 1))) (hd : ∀ ρ μ, I vs.length ρ μ → P ρ μ) : Goes (sFor it g body ρ μ) P := by
  unfold sFor
  rw [hi, R.bind_ok]
  simp only [hv]
  exact for_goes I hget hs hd _ 0 ρ μ1 (by omega) (Nat.zero_le _) h0
/-- over a range -/
theorem sFor_rng {it : MI} {ρ : Rho} {μ μ1 : Mu} {lo : Int} {n : Nat} (hi : it ρ μ = .ok (.rng lo n) μ1) (I : Nat → Rho → Mu → Prop) (h0 : I 0 ρ μ1)
    (hs : ∀ i ρ μ, i < n → I i ρ μ → ∃ ρ1, g (.int (lo + i)) ρ = some ρ1 ∧ Goes (body ρ1 μ) (I (i + 1))) (hd : ∀ ρ μ, I n ρ μ → P ρ μ) : Goes (sFor it g body ρ μ) P := by
  have hlen : (rngM lo n).length = n := by unfold rngM; rw [List.length_map, List.length_range]
  refine sFor_goes (vs := rngM lo n) hi rfl I h0 (fun _ _ _ _ _ => rfl) (fun i v ρ μ hv h => ?_) (fun ρ μ h => hd ρ μ (by rw [hlen] at h; exact h))
  rw [rngM_get] at hv
  split at hv
  · rename_i c
    cases hv
    exact hs i ρ μ c h
  · cases hv
end
end Wn
/-! the law's level: comprehensions, plainly -/
namespace Wn
open PySem PySem.Spec PyProof.Rows L2 LamX He
theorem Mu.new_put (μ : Mu) (o o' : Ob) : (μ.new o).put μ.nx o' = μ.new o' := by
  unfold Mu.put Mu.new
  congr 1
  funext m
  by_cases c : m = μ.nx <;> simp [c]
section
variable {k : Wk} {g : Val → Rho → Option Rho} {c : MT} {elt : ME} {ρ : Rho} {μ : Mu} {vs : List Val} {rv : Val → Rho} {p : Val → Bool} {f : Val → Val}
/-- what is told changes nothing -/
theorem lcM_pure (hz : vs.length ≤ 1000000) (hi : ∀ acc, k.items (μ.new (.lst acc)) = some vs) (hg : ∀ v ∈ vs, g v ρ = some (rv v)) (hc : ∀ v ∈ vs, ∀ acc, c (rv v) (μ.new (.lst acc)) = .ok (p v) (μ.new (.lst acc))) (he : ∀ v ∈ vs, p v = true → ∀ acc, elt (rv v) (μ.new (.lst acc)) = .ok (f v) (μ.new (.lst acc))) :
    ∀ (n i : Nat), i + n = vs.length + 1 → i ≤ vs.length → lcM k.items g c elt μ.nx ρ n i (μ.new (.lst (((vs.take i).filter p).map f))) = .ok () (μ.new (.lst ((vs.filter p).map f)))
  | 0, i, h1, h2 => by omega
  | n + 1, i, h1, h2 => by
    rw [lcM, hi]
    by_cases ci : i < vs.length
    · have hv : vs[i] ∈ vs := List.getElem_mem ci
      have et : vs.take (i + 1) = vs.take i ++ [vs[i]] := by rw [List.take_succ, List.getElem?_eq_getElem ci]; rfl
      simp only [List.getElem?_eq_getElem ci, hg _ hv, hc _ hv, R.cut_ok, R.bind_ok]
      cases hp : p vs[i] with
      | true =>
        have hl : (((vs.take i).filter p).map f).length ≤ 1000000 := by
          rw [List.length_map]
          have := List.length_filter_le p (vs.take i)
          rw [List.length_take] at this
          omega
        rw [if_pos rfl, he _ hv hp, R.cut_ok, R.bind_ok]
        simp only [Mu.new_same]
        rw [if_pos hl, Mu.new_put]
        have z := lcM_pure hz hi hg hc he n (i + 1) (by omega) (by omega)
        rw [et, List.filter_append, List.map_append, List.filter_cons_of_pos hp] at z
        exact z
      | false =>
        rw [if_neg (by decide)]
        have z := lcM_pure hz hi hg hc he n (i + 1) (by omega) (by omega)
        rw [et, List.filter_append, List.map_append, List.filter_cons_of_neg (by rw [hp]; decide), List.filter_nil, List.map_nil, List.append_nil] at z
        exact z
    · have e : i = vs.length := by omega
      subst e
      simp only [List.getElem?_eq_none (Nat.le_refl _)]
      rw [List.take_length]
theorem mLc_pure {it : MI} {own : List Nat} {ρ0 : Rho} {μ0 : Mu} (hit : it ρ0 μ0 = .ok k μ) (h0 : k.items μ = some vs) (hz : vs.length ≤ 1000000) (hi : ∀ acc, k.items (μ.new (.lst acc)) = some vs) (hg : ∀ v ∈ vs, g v (wipeV ρ0 own) = some (rv v)) (hc : ∀ v ∈ vs, ∀ acc, c (rv v) (μ.new (.lst acc)) = .ok (p v) (μ.new (.lst acc))) (he : ∀ v ∈ vs, p v = true → ∀ acc, elt (rv v) (μ.new (.lst acc)) = .ok (f v) (μ.new (.lst acc))) :
    mLc it own g c elt ρ0 μ0 = .ok (.loc μ.nx) (μ.new (.lst ((vs.filter p).map f))) := by
  unfold mLc
  rw [hit, R.bind_ok]
  simp only [h0]
  have z := lcM_pure hz hi hg hc he (vs.length + 1) 0 (by omega) (Nat.zero_le _)
  rw [List.take_zero, List.filter_nil, List.map_nil] at z
  rw [z]
  rfl
end
end Wn
/-! the law's level: the script comes in -/
namespace Wn
open PySem PySem.Spec PyProof.Rows L2 LamX He
theorem law_sp {K : PySem.W.Frag} {d : List Val → Mu → R Val} (hd : ∀ (μ : Mu) (s : Nat) (ns : List Int), ns.length ≤ 63 → seqOf μ s = some (ns.map Val.int) → s < μ.nx → Gets (d [.loc s] μ) fun v _ => v = .bl true)
    (H : Hp) (a : Addr) (ns : List Int) (hl : ns.length ≤ 63) (htb : Tabs (TbK K) H) (h : SqL K H a (ns.map V.int)) : spM K 1 d [.ref a] H (fun v _ => v = .bl true) fun _ _ _ => False := by
  have fin : ∀ (w : Wt) (μ : Mu), w.ad 0 = a → μ.nx = 1 → seqOf μ 0 = some (ns.map Val.int) → Sim K w μ H → spM K 1 d [.ref a] H (fun v _ => v = .bl true) fun _ _ _ => False := fun w μ ha hn hq S => by
    refine ⟨rfl, w, μ, [.loc 0], S, VRs.one ?_, ?_⟩
    · rw [← ha]
      exact VR.loc (by omega)
    · obtain ⟨v, μ', e, rfl⟩ := (hd μ 0 ns hl hq (by omega)).ex
      rw [e]
      intro w' H' u S' r _
      cases r
      rfl
  have hns := VRs.ints (K := K) (ad := fun _ => a) (b := 1) (H := H) ns
  have one : ∀ o : Ob, ObR K ⟨fun _ => a, fun _ => ⟨0, 0, 0, 0, 0, 0, 0, [], []⟩, fun _ => 0⟩ 1 H 0 o → Sim K ⟨fun _ => a, fun _ => ⟨0, 0, 0, 0, 0, 0, 0, [], []⟩, fun _ => 0⟩ ⟨1, fun n => if n = 0 then some o else none⟩ H := fun o ho => by
    refine ⟨fun n hn => if_neg (by have : 1 ≤ n := hn; omega), fun n p hp => ?_, fun n m hnm b hb => ?_, htb⟩
    · by_cases c : n = 0
      · subst c
        have hp : (if (0 : Nat) = 0 then some o else none) = some p := hp
        rw [if_pos rfl] at hp
        cases hp
        exact ho
      · have hp : (if n = 0 then some o else none) = some p := hp
        rw [if_neg c] at hp
        cases hp
    · by_cases c : n = 0
      · have e : (if m = 0 then some o else none : Option Ob) = none := if_neg (by omega)
        show b ∉ ft _ m (if m = 0 then some o else none)
        rw [e]
        exact List.not_mem_nil
      · have hb : b ∈ ft _ n (if n = 0 then some o else none) := hb
        rw [if_neg c] at hb
        cases hb
  rcases h with (h | h) | h
  · exact fin _ ⟨1, fun n => if n = 0 then some (.lst (ns.map Val.int)) else none⟩ rfl rfl rfl (one _ ⟨_, h, hns⟩)
  · exact fin _ ⟨1, fun n => if n = 0 then some (.ro (ns.map Val.int)) else none⟩ rfl rfl rfl (one _ ⟨_, .inl h, hns⟩)
  · exact fin _ ⟨1, fun n => if n = 0 then some (.ro (ns.map Val.int)) else none⟩ rfl rfl rfl (one _ ⟨_, .inr h, hns⟩)
end Wn
/-! the law's level: list.index -/
namespace Wn
open PySem PySem.Spec PyProof.Rows L2 LamX He
def idxM (x : Val) (xs : List Val) (μ : Mu) : R Val := match datM μ x, xs with
  | some (.list ds), [y] => match datM μ y with
    | some d => match ds.findIdx? (fun z => PyData.eqv z d) with
      | some j => .ok (.int (j : Nat)) μ
      | none => .no
    | none => .no
  | _, _ => .no
/-! ### or, and, by truth -/
def truM : Val → Mu → Option Bool
  | .non, _ => some false
  | .bl b, _ => some b
  | .int i, _ => some (i != 0)
  | .tup vs, _ => some (!vs.isEmpty)
  | .loc n, μ => match seqOf μ n with
    | some vs => some (!vs.isEmpty)
    | none => none
  | _, _ => none
def mOrT (a b : ME) : ME := fun ρ μ => (a ρ μ).bind fun x μ => match truM x μ with
  | some true => .ok x μ
  | some false => b ρ μ
  | none => .no
def mAndT (a b : ME) : ME := fun ρ μ => (a ρ μ).bind fun x μ => match truM x μ with
  | some true => b ρ μ
  | some false => .ok x μ
  | none => .no
section
variable {X : Cx} {E : XK} {a b : Expr} {rest : List Expr} {pos : Pos} {ma mb : ME}
end
end Wn
/-! the law's level: methods by keywords alone -/
namespace Wn
open PySem PySem.Spec PyProof.Rows L2 LamX He
section
variable {X : Cx} {E : XK} {k n : Nat} {f : Addr} {fd : FuncData} {ps ks : List Str} {sp : Sp} {m : Str} {p pos apos kpos : Pos} {o e : Expr} {es : List Expr} {kws : List Keyword} {mo me : ME} {mr mk : MA} {fm : MSy}
end
end Wn
/-! the law's level: int of truths, list(range(a, b)), dict of pairs -/
namespace Wn
open PySem PySem.Spec PyProof.Rows L2 LamX He
def intBM : List Val → Mu → R Val
  | [.int i], μ => .ok (.int i) μ
  | [.bl k], μ => .ok (.int (if k then 1 else 0)) μ
  | _, _ => .no
@[irreducible] def okR (i : Int) : Bool := decide (-1000000 ≤ i ∧ i ≤ 1000000)
def mListR2 (m : MA) : ME := fun ρ μ => (m ρ μ).bind fun vs μ => match vs with
  | [.int i, .int j] => if okR i = true ∧ okR j = true then .ok (.loc μ.nx) (μ.new (.lst (rngM i (j - i).toNat))) else .no
  | _ => .no
section
variable {K : PySem.W.Frag}
theorem putK_new {kvs : List (Key × V)} {k : Key} {v : V} (h : k ∉ kvs.map (·.1)) : putK kvs k v = kvs ++ [(k, v)] := by
  unfold putK
  rw [if_neg]
  intro z
  obtain ⟨p, hp, q⟩ := List.any_eq_true.mp z
  exact h (List.mem_map.mpr ⟨p, hp, by simpa using q⟩)
end
section
variable {X : Cx} {E : XK}
end
end Wn
/-! the law's level: list.remove -/
namespace Wn
open PySem PySem.Spec PyProof.Rows L2 LamX He
def remLM (x : Val) (xs : List Val) (μ : Mu) : R Val := match lstOf x μ, xs with
  | some (n, vs), [.int k] => match intsOf vs with
    | some l => match l.findIdx? (fun z => decide (z = k)) with
      | some j => .ok .non (μ.put n (.lst ((l.eraseIdx j).map Val.int)))
      | none => .no
    | none => .no
  | _, _ => .no
end Wn
/-! the law's level: lambdas that are called at once, errors that are caught, repr, dicts -/
namespace Wn
open PySem PySem.Spec PyProof.Rows L2 LamX He

/-! ### a def that makes lambdas: its code object is known -/
section
variable {P : Program} {w : World} {K : PySem.W.Frag} {mg : Str → Option Value} {base : Heap} {x : Str} {params : Arguments} {body : List Stmt} {scope : Scope} {dvs : List V} {kws : List (Str × V)} {fd : FuncData}
theorem okMc {N ps : List Str} {k n N' : Nat} {m : MS} (F : FunD K x x params body scope dvs kws (ga K x) fd) (Sc : FnScope N ps scope) (hn : n = ps.length) (hN : N' = N.length)
    (hbody : ∀ (cdv : Value) (A : Around) (outer : List Env) (s : Shared) (H : Hp), cdv = .ref (cT K (x, none)).1 → A.guards = some [] → Room k (A.deeper (envOfC x scope s.heap.objs.size (ga K x) cdv)) → PMSs (cxOf CX0 P w K mg base N x scope (ga K x) cdv A outer s H E0').nox E0' body m) :
    FnG P w K mg base CX0 (k + 1) (ga K x) fd ps (spM K n (runM n N' m)) := by
  have key : ∀ cdv oc od dV kV doc pm an ct osl, K.lookup (ga K x) = some ⟨oc, od, .func (PySem.W.fnOf x x params body scope dV kV doc pm an cdv ct), osl⟩ → PySem.W.codeIn K cdv x = true → cdv = .ref (cT K (x, none)).1 := fun cdv oc od dV kV doc pm an ct osl lk hcd => by
    obtain ⟨c, rfl⟩ := codeIn_ref hcd
    have e := codeOf_eq (K := K) (p := (x, none)) lk rfl
    exact congrArg Value.ref e.symm
  subst hn hN
  obtain ⟨oc, od, dV, kV, doc, pm, an, cdv, ct, osl, rfl, lk, hcd, _, _⟩ := F.ex
  refine ⟨fun vs H Q E h => h.1, fun A outer s H args us vs Q E hg hr e0 hb r hsp => ?_⟩
  refine run_ofS lk hcd Sc hr e0 hb r hsp.1 fun hr' => ?_
  obtain ⟨hl, w', μ, args, S, r, hp⟩ := hsp
  refine ⟨_, PSs.nox (hbody cdv A outer s H (key _ _ _ _ _ _ _ _ _ _ lk hcd) hg hr'), w', startV N.length args, μ, S, EnvR.start r, ?_⟩
  unfold runM at hp
  rw [if_pos (by rw [← r.length]; exact hl)] at hp
  show PostS K E0' w' μ.nx H _ (m (startV N.length args) μ)
  cases hm : m (startV N.length args) μ with
  | no => rw [hm] at hp; exact hp
  | er c fs μ1 => rw [hm] at hp; exact hp
  | ok a μ1 =>
    rw [hm] at hp
    cases a with
    | nx ρ => exact fun w1 H1 σ1 S1 EN1 g1 => hp w1 H1 _ S1 .non g1
    | rt v => exact fun w1 H1 u S1 r1 g1 => hp w1 H1 u S1 r1 g1
    | bk ρ => exact hp.elim
    | ct ρ => exact hp.elim
end
/-! ### x(lambda: e), where x returns what e is, or tells the error -/
inductive Oi where
  | tag (x : Str) | fld (f : Str) | isi
def itM (fs : List (Str × Val)) : Oi → Option Val
  | .tag x => some (.str x)
  | .fld f => fs.lookup f
  | .isi => some (.bl true)
def itV (us : List (Str × V)) : Oi → Option V
  | .tag x => some (.str x)
  | .fld f => us.lookup f
  | .isi => some (.bl true)
def itsM (fs : List (Str × Val)) : List Oi → Option (List Val)
  | [] => some []
  | i :: r => match itM fs i, itsM fs r with
    | some v, some vs => some (v :: vs)
    | _, _ => none
def itsV (us : List (Str × V)) : List Oi → Option (List V)
  | [] => some []
  | i :: r => match itV us i, itsV us r with
    | some v, some vs => some (v :: vs)
    | _, _ => none
section
variable {K : PySem.W.Frag} {ad : Nat → Addr} {b : Nat} {H : Hp}
theorem lookup_rel {f : Str} : ∀ {fs : List (Str × Val)} {us : List (Str × V)} {v : Val}, us.map (·.1) = fs.map (·.1) → VRs K ad b H (fs.map (·.2)) (us.map (·.2)) → fs.lookup f = some v → ∃ u, us.lookup f = some u ∧ VR K ad b H v u
  | [], [], _, _, _, h => by cases h
  | p :: fs, q :: us, v, hk, r, h => by
    simp only [List.map_cons, List.cons.injEq] at hk
    obtain ⟨p1, p2⟩ := p
    obtain ⟨q1, q2⟩ := q
    obtain ⟨rfl, hk⟩ := hk
    cases r with
    | cons r1 r2 =>
      rw [List.lookup_cons] at h ⊢
      cases c : (f == q1) with
      | true =>
        rw [c] at h
        cases h
        exact ⟨q2, rfl, r1⟩
      | false =>
        rw [c] at h
        exact lookup_rel hk r2 h
  | [], _ :: _, _, hk, _, _ => by simp at hk
  | _ :: _, [], _, hk, _, _ => by simp at hk
theorem its_rel {fs : List (Str × Val)} {us : List (Str × V)} (hk : us.map (·.1) = fs.map (·.1)) (r : VRs K ad b H (fs.map (·.2)) (us.map (·.2))) : ∀ {its : List Oi} {vs : List Val}, itsM fs its = some vs → ∃ ws, itsV us its = some ws ∧ VRs K ad b H vs ws
  | [], vs, h => by
    cases h
    exact ⟨[], rfl, .nil⟩
  | i :: its, vs, h => by
    rw [itsM] at h
    split at h
    · rename_i v vs' h1 h2
      cases h
      obtain ⟨ws, e1, e2⟩ := its_rel hk r h2
      have q : ∃ u, itV us i = some u ∧ VR K ad b H v u := by
        cases i with
        | tag x => cases h1; exact ⟨_, rfl, .str _⟩
        | fld f => exact lookup_rel hk r h1
        | isi => cases h1; exact ⟨_, rfl, .bl _⟩
      obtain ⟨u, e3, e4⟩ := q
      refine ⟨u :: ws, ?_, .cons e4 e2⟩
      rw [itsV, e3, e1]
    · cases h
end
abbrev Ohs := List (Str × List Oi)
def findH (hs : Ohs) (c : Str) : Option (List Oi) := match hs with
  | [] => none
  | (x, its) :: r => if x = c then some its else findH r c
theorem findH_mem {hs : Ohs} {c : Str} {its : List Oi} (h : findH hs c = some its) : (c, its) ∈ hs := by
  induction hs with
  | nil => cases h
  | cons p r ih =>
    obtain ⟨x, its'⟩ := p
    rw [findH] at h
    split at h
    · rename_i e
      subst e
      cases h
      exact List.mem_cons_self
    · exact List.mem_cons_of_mem _ (ih h)
def mOut (hs : Ohs) (m : ME) : ME := fun ρ μ => match m ρ μ with
  | .ok v μ => .ok v μ
  | .er c fs μ => match findH hs c with
    | some its => match itsM fs its with
      | some vs => .ok (.loc μ.nx) (μ.new (.lst vs))
      | none => .no
    | none => .no
  | .no => .no
/-- an error that a clause tells -/
def Eo (K : PySem.W.Frag) (hs : Ohs) (Q : VK) : XK := fun cls d H => ∃ c its dd us vs, (c, its) ∈ hs ∧ cls = .ref (ga K c) ∧ d = some dd ∧ H dd = some (.xd us) ∧ itsV us its = some vs ∧ ∀ p, H p = none → Q (.ref p) (upd H p (.lst vs))
def TTo (K : PySem.W.Frag) (hs : Ohs) : (XK → Hp → VK → Prop) → Hp → VK → Prop := fun tl H Q => tl (Eo K hs Q) H Q
section
variable {X : Cx} {E : XK}
theorem takes_len {W : WX} (tk : Takes X W) (h : ∀ cls d σ H, σ.length = X.N.length → E cls d H → W cls d σ H) : Takes X (fun cls d _ H => E cls d H) := fun u s' xx => by
  obtain ⟨a, B, sI, pins', σ', H', cls, d, rfl, J', nb, up, sky, na, os, ag, w⟩ := xx
  exact tk _ _ ⟨a, B, sI, pins', σ', H', cls, d, rfl, J', nb, up, sky, na, os, ag, h _ _ _ _ J'.len w⟩
theorem out_gives {hs : Ohs} {l : List Clause} {h₀ : ExceptHandler} {hds : List ExceptHandler} {Ng : List Str} {x a q n : Str} {i : Nat} {sg : Scope} {g : Addr} {cdg : Value} {p1 p2 p3 p8 : Pos} (hN : Ng.Nodup) (hi : Ng[i]? = some n) (hln : sg.names.lookup n = some .local) (h0 : ∀ f : Addr, (L2.start Ng [V.ref f])[0]? = some (some (V.ref f)))
    (hh : ∀ (s : Shared) (H : Hp), HdsA (cxOf C8.CX0 X.prog X.w X.K X.mg X.base Ng x sg g cdg X.A X.stack s H C8.E0).nox n (h₀ :: hds) l)
    (hw : ∀ cls d H Q σ, Eo X.K hs Q cls d H → i < σ.length → wAsN X.K i (fun _ _ _ _ => False) { nx := fun _ H' => Q .non H', rt := Q } l cls d σ H) (hlen : i < Ng.length) :
    GivesTo X Ng x sg g cdg [.Try [.Return (some (.Call (.Name a p1) [] [] p2)) p3] (h₀ :: hds) [] [] p8] a q (TTo X.K hs) := by
  intro f c' s H Q tl act hc h
  refine ⟨_, pss_one (ps_try_asN (X := (cxOf C8.CX0 X.prog X.w X.K X.mg X.base Ng x sg g cdg X.A X.stack s H C8.E0).nox) (i := i)
      (tb := fun W D σ H => ∃ Ech : XK, (∀ cls d σ' H', σ'.length = Ng.length → Ech cls d H' → W cls d σ' H') ∧ σ[0]? = some (some (.ref f)) ∧ H c' = some (CodeO c' q) ∧ tl Ech H D.rt)
      rfl rfl hN hi hln L2.takes0 (fun W pn xe tk _ => ?_) (hh s H)), ?_⟩
  · refine ⟨fun pins s' σ H' D I h' => ?_⟩
    obtain ⟨Ech, hW, h1, h2, h3⟩ := h'
    have tk2 := takes_len (E := Ech) tk hW
    have hp := act _ pn xe Ech p1 p2 tk2 (fun _ _ _ _ h => h)
    exact (pss_one (ps_ret (pos := p3) hp)).run pins s' σ H' D I ⟨h1, h2, h3⟩
  · refine ⟨Eo X.K hs Q, fun cls d σ' H' hl h => hw cls d H' Q σ' h (by rw [hl]; exact hlen), h0 f, hc, h⟩
/-- x(lambda: e) -/
theorem pm_lam {hs : Ohs} {m : ME} {x a : Str} {g : Addr} {k : Nat} {pg : Arguments} {bg : List Stmt} {sg : Scope} {dvs : List V} {kws : List (Str × V)} {fd : FuncData} {Ng : List Str} {c P : Addr}
    {params : Arguments} {body : Expr} {scope : Scope} {p lpos pos : Pos} (F : FunD X.K x x pg bg sg dvs kws g fd) (hb : L2.Binds X.K fd [a] []) (hg : Gl X x) (hm : X.mg x = some (.ref g)) (Sg : FnScope Ng [a] sg) (hNg : Ng[0]? = some a) (hva : Vis sg a)
    (hG : ∀ cdv, GivesTo X Ng x sg g cdv bg a (X.env.qual ++ "<lambda>") (TTo X.K hs))
    (TB : TabB X.base X.mg c P) (hcode : X.env.code = .ref c) (hmT : (P, X.env.qual ++ "<lambda>") ∈ TbK X.K) (hu : ∀ p ∈ TbK X.K, p.1 = P → p.2 = X.env.qual ++ "<lambda>") (hr : Room (k + 2) X.A) (L : LamS X.env.scope scope)
    (hbody : ∀ (A : Around) (outer : List Env) (s : Shared) (H : Hp) (E : XK) (f c' : Addr), Room k (A.deeper (lamEnv X scope s.heap.objs.size f c')) → PM (lamCx X A outer s H E scope f c') E body m)
    (hdef : defaultsOf params X.env = ([], []) := by rfl)
    (hbind : ∀ (q : Str) (cl : List (Str × Addr)) (pm cv ctv : Value), bindArgs (PySem.W.kla_fn "<lambda>" q params body scope cl pm cv ctv) ⟨[], []⟩ = pure [] := by exact fun _ _ _ _ _ => rfl)
    (hdb : (x == ("__debug__" : Str)) = false := by decide) (hd : (a == ("__debug__" : Str)) = false := by decide) (hcd : (a == ("__classdict__" : Str)) = false := by decide) :
    PM X E (.Call (.Name x p) [.Lambda params body scope lpos] [] pos) (mOut hs m) := by
  obtain ⟨oc, od, dV, kV, doc, pm, an, cdv, ct, osl, rfl, lk, hcg, _, _⟩ := F.ex
  refine PE.imp (pe_lamcall (T := TbK X.K) (TT := TTo X.K hs) (t := fun E => tM X.K (relE X.K) E m) hg hm F.kp lk hcg hb Sg hNg hva (hG cdv) TB hcode hmT hu hr L hdef hbind hbody hdb hd hcd) fun σ H Q ⟨w, ρ, μ, S, EN, hp⟩ => ⟨S.tb, fun H1 e t => ?_⟩
  obtain ⟨S1, g1⟩ := S.extN e t
  have hp1 := Post.grow hp g1
  refine ⟨w, ρ, μ, S1, EN.grow g1, ?_⟩
  unfold mOut at hp1
  cases hm : m ρ μ with
  | no => rw [hm] at hp1; exact hp1
  | ok v μ' => rw [hm] at hp1; exact hp1
  | er c fs μ' =>
    rw [hm] at hp1
    intro w' H' d us S' g' hd hk r
    have hp1 : Post X.K (relE X.K) E w μ.nx H1 Q (match findH hs c with
      | some its => match itsM fs its with
        | some vs => .ok (.loc μ'.nx) (μ'.new (.lst vs))
        | none => .no
      | none => .no) := hp1
    split at hp1
    · rename_i its h1
      split at hp1
      · rename_i vs h2
        obtain ⟨ws, e1, e2⟩ := its_rel hk r h2
        refine ⟨c, its, d, us, ws, findH_mem h1, rfl, rfl, hd, e1, fun p np => ?_⟩
        obtain ⟨w2, S2, g2, e3⟩ := S'.newL np e2
        exact hp1 w2 _ _ S2 (by rw [← e3]; exact VR.loc (Nat.lt_succ_self _)) (g'.trans g2)
      · exact hp1.elim
    · exact hp1.elim
end
/-! ### repr -/
def repOk (d : PyData) : Prop := d.showable = true ∧ d.hasDict = false ∧ d.depth ≤ 100 ∧ d.shown.length ≤ sizeLine
instance (d : PyData) : Decidable (repOk d) := by unfold repOk; infer_instance
def reprM : List Val → Mu → R Val
  | [x], μ => match datM μ x with
    | some d => if repOk d then .ok (.str d.shown) μ else .no
    | none => .no
  | _, _ => .no
section
variable {K : PySem.W.Frag}
theorem p_repr : PrimA K (rRepr K) reprM := by
  intro E w μ H xs us Q S r hp
  unfold reprM at hp
  split at hp
  · cases r with
    | cons r1 r2 =>
      cases r2
      split at hp
      · rename_i d hd
        split at hp
        · rename_i ho
          obtain ⟨a1, a2⟩ := datM_dp S hd r1
          exact ⟨_, d, rfl, a1, ho.1, ho.2.1, ho.2.2.1, ho.2.2.2, hp w H _ S (.str _) .refl⟩
        · exact hp.elim
      · exact hp.elim
  · exact hp.elim
end
/-! ### dicts -/
def mDct0 : ME := fun _ μ => .ok (.loc μ.nx) (μ.new (.dct []))
def intK : List (Key × Val) → Option (List Int)
  | [] => some []
  | (.inl i, _) :: r => match intK r with
    | some l => some (i :: l)
    | none => none
  | (.inr _, _) :: _ => none
theorem intK_eq : ∀ {kvs : List (Key × Val)} {l : List Int}, intK kvs = some l → kvs.map (·.1) = l.map Sum.inl
  | [], l, h => by cases h; rfl
  | (.inl i, _) :: r, l, h => by
    rw [intK] at h
    split at h
    · rename_i l' e
      cases h
      rw [List.map_cons, intK_eq e]
      rfl
    · cases h
  | (.inr _, _) :: _, _, h => by cases h
def sortDM : List Val → Mu → R Val
  | [.loc n], μ => match dctOf μ n with
    | some kvs => match intK kvs with
      | some l => if l.length < 64 then .ok (.loc μ.nx) (μ.new (.lst ((srtI l).map Val.int))) else .no
      | none => .no
    | none => .no
  | _, _ => .no
def lenDM : List Val → Mu → R Val
  | [.loc n], μ => match dctOf μ n with
    | some kvs => .ok (.int kvs.length) μ
    | none => .no
  | _, _ => .no
section
variable {X : Cx} {E : XK} {K : PySem.W.Frag} {pos : Pos}
theorem pm_dct0 : PM X E (.Dict [] [] pos) mDct0 := PE.imp pe_dnewK fun σ H Q ⟨w, ρ, μ, S, EN, hp⟩ => fun p np => by
  obtain ⟨w2, S2, g2, e2⟩ := S.newD np (kvs := []) (us := []) rfl .nil
  exact hp w2 _ _ S2 (by rw [← e2]; exact VR.loc (Nat.lt_succ_self _)) g2
def rSortD : List V → Hp → VK → Prop := fun xs H Q => ∃ (a : Addr) (kvs : List (Key × V)) (ks : List Int), xs = [.ref a] ∧ Rd H a (.dK kvs) ∧ kvs.map (·.1) = ks.map Sum.inl ∧ ks.length < 64 ∧
    ∀ (ys : List Int) (p : Addr), ys.Perm ks → ys.Pairwise (· ≤ ·) → H p = none → Q (.ref p) (upd H p (.lst (ys.map V.int)))
theorem p_sortD : PrimA K rSortD sortDM := by
  intro E w μ H xs us Q S r hp
  unfold sortDM at hp
  split at hp
  · cases r with
    | cons r1 r2 =>
      cases r2; cases r1
      split at hp
      · rename_i kvs hk
        split at hp
        · rename_i l hl
          split at hp
          · rename_i h64
            obtain ⟨us, q1, q2, q3⟩ := dctOf_rd S hk
            refine ⟨_, us, l, rfl, q1, q2.trans (intK_eq hl), h64, fun ys p h1 h2 np => ?_⟩
            rw [srtI_eq h1 h2]
            obtain ⟨w4, S4, g4, e4⟩ := S.newL np (VRs.ints (srtI l))
            exact hp w4 _ _ S4 (by rw [← e4]; exact VR.loc (Nat.lt_succ_self _)) g4
          · exact hp.elim
        · exact hp.elim
      · exact hp.elim
  · exact hp.elim
def rLenD : List V → Hp → VK → Prop := fun xs H Q => ∃ (a : Addr) (kvs : List (Key × V)), xs = [.ref a] ∧ Rd H a (.dK kvs) ∧ Q (.int kvs.length) H
theorem call_lenDR : CallR X (.builtin "len") rLenD := by
  intro pins s σ H xs us Q I r h
  obtain ⟨a, kvs, rfl, hd, q⟩ := h
  obtain ⟨u, rfl, ru⟩ := vals1 r
  cases ru
  exact d_len I hd fun t s' I' => ⟨.int _, H, I', ⟨t, rfl⟩, q⟩
theorem p_lenD : PrimA K rLenD lenDM := by
  intro E w μ H xs us Q S r hp
  unfold lenDM at hp
  split at hp
  · cases r with
    | cons r1 r2 =>
      cases r2; cases r1
      split at hp
      · rename_i kvs hk
        obtain ⟨us, q1, q2, q3⟩ := dctOf_rd S hk
        refine ⟨_, us, rfl, q1, ?_⟩
        have hl : us.length = kvs.length := by
          have := congrArg List.length q2
          simpa using this
        rw [hl]
        exact hp w H _ S (.int _) .refl
      · exact hp.elim
  · exact hp.elim
/-! ### a, b = a list -/
end
end Wn
/-! the law's level: the tables of those who make lambdas -/
namespace Wn
open PySem PySem.Spec PyProof.Rows L2 LamX He
def TBk (K : PySem.W.Frag) (mg : Str → Option Value) (base : Heap) : Prop := ∀ x ∈ lamL, TabB base mg (cT K (x, none)).1 (cT K (x, none)).2
theorem tb_mem {K : PySem.W.Frag} {x : Str} (h : x ∈ lamL) : ((cT K (x, none)).2, x ++ ".<locals>." ++ "<lambda>") ∈ TbK K := List.mem_map.mpr ⟨x, h, rfl⟩
theorem tb_one {K : PySem.W.Frag} {x : Str} (h : lamL = [x]) : ∀ p ∈ TbK K, p.1 = (cT K (x, none)).2 → p.2 = x ++ ".<locals>." ++ "<lambda>" := fun p hp _ => by
  unfold TbK at hp
  rw [h] at hp
  cases List.mem_singleton.mp hp
  rfl
theorem itsV_cons {us : List (Str × V)} {i : Oi} {r : List Oi} {vs : List V} (h : itsV us (i :: r) = some vs) : ∃ v vs', vs = v :: vs' ∧ itV us i = some v ∧ itsV us r = some vs' := by
  rw [itsV] at h
  split at h
  · rename_i v vs' h1 h2
    cases h
    exact ⟨v, vs', rfl, h1, h2⟩
  · cases h
theorem call_isXK (K : PySem.W.Frag) {X : Cx} {a : Addr} {oe : Obj} {cls : Value} {d : Option Addr} {pn : List (Addr × Obj)} (hz : Zc cls d oe) (hf : ∃ vs, oe.data = .fields vs) (hK : X.K = K := by rfl) : CallR (X.suite a ((a, oe) :: pn)) (.builtin "isinstance") (fun xs H Q => rIsX K cls a xs H fun v H' => (∃ dd fs, d = some dd ∧ H dd = some (.xd fs)) ∧ Q v H') := by
  subst hK
  exact call_isX hz hf
theorem hu_repr {k : Nat} {A : Around} (r : Room k A) : A.units + 200 < cLine := by have := r.un; omega
/-! ### texts compared -/
def neSM : Val → Val → Mu → R Val
  | .str x, .str y, μ => .ok (.bl (!decide (x = y))) μ
  | _, _, _ => .no
theorem c_neS {X : Cx} : CmpP X .NotEq neSM := by
  refine ⟨_, op_ne, ?_⟩
  intro E w μ H x y u v Q S r1 r2 hp
  unfold neSM at hp
  split at hp
  · cases r1; cases r2
    rename_i x y
    refine ⟨rfl, ?_⟩
    have e : decide (V.str x = V.str y) = decide (x = y) := by
      by_cases c : x = y
      · subst c; simp
      · rw [decide_eq_false c, decide_eq_false (fun z => c (V.str.inj z))]
    rw [e]
    exact hp w H _ S (.bl _) .refl
  · exact hp.elim
/-! ### data that repr shows -/
mutual
def smD : PyData → Bool
  | .none => true
  | .bool _ => true
  | .str x => PyData.strOk x
  | .int i => decide (i.natAbs < 10 ^ 12)
  | .list xs => smDs xs
  | .tuple xs => smDs xs
  | .dict _ => false
def smDs : List PyData → Bool
  | [] => true
  | x :: xs => smD x && smDs xs
end
mutual
theorem sm_show : ∀ d : PyData, smD d = true → d.showable = true ∧ d.hasDict = false ∧ d.leavesShort 13 = true
  | .none, _ => ⟨rfl, rfl, rfl⟩
  | .bool _, _ => ⟨rfl, rfl, rfl⟩
  | .str x, h => by
    refine ⟨rfl, rfl, ?_⟩
    exact PyData.leavesShort_of_canLay0 13 (.str x) (by rw [PyData.canLay0]; exact h) rfl
  | .int i, h => by
    have h' : i.natAbs < 10 ^ 12 := of_decide_eq_true h
    refine ⟨decide_eq_true ?_, rfl, decide_eq_true ?_⟩
    · by_cases c : i.natAbs = 0
      · rw [c]; decide
      · exact (Nat.log2_lt c).mpr (Nat.lt_of_lt_of_le h' (Nat.le_trans (show 10 ^ 12 ≤ 2 ^ 40 by decide) (Nat.pow_le_pow_right (by decide) (by decide))))
    · have e := PySem.int_text_length_le10 (a := i) (k := 12) (by decide) h'
      show (Str.ofString (toString i)).length ≤ 13
      rw [PySem.ofString_length]
      exact e
  | .list xs, h => by
    obtain ⟨h1, h2, h3⟩ := sm_shows xs h
    exact ⟨h1, h2, h3⟩
  | .tuple xs, h => by
    obtain ⟨h1, h2, h3⟩ := sm_shows xs h
    exact ⟨h1, h2, h3⟩
  | .dict _, h => by cases h
theorem sm_shows : ∀ ds : List PyData, smDs ds = true → PyData.showableAll ds = true ∧ PyData.hasDictAll ds = false ∧ PyData.leavesShortAll 13 ds = true
  | [], _ => ⟨rfl, rfl, rfl⟩
  | d :: ds, h => by
    have h : (smD d && smDs ds) = true := h
    obtain ⟨a, b⟩ := Bool.and_eq_true_iff.mp h
    obtain ⟨p1, p2, p3⟩ := sm_show d a
    obtain ⟨q1, q2, q3⟩ := sm_shows ds b
    refine ⟨?_, ?_, ?_⟩
    · rw [PyData.showableAll, p1, q1]; rfl
    · rw [PyData.hasDictAll, p2, q2]; rfl
    · rw [PyData.leavesShortAll, p3, q3]; rfl
end
theorem rep_small {d : PyData} (h : smD d = true) (hd : d.depth ≤ 100) (hw : d.weight ≤ 1000000) : repOk d := by
  obtain ⟨h1, h2, h3⟩ := sm_show d h
  refine ⟨h1, h2, hd, ?_⟩
  have := PyData.shown_le 13 (by decide) d h3
  have e : sizeLine = 16777216 := by decide
  omega
theorem repr_ok {μ : Mu} {x : Val} {d : PyData} (hx : datM μ x = some d) (h : repOk d) : reprM [x] μ = .ok (.str d.shown) μ := by
  unfold reprM
  simp only [hx]
  rw [if_pos h]
end Wn
/-! the law's level: methods of dicts -/
namespace Wn
open PySem PySem.Spec PyProof.Rows L2 LamX He
def dctV (x : Val) (μ : Mu) : Option (List (Key × Val)) := match x with
  | .loc n => dctOf μ n
  | _ => none
def mDm (f : Val → Val → Mu → R Val) (o k : ME) : ME := fun ρ μ => (o ρ μ).bind fun x μ => match dctV x μ with
  | some _ => (k ρ μ).bind fun y μ => f x y μ
  | none => .no
def popDM : Val → Val → Mu → R Val
  | .loc n, y, μ => match μ.ob n, keyOf y with
    | some (.dct kvs), some k => match kGet kvs k with
      | some v => .ok v (μ.put n (.dct (kDrop kvs k)))
      | none => .no
    | _, _ => .no
  | _, _, _ => .no
def getDM : Val → Val → Mu → R Val
  | .loc n, y, μ => match dctOf μ n, keyOf y with
    | some kvs, some k => .ok ((kGet kvs k).getD .non) μ
    | _, _ => .no
  | _, _, _ => .no
section
variable {X : Cx} {E : XK} {o e : Expr} {apos cpos : Pos} {mo me : ME}
theorem pm_dpop (ho : PM X E o mo) (he : PM X E e me) (m : M1 X o "pop" apos e cpos := by exact ⟨rfl, rfl, rfl, rfl⟩) : PM X E (.Call (.Attribute o "pop" apos) [e] [] cpos) (mDm popDM mo me) :=
  PE.imp (pe_dpop1 ho he m) fun σ H Q ⟨w, ρ, μ, S, EN, hp⟩ => ⟨w, ρ, μ, S, EN, Post.bind hp fun x μ1 w1 H1 u1 S1 r1 g1 h1 => by
    unfold dctV at h1
    split at h1
    · rename_i kv0 hd
      split at hd
      · rename_i n
        cases r1 with
        | loc hn =>
        obtain ⟨us0, d1, d2, d3⟩ := dctOf_rd S1 hd
        refine ⟨_, rfl, .inl ⟨_, d1⟩, w1, ρ, μ1, S1, EN.grow g1, Post.bind h1 fun y μ2 w2 H2 u2 S2 r2 g2 h2 => ?_⟩
        have ea : w2.ad n = w1.ad n := g2.ad n hn
        unfold popDM at h2
        simp only at h2
        split at h2
        · rename_i kvs k hob hk
          split at h2
          · rename_i v hv
            obtain ⟨us, q1, q2, q3⟩ := S2.ok _ _ hob
            have ek := keyOf_kV hk r2
            subst ek
            rcases kGet_rel (k := k) q2 q3 with ⟨v', u', e1, e2, e3⟩ | ⟨e1, e2⟩
            · rw [hv] at e1
              cases e1
              obtain ⟨p1, p2⟩ := kDrop_rel (k := k) q2 q3
              obtain ⟨S4, g4⟩ := S2.setD hob p1 p2
              rw [← ea]
              exact ⟨us, k, u', q1, rfl, e2, h2 w2 _ u' S4 (VR.grow g4 e3) g4⟩
            · rw [hv] at e1
              cases e1
          · exact h2.elim
        · exact h2.elim
      · cases hd
    · exact h1.elim⟩
end
end Wn
/-! the law's level: dict displays -/
namespace Wn
open PySem PySem.Spec PyProof.Rows L2 LamX He
def mPrs : List (ME × ME) → Rho → Mu → R (List (Val × Val))
  | [], _, μ => .ok [] μ
  | (a, b) :: r, ρ, μ => (a ρ μ).bind fun x μ => (b ρ μ).bind fun y μ => (mPrs r ρ μ).bind fun ps μ => .ok ((x, y) :: ps) μ
def kvOf : List (Val × Val) → Option (List (Key × Val))
  | [] => some []
  | (x, y) :: r => match keyOf x, kvOf r with
    | some k, some l => some ((k, y) :: l)
    | _, _ => none
def mDisp (prs : List (ME × ME)) : ME := fun ρ μ => (mPrs prs ρ (μ.new (.dct []))).bind fun ps μ1 => match kvOf ps, μ1.ob μ.nx with
  | some kvs, some (.dct []) => if (kvs.map (·.1)).Nodup ∧ kvs.length ≤ 15 then .ok (.loc μ.nx) (μ1.put μ.nx (.dct kvs)) else .no
  | _, _ => .no
section
variable {X : Cx} {E : XK} {pos : Pos}
end
end Wn
/-! the law's level: chains of comparisons, isinstance, a dict against {}, two stores at once -/
namespace Wn
open PySem PySem.Spec PyProof.Rows L2 LamX He
section
variable {X : Cx} {E : XK} {e a b c o : Expr} {m ma mb mc mo mi mv : ME} {pos : Pos}
theorem R.bind_assoc {α β γ : Type} (r : R α) (k : α → Mu → R β) (l : β → Mu → R γ) : (r.bind k).bind l = r.bind fun a μ => (k a μ).bind l := by cases r <;> rfl
def mChain (f g : Val → Val → Mu → R Val) (a b c : ME) : ME := fun ρ μ => (a ρ μ).bind fun x μ => (b ρ μ).bind fun y μ => (f x y μ).bind fun z μ => match z with
  | .bl true => (c ρ μ).bind fun t μ => g y t μ
  | .bl false => .ok (.bl false) μ
  | _ => .no
theorem pmt_chain {op op' : CmpOp} {f g : Val → Val → Mu → R Val} (hf : CmpP X op f) (hg : CmpP X op' g) (ha : PM X E a ma) (hb : PM X E b mb) (hc : PM X E c mc) (hm : lastMarks [op, op'] [b, c] = false := by with_unfolding_all rfl) : PMT X E (.Compare a [op, op'] [b, c] pos) (mTest (mChain f g ma mb mc)) := by
  obtain ⟨r, ho, hf⟩ := hf.ex
  obtain ⟨r', ho', hg⟩ := hg.ex
  refine PT.imp (pt_chain ho ho' ha hb hc hm) fun σ H Q ⟨w, ρ, μ, S, EN, hp⟩ => ?_
  have hp := post_test hp
  exact ⟨w, ρ, μ, S, EN, Post.bind hp fun x μ1 w1 H1 u1 S1 r1 g1 h1 => ⟨w1, ρ, μ1, S1, EN.grow g1, Post.bind h1 fun y μ2 w2 H2 u2 S2 r2 g2 h2 =>
    hf E w2 μ2 H2 x y u1 u2 _ S2 (VR.grow g2 r1) r2 (Post.bind h2 fun z μ3 w3 H3 u3 S3 r3 g3 h3 => by
      split at h3
      · cases r3
        exact ⟨true, rfl, iteT ⟨w3, ρ, μ3, S3, ((EN.grow g1).grow g2).grow g3, Post.bind h3 fun t μ4 w4 H4 u4 S4 r4 g4 h4 => hg E w4 μ4 H4 y t u2 u4 _ S4 (VR.grow g4 (VR.grow g3 r2)) r4 h4⟩⟩
      · cases r3
        exact ⟨false, rfl, iteF (h3 w3 H3 _ S3 (.bl false) .refl)⟩
      · exact h3.elim)⟩⟩
/-- isinstance(x, int), isinstance(x, bool) -/
def isiM (bo : Bool) (x : Val) (μ : Mu) : R Val := match x with
  | .int _ => .ok (.bl (!bo)) μ
  | .bl _ => .ok (.bl true) μ
  | .non => .ok (.bl false) μ
  | .str _ => .ok (.bl false) μ
  | .tup _ => .ok (.bl false) μ
  | .loc n => match seqOf μ n with
    | some _ => .ok (.bl false) μ
    | none => .no
def sDst2 (m o1 i1 o2 i2 : ME) : MS := fun ρ μ => (m ρ μ).bind fun v μ => match v with
  | .tup [a, b] => (o1 ρ μ).bind fun o μ => (i1 ρ μ).bind fun i μ => (dstoM o i a μ).bind fun _ μ => (o2 ρ μ).bind fun o μ => (i2 ρ μ).bind fun i μ => (dstoM o i b μ).bind fun _ μ => .ok (.nx ρ) μ
  | _ => .no
/-- a dict against an empty one -/
def rNe0 : R2 := fun x y H Q => ∃ a b ks, x = .ref a ∧ y = .ref b ∧ H a = some (.dK ks) ∧ H b = some (.dK []) ∧ Q (.bl (!ks.isEmpty)) H
theorem op_ne_dict0 (hu : X.A.units < cLine) : OpR X (compareOp .NotEq) rNe0 := by
  intro pins s σ H x y v u Q I rx ry h
  obtain ⟨a, b, ks, rfl, rfl, ea, eb, q⟩ := h
  obtain rfl : v = Value.ref a := rx
  obtain rfl : u = Value.ref b := ry
  obtain ⟨_, ya, va, ra, da⟩ := (show ObjOk X.prog X.w H s.heap a (.dK ks) from I.hok a _ ea)
  obtain ⟨_, yb, vb, rb, db⟩ := (show ObjOk X.prog X.w H s.heap b (.dK []) from I.hok b _ eb)
  have h0 : vb.length = 0 := by rw [← rb.length]; rfl
  cases ks with
  | nil =>
    have hl : va.length = vb.length := by rw [h0, ← ra.length]; rfl
    exact PySem.W.keq_ne (knd := mixKind X.prog X.w) (r := true) ya yb da db hu (fun _ => hits_all rb ra (fun _ z => nomatch z)) (fin_bl I q (by simp [hl]))
  | cons k ks =>
    have hl : va.length ≠ vb.length := by rw [h0, ← ra.length]; simp
    exact PySem.W.keq_ne (knd := mixKind X.prog X.w) (r := true) ya yb da db hu (fun z => absurd z hl) (fin_bl I q (by simp [hl]))
def neD0M : Val → Val → Mu → R Val
  | .loc n, .loc m, μ => match μ.ob n, μ.ob m with
    | some (.dct kvs), some (.dct []) => .ok (.bl (!kvs.isEmpty)) μ
    | _, _ => .no
  | _, _, _ => .no
theorem c_neD0 (hu : X.A.units < cLine) : CmpP X .NotEq neD0M := by
  refine ⟨_, op_ne_dict0 hu, ?_⟩
  intro E w μ H x y u v Q S r1 r2 hp
  unfold neD0M at hp
  split at hp
  · cases r1; cases r2
    split at hp
    · rename_i kvs h1 h2
      obtain ⟨us, q1, q2, q3⟩ := S.ok _ _ h1
      obtain ⟨vs, p1, p2, p3⟩ := S.ok _ _ h2
      have e0 : vs = [] := by
        cases vs with
        | nil => rfl
        | cons _ _ => cases p2
      subst e0
      refine ⟨_, _, us, rfl, rfl, q1, p1, ?_⟩
      have e : us.isEmpty = kvs.isEmpty := by
        have := congrArg List.length q2
        simp only [List.length_map] at this
        cases us <;> cases kvs <;> simp_all
      rw [e]
      exact hp w H _ S (.bl _) .refl
    · exact hp.elim
  · exact hp.elim
def isiN (bo : Bool) : String := if bo then "bool" else "int"
theorem vr_ty {K : PySem.W.Frag} {w : Wt} {μ : Mu} {H : Hp} (S : Sim K w μ H) {bo : Bool} {x : Val} {u : V} {Q : V → Hp → Prop} (r : VR K w.ad μ.nx H x u) (hp : Post K (relE K) E w μ.nx H Q (isiM bo x μ)) : ∃ (t : Value) (b : Bool), TyX K H u t ∧ PySem.W.kitOne K t (.type (isiN bo)) = some b ∧ Q (.bl b) H := by
  unfold isiM at hp
  cases r with
  | non => exact ⟨.type "NoneType", false, .base .non, by cases bo <;> exact kit_ty (by decide +kernel), hp w H _ S (.bl _) .refl⟩
  | bl y => exact ⟨.type "bool", true, .base (.bl y), by cases bo <;> exact kit_ty (by decide +kernel), hp w H _ S (.bl _) .refl⟩
  | int i => exact ⟨.type "int", !bo, .base (.int i), by cases bo <;> exact kit_ty (by decide +kernel), hp w H _ S (.bl _) .refl⟩
  | str y => exact ⟨.type "str", false, .base (.str y), by cases bo <;> exact kit_ty (by decide +kernel), hp w H _ S (.bl _) .refl⟩
  | tup h _ =>
    refine ⟨.type "tuple", false, ?_, by cases bo <;> exact kit_ty (by decide +kernel), hp w H _ S (.bl _) .refl⟩
    rcases h with (h | ⟨o, h⟩) | ⟨o, _, _, h1, h2, _⟩
    · exact .base (.tup h)
    · exact .fTuple h
    · exact .kTuple h1 h2
  | loc hn =>
    simp only at hp
    split at hp
    · rename_i vs hq
      obtain ⟨us, h, _⟩ := seqOf_sq S hq
      refine ⟨.type "list", false, ?_, by cases bo <;> exact kit_ty (by decide +kernel), hp w H _ S (.bl _) .refl⟩
      rcases h with (h | ⟨o, h⟩) | ⟨o, _, _, h1, h2, _⟩
      · exact .base (.lst h)
      · exact .base (.frz h)
      · exact .kList h1 h2
    · exact hp.elim
theorem pm_isi {bo : Bool} {y : Str} {p p2 : Pos} (hg : Gl X "isinstance") (hm : X.mg "isinstance" = none) (hgy : Gl X y) (hmy : X.mg y = none) (hvy : bootBuiltins y = some (.type (isiN bo))) (ha : PM X E a ma) (hny : y ≠ "__name__" := by decide) (hdy : (y == ("__debug__" : Str)) = false := by decide)
    (he : starEach [a, .Name y p2] X.env = (false, eval a X.env) :: starEach [.Name y p2] X.env := by rfl) (hpl : (backTo pos (starEach [.Name y p2] X.env)).any (·.1) = false := by rfl) : PM X E (.Call (.Name "isinstance" p) [a, .Name y p2] [] pos) (mUn (isiM bo) ma) :=
  PE.imp (pe_callB call_isi hg hm (by decide +kernel) (pa_cons ha (pa_cons (pe_bltn (v := .ty (isiN bo)) hgy hmy hvy rfl hny hdy) pa_nil) (hs := he)) (by decide) (by decide) he hpl) fun σ H Q ⟨w, ρ, μ, S, EN, hp⟩ => ⟨w, ρ, μ, S, EN, Post.bind hp fun x μ1 w1 H1 u1 S1 r1 g1 h1 => by
    obtain ⟨t, b, ty, hk, q⟩ := vr_ty S1 r1 h1
    exact ⟨u1, .ty (isiN bo), t, .type (isiN bo), b, rfl, .ty _, ty, hk, q⟩⟩
/-- a store into a dict, within a pair of targets -/
theorem sub_d (hu : X.A.units + 1 < cLine) {mo mi : ME} {v : Val} {u : V} {w : Wt} {ρ : Rho} {μ : Mu} {H : Hp} {σ : L2.St} {D : L2.St → Hp → Prop} (S : Sim X.K w μ H) (EN : EnvR X.K w μ.nx H ρ σ) (rv : VR X.K w.ad μ.nx H v u)
    (hp : Post X.K (fun _ _ _ _ _ => True) E w μ.nx H (fun (_ : Unit) H' => D σ H') ((mo ρ μ).bind fun o μ => (mi ρ μ).bind fun i μ => dstoM o i v μ)) : gSub (tM X.K (relE X.K) E mo) (tM X.K (relE X.K) E mi) rSetD u σ H D :=
  ⟨w, ρ, μ, S, EN, Post.bind hp fun o μ2 w2 H2 uo S2 ro g2 h2 => ⟨w2, ρ, μ2, S2, EN.grow g2, Post.bind h2 fun i μ3 w3 H3 ui S3 ri g3 h3 => by
    have rv := VR.grow g3 (VR.grow g2 rv)
    have ro := VR.grow g3 ro
    unfold dstoM at h3
    split at h3
    · cases ro
      split at h3
      · rename_i kvs k hn hk
        split at h3
        · rename_i hz
          obtain ⟨us, q1, q2, q3⟩ := S3.ok _ _ hn
          rw [keyOf_kV hk ri]
          obtain ⟨p1, p2⟩ := kPut_rel (k := k) rv q2 q3
          obtain ⟨S4, g4⟩ := S3.setD hn p1 p2
          exact ⟨_, _, rfl, DPut.k q1 (by rw [kv_len' (K := X.K) (ad := w3.ad) (b := 0) (H := H3) q2]; exact lim6 hz), h3 w3 _ () S4 True.intro g4⟩
        · exact h3.elim
      · exact h3.elim
    · exact h3.elim⟩⟩
theorem pms_dst2 {o1 i1 o2 i2 : Expr} {mo1 mi1 mo2 mi2 : ME} {p1 p2 pt : Pos} {kt : Nat} (hc : X.calm = true) (hu : X.A.units + 1 < cLine) (he : PM X E e m) (ho1 : PM X E o1 mo1) (hi1 : PM X E i1 mi1) (ho2 : PM X E o2 mo2) (hi2 : PM X E i2 mi2)
    (hs : swapsWithSole [.Tuple [.Subscript o1 i1 p1, .Subscript o2 i2 p2] kt pt] e pos.line X.env = pure false := by rfl) (hw : swappedStores [.Tuple [.Subscript o1 i1 p1, .Subscript o2 i2 p2] kt pt] e X.env = pure none := by rfl)
    (h1 : (assignEach [.Tuple [.Subscript o1 i1 p1, .Subscript o2 i2 p2] kt pt] X.env).map (·.2) = [assign (.Tuple [.Subscript o1 i1 p1, .Subscript o2 i2 p2] kt pt) X.env] := by rfl)
    (hst : (assignEach [.Subscript o1 i1 p1, .Subscript o2 i2 p2] X.env).findIdx? (·.1) = none := by rfl) (hl : (assignEach [.Subscript o1 i1 p1, .Subscript o2 i2 p2] X.env).length = 2 := by rfl)
    (e1 : (assignEach [.Subscript o1 i1 p1, .Subscript o2 i2 p2] X.env).map (·.2) = assign (.Subscript o1 i1 p1) X.env :: (assignEach [.Subscript o2 i2 p2] X.env).map (·.2) := by rfl)
    (e2 : (assignEach [.Subscript o2 i2 p2] X.env).map (·.2) = assign (.Subscript o2 i2 p2) X.env :: (assignEach [] X.env).map (·.2) := by rfl)
    (ha1 : ∀ v, assign (.Subscript o1 i1 p1) X.env v = (do
      let ov ← holding [v] (eval o1 X.env)
      let iv ← holding [v, ov] (eval i1 X.env)
      standAt p1
      holding [v, ov, iv] (setItem ov iv v)
      release [v, ov, iv] []) := by intro _; rfl)
    (ha2 : ∀ v, assign (.Subscript o2 i2 p2) X.env v = (do
      let ov ← holding [v] (eval o2 X.env)
      let iv ← holding [v, ov] (eval i2 X.env)
      standAt p2
      holding [v, ov, iv] (setItem ov iv v)
      release [v, ov, iv] []) := by intro _; rfl) : PMS X E (.Assign [.Tuple [.Subscript o1 i1 p1, .Subscript o2 i2 p2] kt pt] e pos) (sDst2 m mo1 mi1 mo2 mi2) :=
  PS.imp (ps_asg he (pg_tup (n := 2) hc (pgs_cons (pg_sub ho1 hi1 (set_dict hu) ha1) (pgs_cons (pg_sub ho2 hi2 (set_dict hu) ha2) pgs_nil e2) e1) hl hst) hs hw h1) fun D σ H ⟨w, ρ, μ, S, EN, hp⟩ => ⟨w, ρ, μ, S, EN, PostS.bind hp fun x μ1 w1 H1 u1 S1 r1 g1 h1 => by
    split at h1
    · rename_i a b
      obtain ⟨p, us, rfl, hq, rq⟩ := vr_tup r1
      cases rq with
      | cons ra rr =>
        cases rr with
        | cons rb rr =>
          cases rr
          refine ⟨p, _, rfl, hq, rfl, _, _, rfl, sub_d hu S1 (EN.grow g1) ra ?_⟩
          refine PostS.bind (rel := fun _ _ _ _ _ => True) (show PostS X.K E w1 μ1.nx H1 D (((mo1 ρ μ1).bind fun o μ => (mi1 ρ μ).bind fun i μ => dstoM o i a μ).bind fun _ μ => (mo2 ρ μ).bind fun o μ => (mi2 ρ μ).bind fun i μ => (dstoM o i b μ).bind fun _ μ => .ok (.nx ρ) μ) from ?_) fun _ μ2 w2 H2 _ S2 _ g2 h2 => ?_
          · simpa only [R.bind_assoc] using h1
          · refine ⟨_, _, rfl, sub_d hu S2 ((EN.grow g1).grow g2) (VR.grow g2 rb) ?_⟩
            refine PostS.bind (rel := fun _ _ _ _ _ => True) (show PostS X.K E w2 μ2.nx H2 D (((mo2 ρ μ2).bind fun o μ => (mi2 ρ μ).bind fun i μ => dstoM o i b μ).bind fun _ μ => .ok (.nx ρ) μ) from ?_) fun _ μ3 w3 H3 _ S3 _ g3 h3 => ?_
            · simpa only [R.bind_assoc] using h2
            · exact ⟨rfl, h3 w3 H3 σ S3 (((EN.grow g1).grow g2).grow g3) .refl⟩
    · exact h1.elim⟩
end
end Wn
namespace Wn
open PySem PySem.Spec PyProof.Rows L2 LamX He

/-! ### the text by places -/
def top (i : Nat) : Stmt := PySem.Challenge.pw_waitnumbers_k02_copies_onto_numbers.main.body.getD i (.Pass ⟨0, 0, 0, 0⟩)
abbrev s_NoProcess___init__ : Stmt := inClass (top 2) 0
abbrev s_NotOpen___init__ : Stmt := inClass (top 3) 0
abbrev s_NoNumber___init__ : Stmt := inClass (top 4) 0
abbrev s_NotASource___init__ : Stmt := inClass (top 5) 0
abbrev s_BadCount___init__ : Stmt := inClass (top 6) 0
abbrev s_BadLimit___init__ : Stmt := inClass (top 7) 0
abbrev s_Full___init__ : Stmt := inClass (top 8) 0
abbrev s_Finished___init__ : Stmt := inClass (top 9) 0
abbrev s_is_integer : Stmt := top 14
abbrev s_is_between : Stmt := top 15
abbrev s_Source___init__ : Stmt := inClass (top 16) 0
abbrev s_Source_kind : Stmt := inClass (top 16) 1
abbrev s_Source_taken : Stmt := inClass (top 16) 3
abbrev s_WaitSet___init__ : Stmt := inClass (top 17) 0
abbrev s_WaitSet_kind : Stmt := inClass (top 17) 1
abbrev s_WaitSet_append_pending : Stmt := inClass (top 17) 4
abbrev s_WaitSet_drop : Stmt := inClass (top 17) 5
abbrev s_WaitSet_forget : Stmt := inClass (top 17) 6
abbrev s_look_count : Stmt := top 22
abbrev s_System___init__ : Stmt := inClass (top 23) 2
abbrev s_System_limits : Stmt := inClass (top 23) 4
abbrev s_System_alive : Stmt := inClass (top 23) 5
abbrev s_System_table_of : Stmt := inClass (top 23) 6
abbrev s_System_serial_at : Stmt := inClass (top 23) 7
abbrev s_System_source_at : Stmt := inClass (top 23) 8
abbrev s_System_holders : Stmt := inClass (top 23) 10
abbrev s_System_name_of : Stmt := inClass (top 23) 11
abbrev s_System_set_serials : Stmt := inClass (top 23) 13
abbrev s_System_lowest_free : Stmt := inClass (top 23) 15
abbrev s_System_placed : Stmt := inClass (top 23) 16
abbrev s_System_new_source : Stmt := inClass (top 23) 17
abbrev s_System_copy : Stmt := inClass (top 23) 19
abbrev s_System_close : Stmt := inClass (top 23) 20
abbrev s_System_pend : Stmt := inClass (top 23) 23
abbrev s_System_arrive : Stmt := inClass (top 23) 24
abbrev s_System_read : Stmt := inClass (top 23) 26
abbrev s_System_numbers : Stmt := inClass (top 23) 32
abbrev s_System_same : Stmt := inClass (top 23) 33
abbrev s_System_units : Stmt := inClass (top 23) 34
abbrev s_System_name : Stmt := inClass (top 23) 35
abbrev s_System_registrations : Stmt := inClass (top 23) 37
abbrev s_System___eq__ : Stmt := inClass (top 23) 44
abbrev s_System___len__ : Stmt := inClass (top 23) 45
abbrev s_System___contains__ : Stmt := inClass (top 23) 46
abbrev s_System___repr__ : Stmt := inClass (top 23) 47
abbrev s_picture_of : Stmt := top 24
abbrev s__law_bag : Stmt := top 26
abbrev s__law_take : Stmt := top 27
abbrev s__law_of : Stmt := top 28
abbrev s__law_outcome : Stmt := top 29
abbrev s__law_due : Stmt := top 30
abbrev s__law_shows : Stmt := top 31
abbrev s_law : Stmt := top 32
/-! ### what the walk asks of the top -/
structure Tx (K : PySem.W.Frag) (mg : Str → Option Value) : Prop where
  g_BadCount : mg "BadCount" = some (.ref (ga K "BadCount"))
  g_BadLimit : mg "BadLimit" = some (.ref (ga K "BadLimit"))
  g_Finished : mg "Finished" = some (.ref (ga K "Finished"))
  g_Full : mg "Full" = some (.ref (ga K "Full"))
  i_LEAST_NUMBERS : ∃ t, mg "LEAST_NUMBERS" = some (.int 3 t)
  i_LEAST_PROCESSES : ∃ t, mg "LEAST_PROCESSES" = some (.int 2 t)
  free_LookupError : mg "LookupError" = none
  i_MOST_COUNT : ∃ t, mg "MOST_COUNT" = some (.int 1000000 t)
  g_NoNumber : mg "NoNumber" = some (.ref (ga K "NoNumber"))
  g_NoProcess : mg "NoProcess" = some (.ref (ga K "NoProcess"))
  g_NotASource : mg "NotASource" = some (.ref (ga K "NotASource"))
  g_NotOpen : mg "NotOpen" = some (.ref (ga K "NotOpen"))
  t_SET : ∃ t, mg "SET" = some (.str "set" t)
  t_SOURCE : ∃ t, mg "SOURCE" = some (.str "source" t)
  g_Source : mg "Source" = some (.ref (ga K "Source"))
  g_System : mg "System" = some (.ref (ga K "System"))
  g_WaitSet : mg "WaitSet" = some (.ref (ga K "WaitSet"))
  g__law_bag : mg "_law_bag" = some (.ref (ga K "_law_bag"))
  g__law_due : mg "_law_due" = some (.ref (ga K "_law_due"))
  g__law_of : mg "_law_of" = some (.ref (ga K "_law_of"))
  g__law_outcome : mg "_law_outcome" = some (.ref (ga K "_law_outcome"))
  g__law_shows : mg "_law_shows" = some (.ref (ga K "_law_shows"))
  g__law_take : mg "_law_take" = some (.ref (ga K "_law_take"))
  free_abs : mg "abs" = none
  free_bool : mg "bool" = none
  free_enumerate : mg "enumerate" = none
  free_int : mg "int" = none
  g_is_between : mg "is_between" = some (.ref (ga K "is_between"))
  g_is_integer : mg "is_integer" = some (.ref (ga K "is_integer"))
  free_isinstance : mg "isinstance" = none
  g_law : mg "law" = some (.ref (ga K "law"))
  free_len : mg "len" = none
  free_list : mg "list" = none
  g_look_count : mg "look_count" = some (.ref (ga K "look_count"))
  free_max : mg "max" = none
  free_min : mg "min" = none
  g_picture_of : mg "picture_of" = some (.ref (ga K "picture_of"))
  free_range : mg "range" = none
  free_repr : mg "repr" = none
  free_sorted : mg "sorted" = none
  x_NoProcess : XT K "NoProcess" "LookupError" "LookupError.__new__" "LookupError.__init__" [.type "LookupError", .type "Exception", .type "BaseException", .type "object"] ["caption", "process"]
  o_NoProcess : PySem.W.mroIn K (ga K "NoProcess") (.type "object") = some true
  x_NotOpen : XT K "NotOpen" "LookupError" "LookupError.__new__" "LookupError.__init__" [.type "LookupError", .type "Exception", .type "BaseException", .type "object"] ["caption", "number"]
  o_NotOpen : PySem.W.mroIn K (ga K "NotOpen") (.type "object") = some true
  x_NoNumber : XT K "NoNumber" "LookupError" "LookupError.__new__" "LookupError.__init__" [.type "LookupError", .type "Exception", .type "BaseException", .type "object"] ["caption", "number"]
  o_NoNumber : PySem.W.mroIn K (ga K "NoNumber") (.type "object") = some true
  x_NotASource : XT K "NotASource" "TypeError" "TypeError.__new__" "TypeError.__init__" [.type "TypeError", .type "Exception", .type "BaseException", .type "object"] ["caption", "number"]
  o_NotASource : PySem.W.mroIn K (ga K "NotASource") (.type "object") = some true
  x_BadCount : XT K "BadCount" "ValueError" "ValueError.__new__" "ValueError.__init__" [.type "ValueError", .type "Exception", .type "BaseException", .type "object"] ["caption", "count"]
  o_BadCount : PySem.W.mroIn K (ga K "BadCount") (.type "object") = some true
  x_BadLimit : XT K "BadLimit" "ValueError" "ValueError.__new__" "ValueError.__init__" [.type "ValueError", .type "Exception", .type "BaseException", .type "object"] ["caption", "limit"]
  o_BadLimit : PySem.W.mroIn K (ga K "BadLimit") (.type "object") = some true
  x_Full : XT K "Full" "OverflowError" "OverflowError.__new__" "OverflowError.__init__" [.type "OverflowError", .type "ArithmeticError", .type "Exception", .type "BaseException", .type "object"] ["caption", "process"]
  o_Full : PySem.W.mroIn K (ga K "Full") (.type "object") = some true
  x_Finished : XT K "Finished" "RuntimeError" "RuntimeError.__new__" "RuntimeError.__init__" [.type "RuntimeError", .type "Exception", .type "BaseException", .type "object"] ["caption", "number"]
  o_Finished : PySem.W.mroIn K (ga K "Finished") (.type "object") = some true
  c_Source : Cls K (ga K "Source")
  ci_Source : PySem.W.findIn K (.ref (ga K "Source")) "__class__" = some (some (.builtin "object.__class__"))
  o_Source : PySem.W.mroIn K (ga K "Source") (.type "object") = some true
  n_Source_unread : NoAttr K (ga K "Source") "unread"
  n_Source_finished : NoAttr K (ga K "Source") "finished"
  k_Source : Mk K (ga K "Source") (mA "Source" "__init__" K)
  c_WaitSet : Cls K (ga K "WaitSet")
  ci_WaitSet : PySem.W.findIn K (.ref (ga K "WaitSet")) "__class__" = some (some (.builtin "object.__class__"))
  o_WaitSet : PySem.W.mroIn K (ga K "WaitSet") (.type "object") = some true
  n_WaitSet_entries : NoAttr K (ga K "WaitSet") "entries"
  n_WaitSet_row : NoAttr K (ga K "WaitSet") "row"
  k_WaitSet : Mk K (ga K "WaitSet") (mA "WaitSet" "__init__" K)
  c_System : Cls K (ga K "System")
  ci_System : PySem.W.findIn K (.ref (ga K "System")) "__class__" = some (some (.builtin "object.__class__"))
  o_System : PySem.W.mroIn K (ga K "System") (.type "object") = some true
  n_System_process_limit : NoAttr K (ga K "System") "process_limit"
  n_System_number_limit : NoAttr K (ga K "System") "number_limit"
  n_System_tables : NoAttr K (ga K "System") "tables"
  n_System_things : NoAttr K (ga K "System") "things"
  n_System_serials_made : NoAttr K (ga K "System") "serials_made"
  k_System : Mk K (ga K "System") (mA "System" "__init__" K)
  v_System_MOST_PROCESSES : ClX.CRead K (ga K "System") (.type "type") ∧ ∃ u, ClX.CVal K (ga K "System") (.type "type") "MOST_PROCESSES" (Dv.v K (.int 6)) u
  v_System_MOST_NUMBERS : ClX.CRead K (ga K "System") (.type "type") ∧ ∃ u, ClX.CVal K (ga K "System") (.type "type") "MOST_NUMBERS" (Dv.v K (.int 8)) u
  p_Source_kind : PropOf K (ga K "Source") "kind" (mA "Source" "kind" K) (pA "Source" "kind" K)
  m_Source_taken : Meth K (ga K "Source") "taken" (mA "Source" "taken" K)
  p_WaitSet_kind : PropOf K (ga K "WaitSet") "kind" (mA "WaitSet" "kind" K) (pA "WaitSet" "kind" K)
  m_WaitSet_append_pending : Meth K (ga K "WaitSet") "append_pending" (mA "WaitSet" "append_pending" K)
  m_WaitSet_drop : Meth K (ga K "WaitSet") "drop" (mA "WaitSet" "drop" K)
  m_WaitSet_forget : Meth K (ga K "WaitSet") "forget" (mA "WaitSet" "forget" K)
  p_System_limits : PropOf K (ga K "System") "limits" (mA "System" "limits" K) (pA "System" "limits" K)
  m_System_alive : Meth K (ga K "System") "alive" (mA "System" "alive" K)
  m_System_table_of : Meth K (ga K "System") "table_of" (mA "System" "table_of" K)
  m_System_serial_at : Meth K (ga K "System") "serial_at" (mA "System" "serial_at" K)
  m_System_source_at : Meth K (ga K "System") "source_at" (mA "System" "source_at" K)
  m_System_holders : Meth K (ga K "System") "holders" (mA "System" "holders" K)
  m_System_name_of : Meth K (ga K "System") "name_of" (mA "System" "name_of" K)
  m_System_set_serials : Meth K (ga K "System") "set_serials" (mA "System" "set_serials" K)
  m_System_lowest_free : Meth K (ga K "System") "lowest_free" (mA "System" "lowest_free" K)
  m_System_placed : Meth K (ga K "System") "placed" (mA "System" "placed" K)
  m_System_new_source : Meth K (ga K "System") "new_source" (mA "System" "new_source" K)
  m_System_copy : Meth K (ga K "System") "copy" (mA "System" "copy" K)
  m_System_close : Meth K (ga K "System") "close" (mA "System" "close" K)
  m_System_pend : Meth K (ga K "System") "pend" (mA "System" "pend" K)
  m_System_arrive : Meth K (ga K "System") "arrive" (mA "System" "arrive" K)
  m_System_read : Meth K (ga K "System") "read" (mA "System" "read" K)
  m_System_numbers : Meth K (ga K "System") "numbers" (mA "System" "numbers" K)
  m_System_same : Meth K (ga K "System") "same" (mA "System" "same" K)
  m_System_units : Meth K (ga K "System") "units" (mA "System" "units" K)
  m_System_name : Meth K (ga K "System") "name" (mA "System" "name" K)
  m_System_registrations : Meth K (ga K "System") "registrations" (mA "System" "registrations" K)
  m_System___eq__ : Meth K (ga K "System") "__eq__" (mA "System" "__eq__" K)
  m_System___len__ : Meth K (ga K "System") "__len__" (mA "System" "__len__" K)
  m_System___contains__ : Meth K (ga K "System") "__contains__" (mA "System" "__contains__" K)
  m_System___repr__ : Meth K (ga K "System") "__repr__" (mA "System" "__repr__" K)
  bm_System_name_of : PySem.W.specialIn K (.ref (mA "System" "name_of" K)) "__get__" = some (some (.builtin "function.__get__")) ∧ PySem.W.takesIn K (.ref (mA "System" "name_of" K)) = some false ∧ PySem.W.fnIn K (mA "System" "name_of" K) = true
  q_NoProcess_LookupError : PySem.W.kitOne K (.ref (ga K "NoProcess")) (.type "LookupError") = some true
  q_NotOpen_LookupError : PySem.W.kitOne K (.ref (ga K "NotOpen")) (.type "LookupError") = some true
  q_NoNumber_LookupError : PySem.W.kitOne K (.ref (ga K "NoNumber")) (.type "LookupError") = some true
  q_NotASource_LookupError : PySem.W.kitOne K (.ref (ga K "NotASource")) (.type "LookupError") = some false
  q_BadCount_LookupError : PySem.W.kitOne K (.ref (ga K "BadCount")) (.type "LookupError") = some false
  q_BadLimit_LookupError : PySem.W.kitOne K (.ref (ga K "BadLimit")) (.type "LookupError") = some false
  q_Full_LookupError : PySem.W.kitOne K (.ref (ga K "Full")) (.type "LookupError") = some false
  q_Finished_LookupError : PySem.W.kitOne K (.ref (ga K "Finished")) (.type "LookupError") = some false
  q_Source_Source : PySem.W.kitOne K (.ref (ga K "Source")) (.ref (ga K "Source")) = some true
  q_WaitSet_Source : PySem.W.kitOne K (.ref (ga K "WaitSet")) (.ref (ga K "Source")) = some false
  q_System_Source : PySem.W.kitOne K (.ref (ga K "System")) (.ref (ga K "Source")) = some false
  q_Source_System : PySem.W.kitOne K (.ref (ga K "Source")) (.ref (ga K "System")) = some false
  q_WaitSet_System : PySem.W.kitOne K (.ref (ga K "WaitSet")) (.ref (ga K "System")) = some false
  q_System_System : PySem.W.kitOne K (.ref (ga K "System")) (.ref (ga K "System")) = some true
  q_Source_WaitSet : PySem.W.kitOne K (.ref (ga K "Source")) (.ref (ga K "WaitSet")) = some false
  q_WaitSet_WaitSet : PySem.W.kitOne K (.ref (ga K "WaitSet")) (.ref (ga K "WaitSet")) = some true
  q_System_WaitSet : PySem.W.kitOne K (.ref (ga K "System")) (.ref (ga K "WaitSet")) = some false
  e_NoProcess_NoNumber : PySem.W.exmOne K (.ref (ga K "NoProcess")) (.ref (ga K "NoNumber")) = some false
  e_NotOpen_NoNumber : PySem.W.exmOne K (.ref (ga K "NotOpen")) (.ref (ga K "NoNumber")) = some false
  e_NoNumber_NoNumber : PySem.W.exmOne K (.ref (ga K "NoNumber")) (.ref (ga K "NoNumber")) = some true
  e_NotASource_NoNumber : PySem.W.exmOne K (.ref (ga K "NotASource")) (.ref (ga K "NoNumber")) = some false
  e_BadCount_NoNumber : PySem.W.exmOne K (.ref (ga K "BadCount")) (.ref (ga K "NoNumber")) = some false
  e_BadLimit_NoNumber : PySem.W.exmOne K (.ref (ga K "BadLimit")) (.ref (ga K "NoNumber")) = some false
  e_Full_NoNumber : PySem.W.exmOne K (.ref (ga K "Full")) (.ref (ga K "NoNumber")) = some false
  e_Finished_NoNumber : PySem.W.exmOne K (.ref (ga K "Finished")) (.ref (ga K "NoNumber")) = some false
  e_NoProcess_NotOpen : PySem.W.exmOne K (.ref (ga K "NoProcess")) (.ref (ga K "NotOpen")) = some false
  e_NotOpen_NotOpen : PySem.W.exmOne K (.ref (ga K "NotOpen")) (.ref (ga K "NotOpen")) = some true
  e_NoNumber_NotOpen : PySem.W.exmOne K (.ref (ga K "NoNumber")) (.ref (ga K "NotOpen")) = some false
  e_NotASource_NotOpen : PySem.W.exmOne K (.ref (ga K "NotASource")) (.ref (ga K "NotOpen")) = some false
  e_BadCount_NotOpen : PySem.W.exmOne K (.ref (ga K "BadCount")) (.ref (ga K "NotOpen")) = some false
  e_BadLimit_NotOpen : PySem.W.exmOne K (.ref (ga K "BadLimit")) (.ref (ga K "NotOpen")) = some false
  e_Full_NotOpen : PySem.W.exmOne K (.ref (ga K "Full")) (.ref (ga K "NotOpen")) = some false
  e_Finished_NotOpen : PySem.W.exmOne K (.ref (ga K "Finished")) (.ref (ga K "NotOpen")) = some false
  f_NoProcess___init__ : FD K "__init__" "NoProcess.__init__" s_NoProcess___init__ [] [] (mA "NoProcess" "__init__" K)
  f_NotOpen___init__ : FD K "__init__" "NotOpen.__init__" s_NotOpen___init__ [] [] (mA "NotOpen" "__init__" K)
  f_NoNumber___init__ : FD K "__init__" "NoNumber.__init__" s_NoNumber___init__ [] [] (mA "NoNumber" "__init__" K)
  f_NotASource___init__ : FD K "__init__" "NotASource.__init__" s_NotASource___init__ [] [] (mA "NotASource" "__init__" K)
  f_BadCount___init__ : FD K "__init__" "BadCount.__init__" s_BadCount___init__ [] [] (mA "BadCount" "__init__" K)
  f_BadLimit___init__ : FD K "__init__" "BadLimit.__init__" s_BadLimit___init__ [] [] (mA "BadLimit" "__init__" K)
  f_Full___init__ : FD K "__init__" "Full.__init__" s_Full___init__ [] [] (mA "Full" "__init__" K)
  f_Finished___init__ : FD K "__init__" "Finished.__init__" s_Finished___init__ [] [] (mA "Finished" "__init__" K)
  f_is_integer : FD K "is_integer" "is_integer" s_is_integer [] [] (gA "is_integer" K)
  f_is_between : FD K "is_between" "is_between" s_is_between [] [] (gA "is_between" K)
  f_Source___init__ : FD K "__init__" "Source.__init__" s_Source___init__ [.int 0, .bl false] [] (mA "Source" "__init__" K)
  f_Source_kind : FD K "kind" "Source.kind" s_Source_kind [] [] (pA "Source" "kind" K)
  f_Source_taken : FD K "taken" "Source.taken" s_Source_taken [] [] (mA "Source" "taken" K)
  f_WaitSet___init__ : FD K "__init__" "WaitSet.__init__" s_WaitSet___init__ [] [] (mA "WaitSet" "__init__" K)
  f_WaitSet_kind : FD K "kind" "WaitSet.kind" s_WaitSet_kind [] [] (pA "WaitSet" "kind" K)
  f_WaitSet_append_pending : FD K "append_pending" "WaitSet.append_pending" s_WaitSet_append_pending [] [] (mA "WaitSet" "append_pending" K)
  f_WaitSet_drop : FD K "drop" "WaitSet.drop" s_WaitSet_drop [] [] (mA "WaitSet" "drop" K)
  f_WaitSet_forget : FD K "forget" "WaitSet.forget" s_WaitSet_forget [] [] (mA "WaitSet" "forget" K)
  f_look_count : FD K "look_count" "look_count" s_look_count [] [] (gA "look_count" K)
  f_System___init__ : FD K "__init__" "System.__init__" s_System___init__ [] [("processes", .int 4), ("numbers", .int 8)] (mA "System" "__init__" K)
  f_System_limits : FD K "limits" "System.limits" s_System_limits [] [] (pA "System" "limits" K)
  f_System_alive : FD K "alive" "System.alive" s_System_alive [] [] (mA "System" "alive" K)
  f_System_table_of : FD K "table_of" "System.table_of" s_System_table_of [] [] (mA "System" "table_of" K)
  f_System_serial_at : FD K "serial_at" "System.serial_at" s_System_serial_at [] [] (mA "System" "serial_at" K)
  f_System_source_at : FD K "source_at" "System.source_at" s_System_source_at [] [] (mA "System" "source_at" K)
  f_System_holders : FD K "holders" "System.holders" s_System_holders [] [] (mA "System" "holders" K)
  f_System_name_of : FD K "name_of" "System.name_of" s_System_name_of [] [] (mA "System" "name_of" K)
  f_System_set_serials : FD K "set_serials" "System.set_serials" s_System_set_serials [] [] (mA "System" "set_serials" K)
  f_System_lowest_free : FD K "lowest_free" "System.lowest_free" s_System_lowest_free [] [] (mA "System" "lowest_free" K)
  f_System_placed : FD K "placed" "System.placed" s_System_placed [] [] (mA "System" "placed" K)
  f_System_new_source : FD K "new_source" "System.new_source" s_System_new_source [] [] (mA "System" "new_source" K)
  f_System_copy : FD K "copy" "System.copy" s_System_copy [.non] [] (mA "System" "copy" K)
  f_System_close : FD K "close" "System.close" s_System_close [] [] (mA "System" "close" K)
  f_System_pend : FD K "pend" "System.pend" s_System_pend [] [] (mA "System" "pend" K)
  f_System_arrive : FD K "arrive" "System.arrive" s_System_arrive [.int 1] [] (mA "System" "arrive" K)
  f_System_read : FD K "read" "System.read" s_System_read [.non] [] (mA "System" "read" K)
  f_System_numbers : FD K "numbers" "System.numbers" s_System_numbers [] [] (mA "System" "numbers" K)
  f_System_same : FD K "same" "System.same" s_System_same [] [] (mA "System" "same" K)
  f_System_units : FD K "units" "System.units" s_System_units [] [] (mA "System" "units" K)
  f_System_name : FD K "name" "System.name" s_System_name [] [] (mA "System" "name" K)
  f_System_registrations : FD K "registrations" "System.registrations" s_System_registrations [] [] (mA "System" "registrations" K)
  f_System___eq__ : FD K "__eq__" "System.__eq__" s_System___eq__ [] [] (mA "System" "__eq__" K)
  f_System___len__ : FD K "__len__" "System.__len__" s_System___len__ [] [] (mA "System" "__len__" K)
  f_System___contains__ : FD K "__contains__" "System.__contains__" s_System___contains__ [] [] (mA "System" "__contains__" K)
  f_System___repr__ : FD K "__repr__" "System.__repr__" s_System___repr__ [] [] (mA "System" "__repr__" K)
  f_picture_of : FD K "picture_of" "picture_of" s_picture_of [] [] (gA "picture_of" K)
  f__law_bag : FD K "_law_bag" "_law_bag" s__law_bag [] [] (gA "_law_bag" K)
  f__law_take : FD K "_law_take" "_law_take" s__law_take [] [] (gA "_law_take" K)
  f__law_of : FD K "_law_of" "_law_of" s__law_of [] [] (gA "_law_of" K)
  f__law_outcome : FD K "_law_outcome" "_law_outcome" s__law_outcome [] [] (gA "_law_outcome" K)
  f__law_due : FD K "_law_due" "_law_due" s__law_due [] [] (gA "_law_due" K)
  f__law_shows : FD K "_law_shows" "_law_shows" s__law_shows [] [] (gA "_law_shows" K)
  f_law : FD K "law" "law" s_law [] [] (gA "law" K)
def fcL : List Fc := [
  .fa (.glo "BadCount"),
  .fa (.glo "BadLimit"),
  .fa (.glo "Finished"),
  .fa (.glo "Full"),
  .fa (.int "LEAST_NUMBERS" 3),
  .fa (.int "LEAST_PROCESSES" 2),
  .fa (.free "LookupError"),
  .fa (.int "MOST_COUNT" 1000000),
  .fa (.glo "NoNumber"),
  .fa (.glo "NoProcess"),
  .fa (.glo "NotASource"),
  .fa (.glo "NotOpen"),
  .fa (.str "SET" "set"),
  .fa (.str "SOURCE" "source"),
  .fa (.glo "Source"),
  .fa (.glo "System"),
  .fa (.glo "WaitSet"),
  .fa (.glo "_law_bag"),
  .fa (.glo "_law_due"),
  .fa (.glo "_law_of"),
  .fa (.glo "_law_outcome"),
  .fa (.glo "_law_shows"),
  .fa (.glo "_law_take"),
  .fa (.free "abs"),
  .fa (.free "bool"),
  .fa (.free "enumerate"),
  .fa (.free "int"),
  .fa (.glo "is_between"),
  .fa (.glo "is_integer"),
  .fa (.free "isinstance"),
  .fa (.glo "law"),
  .fa (.free "len"),
  .fa (.free "list"),
  .fa (.glo "look_count"),
  .fa (.free "max"),
  .fa (.free "min"),
  .fa (.glo "picture_of"),
  .fa (.free "range"),
  .fa (.free "repr"),
  .fa (.free "sorted"),
  .exc "NoProcess" [.type "LookupError", .type "Exception", .type "BaseException", .type "object"] "LookupError.__new__" ["caption", "process"],
  .mro "NoProcess",
  .exc "NotOpen" [.type "LookupError", .type "Exception", .type "BaseException", .type "object"] "LookupError.__new__" ["caption", "number"],
  .mro "NotOpen",
  .exc "NoNumber" [.type "LookupError", .type "Exception", .type "BaseException", .type "object"] "LookupError.__new__" ["caption", "number"],
  .mro "NoNumber",
  .exc "NotASource" [.type "TypeError", .type "Exception", .type "BaseException", .type "object"] "TypeError.__new__" ["caption", "number"],
  .mro "NotASource",
  .exc "BadCount" [.type "ValueError", .type "Exception", .type "BaseException", .type "object"] "ValueError.__new__" ["caption", "count"],
  .mro "BadCount",
  .exc "BadLimit" [.type "ValueError", .type "Exception", .type "BaseException", .type "object"] "ValueError.__new__" ["caption", "limit"],
  .mro "BadLimit",
  .exc "Full" [.type "OverflowError", .type "ArithmeticError", .type "Exception", .type "BaseException", .type "object"] "OverflowError.__new__" ["caption", "process"],
  .mro "Full",
  .exc "Finished" [.type "RuntimeError", .type "Exception", .type "BaseException", .type "object"] "RuntimeError.__new__" ["caption", "number"],
  .mro "Finished",
  .fa (.cls "Source"),
  .ins "Source",
  .mro "Source",
  .fa (.noat "Source" "unread"),
  .fa (.noat "Source" "finished"),
  .fa (.mkr "Source"),
  .fa (.cls "WaitSet"),
  .ins "WaitSet",
  .mro "WaitSet",
  .fa (.noat "WaitSet" "entries"),
  .fa (.noat "WaitSet" "row"),
  .fa (.mkr "WaitSet"),
  .fa (.cls "System"),
  .ins "System",
  .mro "System",
  .fa (.noat "System" "process_limit"),
  .fa (.noat "System" "number_limit"),
  .fa (.noat "System" "tables"),
  .fa (.noat "System" "things"),
  .fa (.noat "System" "serials_made"),
  .fa (.mkr "System"),
  .cval "System" "MOST_PROCESSES" (.int 6),
  .cval "System" "MOST_NUMBERS" (.int 8),
  .prop "Source" "kind",
  .fa (.meth "Source" "taken"),
  .prop "WaitSet" "kind",
  .fa (.meth "WaitSet" "append_pending"),
  .fa (.meth "WaitSet" "drop"),
  .fa (.meth "WaitSet" "forget"),
  .prop "System" "limits",
  .fa (.meth "System" "alive"),
  .fa (.meth "System" "table_of"),
  .fa (.meth "System" "serial_at"),
  .fa (.meth "System" "source_at"),
  .fa (.meth "System" "holders"),
  .fa (.meth "System" "name_of"),
  .fa (.meth "System" "set_serials"),
  .fa (.meth "System" "lowest_free"),
  .fa (.meth "System" "placed"),
  .fa (.meth "System" "new_source"),
  .fa (.meth "System" "copy"),
  .fa (.meth "System" "close"),
  .fa (.meth "System" "pend"),
  .fa (.meth "System" "arrive"),
  .fa (.meth "System" "read"),
  .fa (.meth "System" "numbers"),
  .fa (.meth "System" "same"),
  .fa (.meth "System" "units"),
  .fa (.meth "System" "name"),
  .fa (.meth "System" "registrations"),
  .fa (.meth "System" "__eq__"),
  .fa (.meth "System" "__len__"),
  .fa (.meth "System" "__contains__"),
  .fa (.meth "System" "__repr__"),
  .bmt "System" "name_of",
  .sub "NoProcess" "LookupError" true,
  .sub "NotOpen" "LookupError" true,
  .sub "NoNumber" "LookupError" true,
  .sub "NotASource" "LookupError" false,
  .sub "BadCount" "LookupError" false,
  .sub "BadLimit" "LookupError" false,
  .sub "Full" "LookupError" false,
  .sub "Finished" "LookupError" false,
  .isc "Source" "Source" true,
  .isc "WaitSet" "Source" false,
  .isc "System" "Source" false,
  .isc "Source" "System" false,
  .isc "WaitSet" "System" false,
  .isc "System" "System" true,
  .isc "Source" "WaitSet" false,
  .isc "WaitSet" "WaitSet" true,
  .isc "System" "WaitSet" false,
  .fa (.exm "NoProcess" "NoNumber" false),
  .fa (.exm "NotOpen" "NoNumber" false),
  .fa (.exm "NoNumber" "NoNumber" true),
  .fa (.exm "NotASource" "NoNumber" false),
  .fa (.exm "BadCount" "NoNumber" false),
  .fa (.exm "BadLimit" "NoNumber" false),
  .fa (.exm "Full" "NoNumber" false),
  .fa (.exm "Finished" "NoNumber" false),
  .fa (.exm "NoProcess" "NotOpen" false),
  .fa (.exm "NotOpen" "NotOpen" true),
  .fa (.exm "NoNumber" "NotOpen" false),
  .fa (.exm "NotASource" "NotOpen" false),
  .fa (.exm "BadCount" "NotOpen" false),
  .fa (.exm "BadLimit" "NotOpen" false),
  .fa (.exm "Full" "NotOpen" false),
  .fa (.exm "Finished" "NotOpen" false)]
def fwL : List DefW := [
  ⟨(mA "NoProcess" "__init__"), "__init__", "NoProcess.__init__", s_NoProcess___init__, [], []⟩,
  ⟨(mA "NotOpen" "__init__"), "__init__", "NotOpen.__init__", s_NotOpen___init__, [], []⟩,
  ⟨(mA "NoNumber" "__init__"), "__init__", "NoNumber.__init__", s_NoNumber___init__, [], []⟩,
  ⟨(mA "NotASource" "__init__"), "__init__", "NotASource.__init__", s_NotASource___init__, [], []⟩,
  ⟨(mA "BadCount" "__init__"), "__init__", "BadCount.__init__", s_BadCount___init__, [], []⟩,
  ⟨(mA "BadLimit" "__init__"), "__init__", "BadLimit.__init__", s_BadLimit___init__, [], []⟩,
  ⟨(mA "Full" "__init__"), "__init__", "Full.__init__", s_Full___init__, [], []⟩,
  ⟨(mA "Finished" "__init__"), "__init__", "Finished.__init__", s_Finished___init__, [], []⟩,
  ⟨(gA "is_integer"), "is_integer", "is_integer", s_is_integer, [], []⟩,
  ⟨(gA "is_between"), "is_between", "is_between", s_is_between, [], []⟩,
  ⟨(mA "Source" "__init__"), "__init__", "Source.__init__", s_Source___init__, [.int 0, .bl false], []⟩,
  ⟨(pA "Source" "kind"), "kind", "Source.kind", s_Source_kind, [], []⟩,
  ⟨(mA "Source" "taken"), "taken", "Source.taken", s_Source_taken, [], []⟩,
  ⟨(mA "WaitSet" "__init__"), "__init__", "WaitSet.__init__", s_WaitSet___init__, [], []⟩,
  ⟨(pA "WaitSet" "kind"), "kind", "WaitSet.kind", s_WaitSet_kind, [], []⟩,
  ⟨(mA "WaitSet" "append_pending"), "append_pending", "WaitSet.append_pending", s_WaitSet_append_pending, [], []⟩,
  ⟨(mA "WaitSet" "drop"), "drop", "WaitSet.drop", s_WaitSet_drop, [], []⟩,
  ⟨(mA "WaitSet" "forget"), "forget", "WaitSet.forget", s_WaitSet_forget, [], []⟩,
  ⟨(gA "look_count"), "look_count", "look_count", s_look_count, [], []⟩,
  ⟨(mA "System" "__init__"), "__init__", "System.__init__", s_System___init__, [], [("processes", .int 4), ("numbers", .int 8)]⟩,
  ⟨(pA "System" "limits"), "limits", "System.limits", s_System_limits, [], []⟩,
  ⟨(mA "System" "alive"), "alive", "System.alive", s_System_alive, [], []⟩,
  ⟨(mA "System" "table_of"), "table_of", "System.table_of", s_System_table_of, [], []⟩,
  ⟨(mA "System" "serial_at"), "serial_at", "System.serial_at", s_System_serial_at, [], []⟩,
  ⟨(mA "System" "source_at"), "source_at", "System.source_at", s_System_source_at, [], []⟩,
  ⟨(mA "System" "holders"), "holders", "System.holders", s_System_holders, [], []⟩,
  ⟨(mA "System" "name_of"), "name_of", "System.name_of", s_System_name_of, [], []⟩,
  ⟨(mA "System" "set_serials"), "set_serials", "System.set_serials", s_System_set_serials, [], []⟩,
  ⟨(mA "System" "lowest_free"), "lowest_free", "System.lowest_free", s_System_lowest_free, [], []⟩,
  ⟨(mA "System" "placed"), "placed", "System.placed", s_System_placed, [], []⟩,
  ⟨(mA "System" "new_source"), "new_source", "System.new_source", s_System_new_source, [], []⟩,
  ⟨(mA "System" "copy"), "copy", "System.copy", s_System_copy, [.non], []⟩,
  ⟨(mA "System" "close"), "close", "System.close", s_System_close, [], []⟩,
  ⟨(mA "System" "pend"), "pend", "System.pend", s_System_pend, [], []⟩,
  ⟨(mA "System" "arrive"), "arrive", "System.arrive", s_System_arrive, [.int 1], []⟩,
  ⟨(mA "System" "read"), "read", "System.read", s_System_read, [.non], []⟩,
  ⟨(mA "System" "numbers"), "numbers", "System.numbers", s_System_numbers, [], []⟩,
  ⟨(mA "System" "same"), "same", "System.same", s_System_same, [], []⟩,
  ⟨(mA "System" "units"), "units", "System.units", s_System_units, [], []⟩,
  ⟨(mA "System" "name"), "name", "System.name", s_System_name, [], []⟩,
  ⟨(mA "System" "registrations"), "registrations", "System.registrations", s_System_registrations, [], []⟩,
  ⟨(mA "System" "__eq__"), "__eq__", "System.__eq__", s_System___eq__, [], []⟩,
  ⟨(mA "System" "__len__"), "__len__", "System.__len__", s_System___len__, [], []⟩,
  ⟨(mA "System" "__contains__"), "__contains__", "System.__contains__", s_System___contains__, [], []⟩,
  ⟨(mA "System" "__repr__"), "__repr__", "System.__repr__", s_System___repr__, [], []⟩,
  ⟨(gA "picture_of"), "picture_of", "picture_of", s_picture_of, [], []⟩,
  ⟨(gA "_law_bag"), "_law_bag", "_law_bag", s__law_bag, [], []⟩,
  ⟨(gA "_law_take"), "_law_take", "_law_take", s__law_take, [], []⟩,
  ⟨(gA "_law_of"), "_law_of", "_law_of", s__law_of, [], []⟩,
  ⟨(gA "_law_outcome"), "_law_outcome", "_law_outcome", s__law_outcome, [], []⟩,
  ⟨(gA "_law_due"), "_law_due", "_law_due", s__law_due, [], []⟩,
  ⟨(gA "_law_shows"), "_law_shows", "_law_shows", s__law_shows, [], []⟩,
  ⟨(gA "law"), "law", "law", s_law, [], []⟩]
def tsL : List Tab := []
def tfL : List Defn := [("law", none)]
theorem tx_of {K : PySem.W.Frag} {mg : Str → Option Value} {w : World} {h : Heap} (X : K.In h) (G : h.Ns mainGlobals mg) (c : SaysW fcL fwL tsL tfL w h K) : Tx K mg where
  g_BadCount := glo_ok X G (c.fact 0 (f := .fa (.glo "BadCount")))
  g_BadLimit := glo_ok X G (c.fact 1 (f := .fa (.glo "BadLimit")))
  g_Finished := glo_ok X G (c.fact 2 (f := .fa (.glo "Finished")))
  g_Full := glo_ok X G (c.fact 3 (f := .fa (.glo "Full")))
  i_LEAST_NUMBERS := int_ok X G (c.fact 4 (f := .fa (.int "LEAST_NUMBERS" 3)))
  i_LEAST_PROCESSES := int_ok X G (c.fact 5 (f := .fa (.int "LEAST_PROCESSES" 2)))
  free_LookupError := free_ok X G (c.fact 6 (f := .fa (.free "LookupError")))
  i_MOST_COUNT := int_ok X G (c.fact 7 (f := .fa (.int "MOST_COUNT" 1000000)))
  g_NoNumber := glo_ok X G (c.fact 8 (f := .fa (.glo "NoNumber")))
  g_NoProcess := glo_ok X G (c.fact 9 (f := .fa (.glo "NoProcess")))
  g_NotASource := glo_ok X G (c.fact 10 (f := .fa (.glo "NotASource")))
  g_NotOpen := glo_ok X G (c.fact 11 (f := .fa (.glo "NotOpen")))
  t_SET := str_ok X G (c.fact 12 (f := .fa (.str "SET" "set")))
  t_SOURCE := str_ok X G (c.fact 13 (f := .fa (.str "SOURCE" "source")))
  g_Source := glo_ok X G (c.fact 14 (f := .fa (.glo "Source")))
  g_System := glo_ok X G (c.fact 15 (f := .fa (.glo "System")))
  g_WaitSet := glo_ok X G (c.fact 16 (f := .fa (.glo "WaitSet")))
  g__law_bag := glo_ok X G (c.fact 17 (f := .fa (.glo "_law_bag")))
  g__law_due := glo_ok X G (c.fact 18 (f := .fa (.glo "_law_due")))
  g__law_of := glo_ok X G (c.fact 19 (f := .fa (.glo "_law_of")))
  g__law_outcome := glo_ok X G (c.fact 20 (f := .fa (.glo "_law_outcome")))
  g__law_shows := glo_ok X G (c.fact 21 (f := .fa (.glo "_law_shows")))
  g__law_take := glo_ok X G (c.fact 22 (f := .fa (.glo "_law_take")))
  free_abs := free_ok X G (c.fact 23 (f := .fa (.free "abs")))
  free_bool := free_ok X G (c.fact 24 (f := .fa (.free "bool")))
  free_enumerate := free_ok X G (c.fact 25 (f := .fa (.free "enumerate")))
  free_int := free_ok X G (c.fact 26 (f := .fa (.free "int")))
  g_is_between := glo_ok X G (c.fact 27 (f := .fa (.glo "is_between")))
  g_is_integer := glo_ok X G (c.fact 28 (f := .fa (.glo "is_integer")))
  free_isinstance := free_ok X G (c.fact 29 (f := .fa (.free "isinstance")))
  g_law := glo_ok X G (c.fact 30 (f := .fa (.glo "law")))
  free_len := free_ok X G (c.fact 31 (f := .fa (.free "len")))
  free_list := free_ok X G (c.fact 32 (f := .fa (.free "list")))
  g_look_count := glo_ok X G (c.fact 33 (f := .fa (.glo "look_count")))
  free_max := free_ok X G (c.fact 34 (f := .fa (.free "max")))
  free_min := free_ok X G (c.fact 35 (f := .fa (.free "min")))
  g_picture_of := glo_ok X G (c.fact 36 (f := .fa (.glo "picture_of")))
  free_range := free_ok X G (c.fact 37 (f := .fa (.free "range")))
  free_repr := free_ok X G (c.fact 38 (f := .fa (.free "repr")))
  free_sorted := free_ok X G (c.fact 39 (f := .fa (.free "sorted")))
  x_NoProcess := exc_okW PySem.F.excBase_LookupError PySem.F.store_LookupError (c.fact 40 (f := .exc "NoProcess" [.type "LookupError", .type "Exception", .type "BaseException", .type "object"] "LookupError.__new__" ["caption", "process"]))
  o_NoProcess := of_decide_eq_true (c.fact 41 (f := .mro "NoProcess"))
  x_NotOpen := exc_okW PySem.F.excBase_LookupError PySem.F.store_LookupError (c.fact 42 (f := .exc "NotOpen" [.type "LookupError", .type "Exception", .type "BaseException", .type "object"] "LookupError.__new__" ["caption", "number"]))
  o_NotOpen := of_decide_eq_true (c.fact 43 (f := .mro "NotOpen"))
  x_NoNumber := exc_okW PySem.F.excBase_LookupError PySem.F.store_LookupError (c.fact 44 (f := .exc "NoNumber" [.type "LookupError", .type "Exception", .type "BaseException", .type "object"] "LookupError.__new__" ["caption", "number"]))
  o_NoNumber := of_decide_eq_true (c.fact 45 (f := .mro "NoNumber"))
  x_NotASource := exc_okW PySem.F.excBase_TypeError PySem.F.store_TypeError (c.fact 46 (f := .exc "NotASource" [.type "TypeError", .type "Exception", .type "BaseException", .type "object"] "TypeError.__new__" ["caption", "number"]))
  o_NotASource := of_decide_eq_true (c.fact 47 (f := .mro "NotASource"))
  x_BadCount := exc_okW PySem.F.excBase_ValueError PySem.F.store_ValueError (c.fact 48 (f := .exc "BadCount" [.type "ValueError", .type "Exception", .type "BaseException", .type "object"] "ValueError.__new__" ["caption", "count"]))
  o_BadCount := of_decide_eq_true (c.fact 49 (f := .mro "BadCount"))
  x_BadLimit := exc_okW PySem.F.excBase_ValueError PySem.F.store_ValueError (c.fact 50 (f := .exc "BadLimit" [.type "ValueError", .type "Exception", .type "BaseException", .type "object"] "ValueError.__new__" ["caption", "limit"]))
  o_BadLimit := of_decide_eq_true (c.fact 51 (f := .mro "BadLimit"))
  x_Full := exc_okW PySem.F.excBase_OverflowError PySem.F.store_OverflowError (c.fact 52 (f := .exc "Full" [.type "OverflowError", .type "ArithmeticError", .type "Exception", .type "BaseException", .type "object"] "OverflowError.__new__" ["caption", "process"]))
  o_Full := of_decide_eq_true (c.fact 53 (f := .mro "Full"))
  x_Finished := exc_okW PySem.F.excBase_RuntimeError PySem.F.store_RuntimeError (c.fact 54 (f := .exc "Finished" [.type "RuntimeError", .type "Exception", .type "BaseException", .type "object"] "RuntimeError.__new__" ["caption", "number"]))
  o_Finished := of_decide_eq_true (c.fact 55 (f := .mro "Finished"))
  c_Source := cls_ok (c.fact 56 (f := .fa (.cls "Source")))
  ci_Source := eqO_ok (c.fact 57 (f := .ins "Source"))
  o_Source := of_decide_eq_true (c.fact 58 (f := .mro "Source"))
  n_Source_unread := noat_ok (c.fact 59 (f := .fa (.noat "Source" "unread")))
  n_Source_finished := noat_ok (c.fact 60 (f := .fa (.noat "Source" "finished")))
  k_Source := mkr_ok (c.fact 61 (f := .fa (.mkr "Source")))
  c_WaitSet := cls_ok (c.fact 62 (f := .fa (.cls "WaitSet")))
  ci_WaitSet := eqO_ok (c.fact 63 (f := .ins "WaitSet"))
  o_WaitSet := of_decide_eq_true (c.fact 64 (f := .mro "WaitSet"))
  n_WaitSet_entries := noat_ok (c.fact 65 (f := .fa (.noat "WaitSet" "entries")))
  n_WaitSet_row := noat_ok (c.fact 66 (f := .fa (.noat "WaitSet" "row")))
  k_WaitSet := mkr_ok (c.fact 67 (f := .fa (.mkr "WaitSet")))
  c_System := cls_ok (c.fact 68 (f := .fa (.cls "System")))
  ci_System := eqO_ok (c.fact 69 (f := .ins "System"))
  o_System := of_decide_eq_true (c.fact 70 (f := .mro "System"))
  n_System_process_limit := noat_ok (c.fact 71 (f := .fa (.noat "System" "process_limit")))
  n_System_number_limit := noat_ok (c.fact 72 (f := .fa (.noat "System" "number_limit")))
  n_System_tables := noat_ok (c.fact 73 (f := .fa (.noat "System" "tables")))
  n_System_things := noat_ok (c.fact 74 (f := .fa (.noat "System" "things")))
  n_System_serials_made := noat_ok (c.fact 75 (f := .fa (.noat "System" "serials_made")))
  k_System := mkr_ok (c.fact 76 (f := .fa (.mkr "System")))
  v_System_MOST_PROCESSES := cval_ok (c.fact 77 (f := .cval "System" "MOST_PROCESSES" (.int 6)))
  v_System_MOST_NUMBERS := cval_ok (c.fact 78 (f := .cval "System" "MOST_NUMBERS" (.int 8)))
  p_Source_kind := prop_ok (c.fact 79 (f := .prop "Source" "kind"))
  m_Source_taken := meth_ok (c.fact 80 (f := .fa (.meth "Source" "taken")))
  p_WaitSet_kind := prop_ok (c.fact 81 (f := .prop "WaitSet" "kind"))
  m_WaitSet_append_pending := meth_ok (c.fact 82 (f := .fa (.meth "WaitSet" "append_pending")))
  m_WaitSet_drop := meth_ok (c.fact 83 (f := .fa (.meth "WaitSet" "drop")))
  m_WaitSet_forget := meth_ok (c.fact 84 (f := .fa (.meth "WaitSet" "forget")))
  p_System_limits := prop_ok (c.fact 85 (f := .prop "System" "limits"))
  m_System_alive := meth_ok (c.fact 86 (f := .fa (.meth "System" "alive")))
  m_System_table_of := meth_ok (c.fact 87 (f := .fa (.meth "System" "table_of")))
  m_System_serial_at := meth_ok (c.fact 88 (f := .fa (.meth "System" "serial_at")))
  m_System_source_at := meth_ok (c.fact 89 (f := .fa (.meth "System" "source_at")))
  m_System_holders := meth_ok (c.fact 90 (f := .fa (.meth "System" "holders")))
  m_System_name_of := meth_ok (c.fact 91 (f := .fa (.meth "System" "name_of")))
  m_System_set_serials := meth_ok (c.fact 92 (f := .fa (.meth "System" "set_serials")))
  m_System_lowest_free := meth_ok (c.fact 93 (f := .fa (.meth "System" "lowest_free")))
  m_System_placed := meth_ok (c.fact 94 (f := .fa (.meth "System" "placed")))
  m_System_new_source := meth_ok (c.fact 95 (f := .fa (.meth "System" "new_source")))
  m_System_copy := meth_ok (c.fact 96 (f := .fa (.meth "System" "copy")))
  m_System_close := meth_ok (c.fact 97 (f := .fa (.meth "System" "close")))
  m_System_pend := meth_ok (c.fact 98 (f := .fa (.meth "System" "pend")))
  m_System_arrive := meth_ok (c.fact 99 (f := .fa (.meth "System" "arrive")))
  m_System_read := meth_ok (c.fact 100 (f := .fa (.meth "System" "read")))
  m_System_numbers := meth_ok (c.fact 101 (f := .fa (.meth "System" "numbers")))
  m_System_same := meth_ok (c.fact 102 (f := .fa (.meth "System" "same")))
  m_System_units := meth_ok (c.fact 103 (f := .fa (.meth "System" "units")))
  m_System_name := meth_ok (c.fact 104 (f := .fa (.meth "System" "name")))
  m_System_registrations := meth_ok (c.fact 105 (f := .fa (.meth "System" "registrations")))
  m_System___eq__ := meth_ok (c.fact 106 (f := .fa (.meth "System" "__eq__")))
  m_System___len__ := meth_ok (c.fact 107 (f := .fa (.meth "System" "__len__")))
  m_System___contains__ := meth_ok (c.fact 108 (f := .fa (.meth "System" "__contains__")))
  m_System___repr__ := meth_ok (c.fact 109 (f := .fa (.meth "System" "__repr__")))
  bm_System_name_of := bm_ok (c.fact 110 (f := .bmt "System" "name_of"))
  q_NoProcess_LookupError := of_decide_eq_true (c.fact 111 (f := .sub "NoProcess" "LookupError" true))
  q_NotOpen_LookupError := of_decide_eq_true (c.fact 112 (f := .sub "NotOpen" "LookupError" true))
  q_NoNumber_LookupError := of_decide_eq_true (c.fact 113 (f := .sub "NoNumber" "LookupError" true))
  q_NotASource_LookupError := of_decide_eq_true (c.fact 114 (f := .sub "NotASource" "LookupError" false))
  q_BadCount_LookupError := of_decide_eq_true (c.fact 115 (f := .sub "BadCount" "LookupError" false))
  q_BadLimit_LookupError := of_decide_eq_true (c.fact 116 (f := .sub "BadLimit" "LookupError" false))
  q_Full_LookupError := of_decide_eq_true (c.fact 117 (f := .sub "Full" "LookupError" false))
  q_Finished_LookupError := of_decide_eq_true (c.fact 118 (f := .sub "Finished" "LookupError" false))
  q_Source_Source := of_decide_eq_true (c.fact 119 (f := .isc "Source" "Source" true))
  q_WaitSet_Source := of_decide_eq_true (c.fact 120 (f := .isc "WaitSet" "Source" false))
  q_System_Source := of_decide_eq_true (c.fact 121 (f := .isc "System" "Source" false))
  q_Source_System := of_decide_eq_true (c.fact 122 (f := .isc "Source" "System" false))
  q_WaitSet_System := of_decide_eq_true (c.fact 123 (f := .isc "WaitSet" "System" false))
  q_System_System := of_decide_eq_true (c.fact 124 (f := .isc "System" "System" true))
  q_Source_WaitSet := of_decide_eq_true (c.fact 125 (f := .isc "Source" "WaitSet" false))
  q_WaitSet_WaitSet := of_decide_eq_true (c.fact 126 (f := .isc "WaitSet" "WaitSet" true))
  q_System_WaitSet := of_decide_eq_true (c.fact 127 (f := .isc "System" "WaitSet" false))
  e_NoProcess_NoNumber := exm_ok (c.fact 128 (f := .fa (.exm "NoProcess" "NoNumber" false)))
  e_NotOpen_NoNumber := exm_ok (c.fact 129 (f := .fa (.exm "NotOpen" "NoNumber" false)))
  e_NoNumber_NoNumber := exm_ok (c.fact 130 (f := .fa (.exm "NoNumber" "NoNumber" true)))
  e_NotASource_NoNumber := exm_ok (c.fact 131 (f := .fa (.exm "NotASource" "NoNumber" false)))
  e_BadCount_NoNumber := exm_ok (c.fact 132 (f := .fa (.exm "BadCount" "NoNumber" false)))
  e_BadLimit_NoNumber := exm_ok (c.fact 133 (f := .fa (.exm "BadLimit" "NoNumber" false)))
  e_Full_NoNumber := exm_ok (c.fact 134 (f := .fa (.exm "Full" "NoNumber" false)))
  e_Finished_NoNumber := exm_ok (c.fact 135 (f := .fa (.exm "Finished" "NoNumber" false)))
  e_NoProcess_NotOpen := exm_ok (c.fact 136 (f := .fa (.exm "NoProcess" "NotOpen" false)))
  e_NotOpen_NotOpen := exm_ok (c.fact 137 (f := .fa (.exm "NotOpen" "NotOpen" true)))
  e_NoNumber_NotOpen := exm_ok (c.fact 138 (f := .fa (.exm "NoNumber" "NotOpen" false)))
  e_NotASource_NotOpen := exm_ok (c.fact 139 (f := .fa (.exm "NotASource" "NotOpen" false)))
  e_BadCount_NotOpen := exm_ok (c.fact 140 (f := .fa (.exm "BadCount" "NotOpen" false)))
  e_BadLimit_NotOpen := exm_ok (c.fact 141 (f := .fa (.exm "BadLimit" "NotOpen" false)))
  e_Full_NotOpen := exm_ok (c.fact 142 (f := .fa (.exm "Full" "NotOpen" false)))
  e_Finished_NotOpen := exm_ok (c.fact 143 (f := .fa (.exm "Finished" "NotOpen" false)))
  f_NoProcess___init__ := c.def_ 0 (d := ⟨(mA "NoProcess" "__init__"), "__init__", "NoProcess.__init__", s_NoProcess___init__, [], []⟩)
  f_NotOpen___init__ := c.def_ 1 (d := ⟨(mA "NotOpen" "__init__"), "__init__", "NotOpen.__init__", s_NotOpen___init__, [], []⟩)
  f_NoNumber___init__ := c.def_ 2 (d := ⟨(mA "NoNumber" "__init__"), "__init__", "NoNumber.__init__", s_NoNumber___init__, [], []⟩)
  f_NotASource___init__ := c.def_ 3 (d := ⟨(mA "NotASource" "__init__"), "__init__", "NotASource.__init__", s_NotASource___init__, [], []⟩)
  f_BadCount___init__ := c.def_ 4 (d := ⟨(mA "BadCount" "__init__"), "__init__", "BadCount.__init__", s_BadCount___init__, [], []⟩)
  f_BadLimit___init__ := c.def_ 5 (d := ⟨(mA "BadLimit" "__init__"), "__init__", "BadLimit.__init__", s_BadLimit___init__, [], []⟩)
  f_Full___init__ := c.def_ 6 (d := ⟨(mA "Full" "__init__"), "__init__", "Full.__init__", s_Full___init__, [], []⟩)
  f_Finished___init__ := c.def_ 7 (d := ⟨(mA "Finished" "__init__"), "__init__", "Finished.__init__", s_Finished___init__, [], []⟩)
  f_is_integer := c.def_ 8 (d := ⟨(gA "is_integer"), "is_integer", "is_integer", s_is_integer, [], []⟩)
  f_is_between := c.def_ 9 (d := ⟨(gA "is_between"), "is_between", "is_between", s_is_between, [], []⟩)
  f_Source___init__ := c.def_ 10 (d := ⟨(mA "Source" "__init__"), "__init__", "Source.__init__", s_Source___init__, [.int 0, .bl false], []⟩)
  f_Source_kind := c.def_ 11 (d := ⟨(pA "Source" "kind"), "kind", "Source.kind", s_Source_kind, [], []⟩)
  f_Source_taken := c.def_ 12 (d := ⟨(mA "Source" "taken"), "taken", "Source.taken", s_Source_taken, [], []⟩)
  f_WaitSet___init__ := c.def_ 13 (d := ⟨(mA "WaitSet" "__init__"), "__init__", "WaitSet.__init__", s_WaitSet___init__, [], []⟩)
  f_WaitSet_kind := c.def_ 14 (d := ⟨(pA "WaitSet" "kind"), "kind", "WaitSet.kind", s_WaitSet_kind, [], []⟩)
  f_WaitSet_append_pending := c.def_ 15 (d := ⟨(mA "WaitSet" "append_pending"), "append_pending", "WaitSet.append_pending", s_WaitSet_append_pending, [], []⟩)
  f_WaitSet_drop := c.def_ 16 (d := ⟨(mA "WaitSet" "drop"), "drop", "WaitSet.drop", s_WaitSet_drop, [], []⟩)
  f_WaitSet_forget := c.def_ 17 (d := ⟨(mA "WaitSet" "forget"), "forget", "WaitSet.forget", s_WaitSet_forget, [], []⟩)
  f_look_count := c.def_ 18 (d := ⟨(gA "look_count"), "look_count", "look_count", s_look_count, [], []⟩)
  f_System___init__ := c.def_ 19 (d := ⟨(mA "System" "__init__"), "__init__", "System.__init__", s_System___init__, [], [("processes", .int 4), ("numbers", .int 8)]⟩)
  f_System_limits := c.def_ 20 (d := ⟨(pA "System" "limits"), "limits", "System.limits", s_System_limits, [], []⟩)
  f_System_alive := c.def_ 21 (d := ⟨(mA "System" "alive"), "alive", "System.alive", s_System_alive, [], []⟩)
  f_System_table_of := c.def_ 22 (d := ⟨(mA "System" "table_of"), "table_of", "System.table_of", s_System_table_of, [], []⟩)
  f_System_serial_at := c.def_ 23 (d := ⟨(mA "System" "serial_at"), "serial_at", "System.serial_at", s_System_serial_at, [], []⟩)
  f_System_source_at := c.def_ 24 (d := ⟨(mA "System" "source_at"), "source_at", "System.source_at", s_System_source_at, [], []⟩)
  f_System_holders := c.def_ 25 (d := ⟨(mA "System" "holders"), "holders", "System.holders", s_System_holders, [], []⟩)
  f_System_name_of := c.def_ 26 (d := ⟨(mA "System" "name_of"), "name_of", "System.name_of", s_System_name_of, [], []⟩)
  f_System_set_serials := c.def_ 27 (d := ⟨(mA "System" "set_serials"), "set_serials", "System.set_serials", s_System_set_serials, [], []⟩)
  f_System_lowest_free := c.def_ 28 (d := ⟨(mA "System" "lowest_free"), "lowest_free", "System.lowest_free", s_System_lowest_free, [], []⟩)
  f_System_placed := c.def_ 29 (d := ⟨(mA "System" "placed"), "placed", "System.placed", s_System_placed, [], []⟩)
  f_System_new_source := c.def_ 30 (d := ⟨(mA "System" "new_source"), "new_source", "System.new_source", s_System_new_source, [], []⟩)
  f_System_copy := c.def_ 31 (d := ⟨(mA "System" "copy"), "copy", "System.copy", s_System_copy, [.non], []⟩)
  f_System_close := c.def_ 32 (d := ⟨(mA "System" "close"), "close", "System.close", s_System_close, [], []⟩)
  f_System_pend := c.def_ 33 (d := ⟨(mA "System" "pend"), "pend", "System.pend", s_System_pend, [], []⟩)
  f_System_arrive := c.def_ 34 (d := ⟨(mA "System" "arrive"), "arrive", "System.arrive", s_System_arrive, [.int 1], []⟩)
  f_System_read := c.def_ 35 (d := ⟨(mA "System" "read"), "read", "System.read", s_System_read, [.non], []⟩)
  f_System_numbers := c.def_ 36 (d := ⟨(mA "System" "numbers"), "numbers", "System.numbers", s_System_numbers, [], []⟩)
  f_System_same := c.def_ 37 (d := ⟨(mA "System" "same"), "same", "System.same", s_System_same, [], []⟩)
  f_System_units := c.def_ 38 (d := ⟨(mA "System" "units"), "units", "System.units", s_System_units, [], []⟩)
  f_System_name := c.def_ 39 (d := ⟨(mA "System" "name"), "name", "System.name", s_System_name, [], []⟩)
  f_System_registrations := c.def_ 40 (d := ⟨(mA "System" "registrations"), "registrations", "System.registrations", s_System_registrations, [], []⟩)
  f_System___eq__ := c.def_ 41 (d := ⟨(mA "System" "__eq__"), "__eq__", "System.__eq__", s_System___eq__, [], []⟩)
  f_System___len__ := c.def_ 42 (d := ⟨(mA "System" "__len__"), "__len__", "System.__len__", s_System___len__, [], []⟩)
  f_System___contains__ := c.def_ 43 (d := ⟨(mA "System" "__contains__"), "__contains__", "System.__contains__", s_System___contains__, [], []⟩)
  f_System___repr__ := c.def_ 44 (d := ⟨(mA "System" "__repr__"), "__repr__", "System.__repr__", s_System___repr__, [], []⟩)
  f_picture_of := c.def_ 45 (d := ⟨(gA "picture_of"), "picture_of", "picture_of", s_picture_of, [], []⟩)
  f__law_bag := c.def_ 46 (d := ⟨(gA "_law_bag"), "_law_bag", "_law_bag", s__law_bag, [], []⟩)
  f__law_take := c.def_ 47 (d := ⟨(gA "_law_take"), "_law_take", "_law_take", s__law_take, [], []⟩)
  f__law_of := c.def_ 48 (d := ⟨(gA "_law_of"), "_law_of", "_law_of", s__law_of, [], []⟩)
  f__law_outcome := c.def_ 49 (d := ⟨(gA "_law_outcome"), "_law_outcome", "_law_outcome", s__law_outcome, [], []⟩)
  f__law_due := c.def_ 50 (d := ⟨(gA "_law_due"), "_law_due", "_law_due", s__law_due, [], []⟩)
  f__law_shows := c.def_ 51 (d := ⟨(gA "_law_shows"), "_law_shows", "_law_shows", s__law_shows, [], []⟩)
  f_law := c.def_ 52 (d := ⟨(gA "law"), "law", "law", s_law, [], []⟩)
section
variable {K : PySem.W.Frag} {mg : Str → Option Value}
theorem ent_of (T : Tx K mg) {α : Type} {es : List α} {x : α} (h : x ∈ es) (z : es.length ≤ mostE) : EntF K := by
  have : es = [] := List.length_eq_zero_iff.mp (Nat.le_zero.mp z)
  subst this
  cases h
end
/-! ### the head: the top is run -/
abbrev RwH : PySem.W.OpenRow := PySem.W.OpenLaw.row PySem.Challenge.rw_waitnumbers_k02_copies_onto_numbers
abbrev hk : PySem.W.Hook := hookW 6 fcL fwL tsL tfL
def obs (s : PySem.W.SharedT) : AlW := obsW 6 fcL fwL tsL tfL (HandSHeadRun.getT s)
theorem obs_eq (s : PySem.W.SharedT) : obs s = hk.obs s.abs := obsW_eq (HandSHeadRun.getT_eq s)
def loose0 : List Str := ["_wall", "__name__", "NoProcess", "NotOpen", "NoNumber", "NotASource", "BadCount", "BadLimit", "Full", "Finished", "SOURCE", "SET", "LEVEL", "is_integer", "is_between", "Source", "WaitSet", "LEAST_PROCESSES", "LEAST_NUMBERS", "MOST_COUNT", "look_count", "System", "picture_of", "_law_bag"]
def loose1 : List Str := ["_law_take", "_law_of", "_law_outcome", "_law_due", "_law_shows"]
def loose : List Str := loose0 ++ loose1
theorem run (w : World) : HandSHeadRun.RunEq RwH (PySem.W.view RwH.prog [32]) hk obs 20000 loose w := by
  intro os
  kernel_rfl
/-! ### is_integer, is_between -/
/-- an object as a value: None, a truth, a whole number, a text, a list or a tuple that is tracked -/
def Obj' (H : Hp) : V → Prop
  | .non => True
  | .bl _ => True
  | .int _ => True
  | .str _ => True
  | .ref a => (∃ xs, H a = some (.lst xs)) ∨ ∃ xs, H a = some (.tup xs)
  | _ => False
def isI : V → Bool
  | .int _ => true
  | _ => false
def betw (x : V) (lo hi : Int) : Bool := match x with
  | .int i => decide (lo ≤ i) && decide (i ≤ hi)
  | _ => false
theorem Obj'.same {H H' : Hp} (e : Same H H') : ∀ {x : V}, Obj' H x → Obj' H' x
  | .non, h => h
  | .bl _, h => h
  | .int _, h => h
  | .str _, h => h
  | .ref a, h => by
    rcases h with ⟨xs, h⟩ | ⟨xs, h⟩
    · exact .inl ⟨xs, e _ _ h⟩
    · exact .inr ⟨xs, e _ _ h⟩
  | .byt _, h => h.elim
  | .flt _, h => h.elim
  | .ty _, h => h.elim
/-- its type, and what isinstance tells of int, bool -/
theorem obj_ty {K : PySem.W.Frag} {H : Hp} : ∀ {x : V}, Obj' H x → ∃ (t : Value) (b c : Bool), TyX K H x t ∧ PySem.W.kitOne K t (.type "int") = some b ∧ PySem.W.kitOne K t (.type "bool") = some c ∧ (b && !c) = isI x
  | .non, _ => ⟨.type "NoneType", false, false, .base .non, kit_ty (by decide +kernel), kit_ty (by decide +kernel), rfl⟩
  | .bl y, _ => ⟨.type "bool", true, true, .base (.bl y), kit_ty (by decide +kernel), kit_ty (by decide +kernel), rfl⟩
  | .int i, _ => ⟨.type "int", true, false, .base (.int i), kit_ty (by decide +kernel), kit_ty (by decide +kernel), rfl⟩
  | .str y, _ => ⟨.type "str", false, false, .base (.str y), kit_ty (by decide +kernel), kit_ty (by decide +kernel), rfl⟩
  | .ref a, h => by
    rcases h with ⟨xs, h⟩ | ⟨xs, h⟩
    · exact ⟨.type "list", false, false, .base (.lst h), kit_ty (by decide +kernel), kit_ty (by decide +kernel), rfl⟩
    · exact ⟨.type "tuple", false, false, .base (.tup h), kit_ty (by decide +kernel), kit_ty (by decide +kernel), rfl⟩
  | .byt _, h => h.elim
  | .flt _, h => h.elim
  | .ty _, h => h.elim
def sp_is_integer : Sp := fun vs H Q _ => ∃ x, vs = [x] ∧ Obj' H x ∧ Q (.bl (isI x)) H
def sp_is_between : Sp := fun vs H Q _ => ∃ x lo hi, vs = [x, .int lo, .int hi] ∧ Obj' H x ∧ Q (.bl (betw x lo hi)) H
section
variable {P : Program} {w : World} {K : PySem.W.Frag} {mg : Str → Option Value} {base : Heap}
theorem sc_is_integer : FnScope ["thing"] ["thing"] (defScope s_is_integer) := ⟨rfl, rfl, rfl, by decide +kernel, rfl, by decide +kernel, by decide +kernel⟩
theorem ok_is_integer (T : Tx K mg) : FnOk P w K mg base CX0 1 (gA "is_integer" K) (fdAt K (gA "is_integer" K)) ["thing"] sp_is_integer := by
  refine FunD.ok T.f_is_integer sc_is_integer (fun vs H Q E h => ?_) (fun cdv A outer s H vs Q E hr h => ?_)
  · obtain ⟨x, rfl, _⟩ := h
    rfl
  · obtain ⟨x, rfl, hx, q⟩ := h
    refine ⟨_, PSs.nox (pss_one (ps_ret (pe_and (pe_callB call_isi (by rfl) T.free_isinstance (by decide +kernel) (pa_cons (pv 0) (pa_cons (pe_bltn (v := .ty "int") (by rfl) T.free_int (by decide +kernel) rfl) pa_nil)))
      (pe_one (pe_not (pe_callB call_isi (by rfl) T.free_isinstance (by decide +kernel) (pa_cons (pv 0) (pa_cons (pe_bltn (v := .ty "bool") (by rfl) T.free_bool (by decide +kernel) rfl) pa_nil)))))))), ?_⟩
    obtain ⟨t, b, c, ty, h1, h2, e⟩ := obj_ty (K := K) hx
    refine ⟨_, rfl, _, _, t, .type "int", b, rfl, .ty "int", ty, h1, b, rfl, ?_⟩
    cases b with
    | false =>
      refine iteF ?_
      rw [← e] at q
      exact q
    | true =>
      refine iteT ?_
      refine ⟨_, rfl, _, _, t, .type "bool", c, rfl, .ty "bool", ty, h2, c, rfl, ?_⟩
      rw [← e] at q
      exact q
theorem b_is_integer (T : Tx K mg) : Binds K (fdAt K (gA "is_integer" K)) ["thing"] [] := FunD.bindsN T.f_is_integer fun _ _ _ _ _ _ us hl => match us, hl with | [_], _ => rfl
theorem sc_is_between : FnScope ["thing", "low", "high"] ["thing", "low", "high"] (defScope s_is_between) := ⟨rfl, rfl, rfl, by decide +kernel, rfl, by decide +kernel, by decide +kernel⟩
theorem ok_is_between (T : Tx K mg) : FnOk P w K mg base CX0 2 (gA "is_between" K) (fdAt K (gA "is_between" K)) ["thing", "low", "high"] sp_is_between := by
  refine FunD.ok T.f_is_between sc_is_between (fun vs H Q E h => ?_) (fun cdv A outer s H vs Q E hr h => ?_)
  · obtain ⟨x, lo, hi, rfl, _⟩ := h
    rfl
  · obtain ⟨x, lo, hi, rfl, hx, q⟩ := h
    refine ⟨_, PSs.nox (pss_one (ps_ret (pe_and (pe_call (ok_is_integer T) hr (by rfl) T.g_is_integer T.f_is_integer.kp (b_is_integer T) .nil pass0 (pa_cons (pv 0) pa_nil))
      (pe_one (pe_chain op_le op_le (pv 1) (pv 0) (pv 2)))))), ?_⟩
    refine ⟨_, rfl, x, rfl, hx, isI x, rfl, ?_⟩
    cases x with
    | int i =>
      refine iteT ?_
      refine ⟨_, rfl, _, rfl, lo, i, rfl, rfl, _, rfl, ?_⟩
      by_cases c : lo ≤ i
      · rw [decide_eq_true c]
        refine iteT ?_
        refine ⟨_, rfl, i, hi, rfl, rfl, ?_⟩
        have e : betw (.int i) lo hi = decide (i ≤ hi) := by show (decide (lo ≤ i) && decide (i ≤ hi)) = _; rw [decide_eq_true c]; rfl
        rw [e] at q
        exact q
      · rw [decide_eq_false c]
        refine iteF ?_
        have e : betw (.int i) lo hi = false := by show (decide (lo ≤ i) && decide (i ≤ hi)) = _; rw [decide_eq_false c]; rfl
        rw [e] at q
        exact q
    | _ => exact iteF q
theorem b_is_between (T : Tx K mg) : Binds K (fdAt K (gA "is_between" K)) ["thing", "low", "high"] [] := FunD.bindsN T.f_is_between fun _ _ _ _ _ _ us hl => match us, hl with | [_, _, _], _ => rfl
end

/-! ### errors -/
section
variable {P : Program} {w : World} {K : PySem.W.Frag} {mg : Str → Option Value} {base : Heap}
theorem ei_NoProcess (T : Tx K mg) : FnOk P w K mg base CX0 1 (mA "NoProcess" "__init__" K) (fdAt K (mA "NoProcess" "__init__" K)) ["self", "process"] (spErr (ga K "NoProcess") "process" "NoProcess") :=
  err_init T.x_NoProcess T.f_NoProcess___init__ ⟨rfl, rfl, rfl, by decide +kernel, rfl, by decide +kernel, by decide +kernel⟩ rfl ⟨by decide, by decide⟩ ⟨by decide, by decide⟩ (fun _ => ⟨rfl, rfl⟩) ⟨.inl rfl, .inl rfl⟩
theorem eb_NoProcess (T : Tx K mg) : Binds K (fdAt K (mA "NoProcess" "__init__" K)) ["self", "process"] [] := FunD.bindsN T.f_NoProcess___init__ fun _ _ _ _ _ _ us hl => match us, hl with | [_, _], _ => rfl
end
/-- an error: for every heap that extends H, its own dict d new -/
def Raised (K : PySem.W.Frag) (H : Hp) (E : XK) (C : Str) (fs : List (Str × V)) : Prop := ∀ H' d, Same H H' → H d = none → H' d = some (.xd fs) → E (.ref (ga K C)) (some d) H'
theorem Raised.here {K : PySem.W.Frag} {H : Hp} {E : XK} {C : Str} {fs : List (Str × V)} (h : Raised K H E C fs) {d : Addr} (hd : H d = none) : E (.ref (ga K C)) (some d) (upd H d (.xd fs)) :=
  h _ d (fun b o e => by rw [upd_ne (ne_of_none e hd)]; exact e) hd upd_same
theorem Raised.ext {K : PySem.W.Frag} {H H1 : Hp} {E : XK} {C : Str} {fs : List (Str × V)} (e : Same H H1) (h : Raised K H E C fs) : Raised K H1 E C fs := fun H' d s1 hd h2 => h H' d (e.trans s1) (e.free hd) h2
def sp_table_of (K : PySem.W.Frag) : Sp := fun vs H Q E => ∃ (s : Sy) (x : V), vs = [.ref s.p, x] ∧ SyAt K H s ∧ Obj' H x ∧
  ((∃ i t, x = .int i ∧ lk s.tabs i = some t ∧ Q (.ref t.ad) H) ∨ ((∀ i, x = .int i → lk s.tabs i = none) ∧ Raised K H E "NoProcess" [("process", x), ("caption", .str "NoProcess")]))
section
variable {P : Program} {w : World} {K : PySem.W.Frag} {mg : Str → Option Value} {base : Heap}
theorem sc_table_of : FnScope ["self", "process"] ["self", "process"] (defScope s_System_table_of) := ⟨rfl, rfl, rfl, by decide +kernel, rfl, by decide +kernel, by decide +kernel⟩
theorem ok_table_of (T : Tx K mg) : FnOk P w K mg base (L2.CX P w) 3 (mA "System" "table_of" K) (fdAt K (mA "System" "table_of" K)) ["self", "process"] (sp_table_of K) := by
  refine FunD.ok T.f_System_table_of sc_table_of (fun vs H Q E h => ?_) (fun cdv A outer s H vs Q E hr h => ?_)
  · obtain ⟨x, lo, rfl, _⟩ := h
    rfl
  · obtain ⟨S, x, rfl, hS, hx, q⟩ := h
    have hu := hu_of hr
    refine ⟨_, pss_cons (ps_if (PW.pt (pw_or (pt_not (pt_val (pe_call (ok_is_integer T) (hr.mono (by decide)) (by rfl) T.g_is_integer T.f_is_integer.kp (b_is_integer T) .nil pass0 (pa_cons (pv 1) pa_nil)))) (pw_or1 (pt_cmp (pc_dnotin hu (pv 1) (pe_fld (pv 0) rfl))))))
        (pss_one (ps_raise rfl (takes_of rfl rfl rfl rfl) (pmk_err T.x_NoProcess (ei_NoProcess T) hr (eb_NoProcess T) pass0 (by rfl) T.g_NoProcess (pv 1)))) pss_nil)
      (pss_one (ps_ret (pe_dget hu (pe_fld (pv 0) rfl) (pv 1) (fun _ _ => rfl)))), ?_⟩
    refine ⟨_, rfl, x, rfl, hx, isI x, rfl, ?_⟩
    have rs : ∀ (i : Int) {Q' : VK}, Q' (.bl (!(lk S.tabs i).isSome)) H → tDNotIn (tVar 1) (tFld K (tVar 0) "tables") [some (.ref S.p), some (.int i)] H Q' := fun i Q' h => by
      refine ⟨_, rfl, _, rfl, _, _, _, _, _, rfl, hS.ob, T.c_System, T.n_System_tables, rfl, _, _, rfl, DGet.k (k := Sum.inl i) hS.tb, ?_⟩
      rw [val_kv, Option.isSome_map]
      exact h
    have er : ∀ {D : Ends}, Raised K H E "NoProcess" [("process", x), ("caption", .str "NoProcess")] → (∃ v, ([some (V.ref S.p), some x] : L2.St)[1]? = some (some v) ∧ ∀ d, H d = none → E (.ref (ga K "NoProcess")) (some d) (upd H d (.xd [("process", v), ("caption", .str "NoProcess")]))) := fun {D} hq => ⟨x, rfl, fun d hd => hq.here hd⟩
    cases x with
    | int i =>
      refine iteF ?_
      refine rs i ⟨_, rfl, ?_⟩
      rcases q with ⟨j, t, e, hl, q⟩ | ⟨hn, q⟩
      · cases e
        rw [hl]
        refine iteF ?_
        refine ⟨_, rfl, _, _, _, _, _, rfl, hS.ob, T.c_System, T.n_System_tables, rfl, _, rfl, _, _, rfl, ?_, q⟩
        have e := DGet.k (k := Sum.inl i) hS.tb
        rw [val_kv, hl] at e
        exact e
      · rw [hn i rfl]
        exact iteT (er (D := { nx := fun _ _ => True, rt := fun _ _ => True }) q)
    | _ =>
      refine iteT ?_
      rcases q with ⟨j, t, e, _⟩ | ⟨hn, q⟩
      · cases e
      · exact er (D := { nx := fun _ _ => True, rt := fun _ _ => True }) q
end

/-! ### a system is made -/
section
variable {P : Program} {w : World} {K : PySem.W.Frag} {mg : Str → Option Value} {base : Heap}
theorem ei_BadLimit (T : Tx K mg) : FnOk P w K mg base CX0 1 (mA "BadLimit" "__init__" K) (fdAt K (mA "BadLimit" "__init__" K)) ["self", "limit"] (spErr (ga K "BadLimit") "limit" "BadLimit") :=
  err_init T.x_BadLimit T.f_BadLimit___init__ ⟨rfl, rfl, rfl, by decide +kernel, rfl, by decide +kernel, by decide +kernel⟩ rfl ⟨by decide, by decide⟩ ⟨by decide, by decide⟩ (fun _ => ⟨rfl, rfl⟩) ⟨.inl rfl, .inl rfl⟩
theorem eb_BadLimit (T : Tx K mg) : Binds K (fdAt K (mA "BadLimit" "__init__" K)) ["self", "limit"] [] := FunD.bindsN T.f_BadLimit___init__ fun _ _ _ _ _ _ us hl => match us, hl with | [_, _], _ => rfl
end
/-- a new system -/
def newSv (P N : Int) : Sv := ⟨P, N, 0, [(0, [])], []⟩
def sp_Sys_init (K : PySem.W.Frag) : Sp := fun vs H Q E => ∃ (p dx : Addr) (x y : V), vs = [.ref p, x, y] ∧ H p = some (.ins (ga K "System") dx []) ∧ Obj' H x ∧ Obj' H y ∧
  (betw x 2 6 = false → Raised K H E "BadLimit" [("limit", x), ("caption", .str "BadLimit")]) ∧
  (betw x 2 6 = true → betw y 3 8 = false → Raised K H E "BadLimit" [("limit", y), ("caption", .str "BadLimit")]) ∧
  (∀ a b, x = .int a → y = .int b → 2 ≤ a → a ≤ 6 → 3 ≤ b → b ≤ 8 → ∀ H' s, SyAt K H' s → s.p = p → s.v = newSv a b → (∀ c o, H c = some o → c ≠ p → H' c = some o) → (∀ c ∈ s.foot, c = p ∨ H c = none) → Q .non H')
section
variable {P : Program} {w : World} {K : PySem.W.Frag} {mg : Str → Option Value} {base : Heap}
theorem sc_Sys_init : FnScope ["self", "processes", "numbers"] ["self", "processes", "numbers"] (defScope s_System___init__) := ⟨rfl, rfl, rfl, by decide +kernel, rfl, by decide +kernel, by decide +kernel⟩
theorem betw_int {x : V} {lo hi : Int} (h : betw x lo hi = true) : ∃ i, x = .int i ∧ lo ≤ i ∧ i ≤ hi := by
  cases x with
  | int i =>
    obtain ⟨h1, h2⟩ := ba (show (decide (lo ≤ i) && decide (i ≤ hi)) = true from h)
    exact ⟨i, rfl, of_decide_eq_true h1, of_decide_eq_true h2⟩
  | _ => cases h
theorem ok_Sys_init (T : Tx K mg) : FnOk P w K mg base (L2.CX P w) 4 (mA "System" "__init__" K) (fdAt K (mA "System" "__init__" K)) ["self", "processes", "numbers"] (sp_Sys_init K) := by
  refine FunD.ok T.f_System___init__ sc_Sys_init (fun vs H Q E h => ?_) (fun cdv A outer s H vs Q E hr h => ?_)
  · obtain ⟨p, dx, x, y, rfl, _⟩ := h
    rfl
  · obtain ⟨p, dx, x, y, rfl, hp, hx, hy, q1, q2, q3⟩ := h
    have hu := hu_of hr
    obtain ⟨t1, i1⟩ := T.i_LEAST_PROCESSES
    obtain ⟨t2, i2⟩ := T.i_LEAST_NUMBERS
    obtain ⟨rd, u1, v1⟩ := T.v_System_MOST_PROCESSES
    obtain ⟨_, u2, v2⟩ := T.v_System_MOST_NUMBERS
    refine ⟨_, pss_cons (ps_if (pt_not (pt_val (pe_call (ok_is_between T) (hr.mono (by decide)) (by rfl) T.g_is_between T.f_is_between.kp (b_is_between T) .nil pass0 (pa_cons (pv 1) (pa_cons (pe_glob (v := .int 2) (by rfl) i1 ⟨_, rfl⟩) (pa_cons (ClX.pe_cval (pe_glob (v := .ref (ga K "System")) (by rfl) T.g_System rfl)) pa_nil))))))
        (pss_one (ps_raise rfl (takes_of rfl rfl rfl rfl) (pmk_err T.x_BadLimit (ei_BadLimit T) (hr.mono (by decide)) (eb_BadLimit T) pass0 (by rfl) T.g_BadLimit (pv 1)))) pss_nil)
      (pss_cons (ps_if (pt_not (pt_val (pe_call (ok_is_between T) (hr.mono (by decide)) (by rfl) T.g_is_between T.f_is_between.kp (b_is_between T) .nil pass0 (pa_cons (pv 2) (pa_cons (pe_glob (v := .int 3) (by rfl) i2 ⟨_, rfl⟩) (pa_cons (ClX.pe_cval (pe_glob (v := .ref (ga K "System")) (by rfl) T.g_System rfl)) pa_nil))))))
        (pss_one (ps_raise rfl (takes_of rfl rfl rfl rfl) (pmk_err T.x_BadLimit (ei_BadLimit T) (hr.mono (by decide)) (eb_BadLimit T) pass0 (by rfl) T.g_BadLimit (pv 2)))) pss_nil)
      (pss_cons (ps_fld (pv 0) (pv 1) rfl)
      (pss_cons (ps_fld (pv 0) (pv 2) rfl)
      (pss_cons (ps_fld (pv 0) (pe_disp (pps_cons pe_int pe_dnewK pps_nil) (by rfl) (by rfl) (fun z => by cases z) (by decide)) rfl)
      (pss_cons (ps_fld (pv 0) pe_dnewK rfl)
      (pss_one (ps_fld (pv 0) pe_int rfl))))))), ?_⟩
    refine ⟨_, rfl, _, _, _, _, rfl, rd, v1, x, 2, 6, rfl, hx, _, rfl, ?_⟩
    cases c1 : betw x 2 6 with
    | false => exact iteT ⟨_, rfl, fun d hd => (q1 c1).here hd⟩
    | true =>
      refine iteF ?_
      refine ⟨_, rfl, _, _, _, _, rfl, rd, v2, y, 3, 8, rfl, hy, _, rfl, ?_⟩
      cases c2 : betw y 3 8 with
      | false => exact iteT ⟨_, rfl, fun d hd => (q2 c1 c2).here hd⟩
      | true =>
        refine iteF ?_
        obtain ⟨a, rfl, a1, a2⟩ := betw_int c1
        obtain ⟨b, rfl, b1, b2⟩ := betw_int c2
        refine ⟨_, rfl, _, rfl, p, _, dx, _, rfl, hp, T.c_System, T.n_System_process_limit, (by show 0 < 1000; decide), ?_⟩
        refine ⟨_, rfl, _, rfl, p, _, dx, _, rfl, upd_same, T.c_System, T.n_System_number_limit, (by show 1 < 1000; decide), ?_⟩
        intro tT nT tt ntt
        have nTp : tT ≠ p := fun z => by rw [z, upd_same] at nT; cases nT
        have e1 : ∀ {c : Addr}, c ≠ p → upd (upd H p (.ins (ga K "System") dx (putF "process_limit" (.int a) []))) p (.ins (ga K "System") dx (putF "number_limit" (.int b) (putF "process_limit" (.int a) []))) c = H c := fun hc => by rw [upd_ne hc, upd_ne hc]
        have ntT : tt ≠ tT := fun z => by rw [z, upd_same] at ntt; cases ntt
        have ntp : tt ≠ p := fun z => by rw [z, upd_ne (Ne.symm nTp), upd_same] at ntt; cases ntt
        refine ⟨by rw [upd_ne (Ne.symm ntT), upd_same], [(Sum.inl 0, .ref tt)], rfl, (by show 1 ≤ 15; decide), ?_⟩
        refine ⟨_, rfl, p, _, dx, putF "number_limit" (.int b) (putF "process_limit" (.int a) []), rfl, by rw [upd_ne (Ne.symm nTp), upd_ne (Ne.symm ntp), upd_ne (Ne.symm nTp), upd_same], T.c_System, T.n_System_tables, (by show 2 < 1000; decide), ?_⟩
        intro tG nG
        have nGp : tG ≠ p := fun z => by rw [z, upd_same] at nG; cases nG
        rw [upd_ne nGp] at nG
        have nGT : tG ≠ tT := fun z => by rw [z, upd_same] at nG; cases nG
        rw [upd_ne nGT] at nG
        have nGt : tG ≠ tt := fun z => by rw [z, upd_same] at nG; cases nG
        rw [upd_ne nGt, upd_ne nGT, e1 nGp] at nG
        refine ⟨_, rfl, p, _, dx, _, rfl, by rw [upd_ne (Ne.symm nGp), upd_same], T.c_System, T.n_System_things, (by show 3 < 1000; decide), ?_⟩
        refine ⟨_, rfl, p, _, dx, _, rfl, upd_same, T.c_System, T.n_System_serials_made, (by show 4 < 1000; decide), ?_⟩
        have hT0 : H tT = none := by rw [e1 nTp] at nT; exact nT
        have ht0 : H tt = none := by rw [upd_ne ntT, e1 ntp] at ntt; exact ntt
        refine q3 a b rfl rfl a1 a2 b1 b2 _ ⟨p, dx, tT, tG, a, b, 0, [(0, ⟨tt, []⟩)], []⟩ ⟨upd_same, ?_, ?_, ?_, fun t h => (nomatch h), ?_, List.nodup_nil, List.nodup_nil, List.nodup_nil⟩ rfl rfl (fun c o e hc => ?_) fun c hc => ?_
        · show _ = some (HO.dK [(Sum.inl 0, .ref tt)])
          rw [upd_ne nTp, upd_ne nTp, upd_ne (Ne.symm nGT), upd_ne nTp, upd_same]
          rfl
        · intro t ht
          cases List.mem_singleton.mp ht
          show _ = some (HO.dK [])
          rw [upd_ne ntp, upd_ne ntp, upd_ne (Ne.symm nGt), upd_ne ntp, upd_ne ntT, upd_same]
        · show _ = some (HO.dK [])
          rw [upd_ne nGp, upd_ne nGp, upd_same]
        · show ([tT, tG, tt] : List Addr).Nodup
          simp only [List.nodup_cons, List.mem_cons, List.not_mem_nil, or_false, not_or, List.nodup_nil, and_true]
          exact ⟨⟨Ne.symm nGT, Ne.symm ntT⟩, nGt, not_false⟩
        · have c1 : c ≠ tT := ne_of_none e hT0
          have c2 : c ≠ tt := ne_of_none e ht0
          have c3 : c ≠ tG := ne_of_none e nG
          rw [upd_ne hc, upd_ne hc, upd_ne c3, upd_ne hc, upd_ne c1, upd_ne c2, upd_ne c1, e1 hc]
          exact e
        · have h2 : c = p ∨ c = tT ∨ c = tG ∨ c = tt := by
            have z : c ∈ ([p, tT, tG, tt] : List Addr) := hc
            simpa using z
          rcases h2 with z | z | z | z
          · exact .inl z
          · exact .inr (z ▸ hT0)
          · exact .inr (z ▸ nG)
          · exact .inr (z ▸ ht0)
end

/-! ### looks at the limits and the processes -/
/-- a new list of data; a new tuple -/
structure NewL (K : PySem.W.Frag) (H H' : Hp) (p : Addr) (vs : List V) (ds : List PyData) : Prop where
  same : Same H H'
  new : H p = none
  at_ : H' p = some (.lst vs)
  dat : DpAll K H' vs ds
theorem NewL.dp {K : PySem.W.Frag} {H H' : Hp} {p : Addr} {vs : List V} {ds : List PyData} (n : NewL K H H' p vs ds) : Dp K H' (.ref p) (.list ds) := .lst (SqL.of n.at_) n.dat
theorem new_same {H : Hp} {p : Addr} {o : HO} (h : H p = none) : Same H (upd H p o) := fun b u e => by rw [upd_ne (ne_of_none e h)]; exact e
def sp_alive (K : PySem.W.Frag) : Sp := fun vs H Q _ => ∃ s : Sy, vs = [.ref s.p] ∧ SyAt K H s ∧ s.tabs.length < 64 ∧ ∀ p, H p = none → Q (.ref p) (upd H p (.lst ((srtI (s.tabs.map (·.1))).map V.int)))
section
variable {P : Program} {w : World} {K : PySem.W.Frag} {mg : Str → Option Value} {base : Heap}
theorem kv_keys {α : Type} (g : α → V) (l : List (Int × α)) : (kv g l).map (·.1) = (l.map (·.1)).map Sum.inl := by
  unfold kv
  rw [List.map_map, List.map_map]
  rfl
theorem sc_alive : FnScope ["self"] ["self"] (defScope s_System_alive) := ⟨rfl, rfl, rfl, by decide +kernel, rfl, by decide +kernel, by decide +kernel⟩
theorem ok_alive (T : Tx K mg) : FnOk P w K mg base CX0 1 (mA "System" "alive" K) (fdAt K (mA "System" "alive" K)) ["self"] (sp_alive K) := by
  refine FunD.ok T.f_System_alive sc_alive (fun vs H Q E h => ?_) (fun cdv A outer s H vs Q E hr h => ?_)
  · obtain ⟨x, rfl, _⟩ := h
    rfl
  · obtain ⟨S, rfl, hS, h64, q⟩ := h
    refine ⟨_, PSs.nox (pss_one (ps_ret (pe_callB (call_sortedDI rfl) (by rfl) T.free_sorted (by decide +kernel) (pa_cons (pe_fld (pv 0) rfl) pa_nil)))), ?_⟩
    refine ⟨_, rfl, _, _, _, _, _, rfl, hS.ob, T.c_System, T.n_System_tables, rfl, _, _, S.tabs.map (·.1), rfl, .inl hS.tb, kv_keys _ _, by rw [List.length_map]; exact h64, fun ys p h1 h2 np => ?_⟩
    rw [srtI_eq h1 h2]
    exact q p np
theorem b_alive (T : Tx K mg) : Binds K (fdAt K (mA "System" "alive" K)) ["self"] [] := FunD.bindsN T.f_System_alive fun _ _ _ _ _ _ us hl => match us, hl with | [_], _ => rfl
/-! ### new things -/
theorem sc_Src_init : FnScope ["self", "unread", "finished"] ["self", "unread", "finished"] (defScope s_Source___init__) := ⟨rfl, rfl, rfl, by decide +kernel, rfl, by decide +kernel, by decide +kernel⟩
end
def sp_Src_init (K : PySem.W.Frag) : Sp := fun vs H Q _ => ∃ (p dx : Addr) (u : Int) (f : Bool), vs = [.ref p, .int u, .bl f] ∧ H p = some (.ins (ga K "Source") dx []) ∧ Q .non (upd H p (.ins (ga K "Source") dx (srcF u f)))
section
variable {P : Program} {w : World} {K : PySem.W.Frag} {mg : Str → Option Value} {base : Heap}
theorem ok_Src_init (T : Tx K mg) : FnOk P w K mg base CX0 1 (mA "Source" "__init__" K) (fdAt K (mA "Source" "__init__" K)) ["self", "unread", "finished"] (sp_Src_init K) := by
  refine FunD.ok T.f_Source___init__ sc_Src_init (fun vs H Q E h => ?_) (fun cdv A outer s H vs Q E hr h => ?_)
  · obtain ⟨p, dx, u, f, rfl, _⟩ := h
    rfl
  · obtain ⟨p, dx, u, f, rfl, hp, q⟩ := h
    refine ⟨_, PSs.nox (pss_cons (ps_fld (pv 0) (pv 1) rfl) (pss_one (ps_fld (pv 0) (pv 2) rfl))), ?_⟩
    refine ⟨_, rfl, _, rfl, p, _, dx, _, rfl, hp, T.c_Source, T.n_Source_unread, (by show 0 < 1000; decide), _, rfl, _, rfl, p, _, dx, _, rfl, upd_same, T.c_Source, T.n_Source_finished, (by show 1 < 1000; decide), ?_⟩
    rw [upd_upd]
    exact q
theorem b_Src0 (T : Tx K mg) : ∃ ds, Vals [.int 0, .bl false] ds ∧ Binds K (fdAt K (mA "Source" "__init__" K)) ["self", "unread", "finished"] ds := by
  have z := FunD.binds1 (ps := ["self", "unread", "finished"]) T.f_Source___init__ 1 0 (fun z => nomatch z) rfl fun T kV doc pm an cdv ct us its l1 l2 => match us, its, l1, l2 with | [_], [_, _], _, _ => ⟨_, rfl, rfl⟩
  exact z
end

/-! ### the lowest free number -/
section
variable {P : Program} {w : World} {K : PySem.W.Frag} {mg : Str → Option Value} {base : Heap}
theorem ei_Full (T : Tx K mg) : FnOk P w K mg base CX0 1 (mA "Full" "__init__" K) (fdAt K (mA "Full" "__init__" K)) ["self", "process"] (spErr (ga K "Full") "process" "Full") :=
  err_init T.x_Full T.f_Full___init__ ⟨rfl, rfl, rfl, by decide +kernel, rfl, by decide +kernel, by decide +kernel⟩ rfl ⟨by decide, by decide⟩ ⟨by decide, by decide⟩ (fun _ => ⟨rfl, rfl⟩) ⟨.inl rfl, .inl rfl⟩
theorem eb_Full (T : Tx K mg) : Binds K (fdAt K (mA "Full" "__init__" K)) ["self", "process"] [] := FunD.bindsN T.f_Full___init__ fun _ _ _ _ _ _ us hl => match us, hl with | [_, _], _ => rfl
theorem b_table_of (T : Tx K mg) : Binds K (fdAt K (mA "System" "table_of" K)) ["self", "process"] [] := FunD.bindsN T.f_System_table_of fun _ _ _ _ _ _ us hl => match us, hl with | [_, _], _ => rfl
end
theorem lowFree_some {used : List Int} {n : Int} {k : Nat} (hk : (k : Int) < n) (hb : ∀ j : Nat, j < k → (j : Int) ∈ used) (hn : (k : Int) ∉ used) : lowFree used n = some (k : Int) := by
  unfold lowFree
  rw [List.find?_map]
  have e : (List.range n.toNat).find? ((fun k : Int => decide (k ∉ used)) ∘ fun (k : Nat) => (k : Int)) = some k := by
    rw [List.find?_range_eq_some]
    refine ⟨decide_eq_true hn, List.mem_range.mpr (by omega), fun j hj => ?_⟩
    show (!decide ((j : Int) ∉ used)) = true
    rw [decide_eq_false (fun z => z (hb j hj))]
    rfl
  rw [e]
  rfl
theorem lowFree_none {used : List Int} {n : Int} (hb : ∀ j : Nat, (j : Int) < n → (j : Int) ∈ used) : lowFree used n = none := by
  unfold lowFree
  rw [List.find?_eq_none]
  intro x hx
  obtain ⟨j, hj, rfl⟩ := List.mem_map.mp hx
  have := List.mem_range.mp hj
  rw [decide_eq_false (fun z => z (hb j (by omega)))]
  exact Bool.false_ne_true
theorem lowFree_spec {used : List Int} {n k : Int} (h : lowFree used n = some k) : 0 ≤ k ∧ k < n ∧ k ∉ used := by
  unfold lowFree at h
  have h1 := List.find?_some h
  obtain ⟨j, hj, rfl⟩ := List.mem_map.mp (List.mem_of_find?_eq_some h)
  have := List.mem_range.mp hj
  exact ⟨by omega, by omega, of_decide_eq_true h1⟩
def errP (x : V) : List (Str × V) := [("process", x), ("caption", .str "NoProcess")]
def errF (x : V) : List (Str × V) := [("process", x), ("caption", .str "Full")]
/-- the first argument x: no alive process, or the process i with the table t -/
def ByProc (K : PySem.W.Frag) (s : Sy) (x : V) (H : Hp) (E : XK) (R : Int → Tb → Prop) : Prop := (∃ i t, x = .int i ∧ lk s.tabs i = some t ∧ R i t) ∨ ((∀ i, x = .int i → lk s.tabs i = none) ∧ Raised K H E "NoProcess" (errP x))
def sp_lowest_free (K : PySem.W.Frag) : Sp := fun vs H Q E => ∃ (s : Sy) (x : V), vs = [.ref s.p, x] ∧ SyAt K H s ∧ Obj' H x ∧ WF s.v ∧ ByProc K s x H E fun i t => (∀ n, lowFree (t.rows.map (·.1)) s.N = some n → Q (.int n) H) ∧ (lowFree (t.rows.map (·.1)) s.N = none → Raised K H E "Full" (errF x))
section
variable {P : Program} {w : World} {K : PySem.W.Frag} {mg : Str → Option Value} {base : Heap}
theorem sc_lowest_free : FnScope ["self", "process", "table", "number"] ["self", "process"] (defScope s_System_lowest_free) := ⟨rfl, rfl, rfl, by decide +kernel, rfl, by decide +kernel, by decide +kernel⟩
theorem ok_lowest_free (T : Tx K mg) : FnOk P w K mg base (L2.CX P w) 4 (mA "System" "lowest_free" K) (fdAt K (mA "System" "lowest_free" K)) ["self", "process"] (sp_lowest_free K) := by
  refine FunD.ok T.f_System_lowest_free sc_lowest_free (fun vs H Q E h => ?_) (fun cdv A outer s H vs Q E hr h => ?_)
  · obtain ⟨x, lo, rfl, _⟩ := h
    rfl
  · obtain ⟨S, x, rfl, hS, hx, hw, q⟩ := h
    have hu := hu_of hr
    refine ⟨_, pss_cons (ps_set (i := 2) sc_lowest_free.nd rfl (Or.inl rfl) (pe_meth (pv 0) T.c_System T.m_System_table_of (ok_table_of T) hr (b_table_of T) .nil (passes_call (takes_of rfl rfl rfl rfl) (fun _ _ _ _ h => h)) (pa_cons (pv 1) pa_nil)))
      (pss_cons (ps_for (passes_of rfl) rfl (pi_range1 (by rfl) T.free_range (pa_cons (pe_fld (pv 0) rfl) pa_nil)) (pg_name (i := 3) sc_lowest_free.nd rfl (Or.inl rfl))
        (pss_one (ps_if (pt_cmp (pc_dnotin hu (pv 3) (pv 2))) (pss_one (ps_ret (pv 3))) pss_nil)))
      (pss_one (ps_raise rfl (takes_of rfl rfl rfl rfl) (pmk_err T.x_Full (ei_Full T) (hr.mono (by decide)) (eb_Full T) pass0 (by rfl) T.g_Full (pv 1))))), ?_⟩
    refine ⟨_, rfl, S.p, S.dx, _, rfl, hS.ob, rfl, _, rfl, S, x, rfl, hS, hx, ?_⟩
    rcases q with ⟨i, t, rfl, hl, q1, q2⟩ | ⟨hn, q⟩
    · refine .inl ⟨i, t, rfl, hl, ?_⟩
      have ht := hS.tt _ (lk_mem hl)
      have hN := hw.n
      refine ⟨_, rfl, _, _, _, _, _, rfl, hS.ob, T.c_System, T.n_System_number_limit, rfl, S.N, rfl, (by have : S.v.N = S.N := rfl; omega), (by have : S.v.N = S.N := rfl; omega), ?_⟩
      refine for_range (lo := 0) (n := S.N.toNat) (fun k σ H' => H' = H ∧ (∃ v, σ = [some (.ref S.p), some (.int i), some (.ref t.ad), v]) ∧ ∀ j : Nat, j < k → (j : Int) ∈ t.rows.map (·.1)) ⟨rfl, ⟨_, rfl⟩, fun j hj => absurd hj (Nat.not_lt_zero _)⟩ ?_ ?_
      · rintro k σ H' hk ⟨rfl, ⟨v, rfl⟩, hb⟩
        have e0 : (0 : Int) + (k : Int) = (k : Int) := Int.zero_add _
        rw [e0]
        refine ⟨_, rfl, _, rfl, _, _, rfl, DGet.k (k := Sum.inl (k : Int)) ht, _, rfl, ?_⟩
        rw [val_kv, Option.isSome_map]
        cases e : lk t.rows (k : Int) with
        | none =>
          refine iteT ?_
          exact ⟨_, rfl, q1 _ (lowFree_some (by omega) hb (lk_none.mp e))⟩
        | some z =>
          refine iteF ?_
          refine ⟨rfl, ⟨_, rfl⟩, fun j hj => ?_⟩
          by_cases c : j < k
          · exact hb j c
          · have : j = k := by omega
            subst this
            exact List.mem_map.mpr ⟨_, lk_mem e, rfl⟩
      · rintro σ H' ⟨rfl, ⟨v, rfl⟩, hb⟩
        exact ⟨_, rfl, fun d hd => (q2 (lowFree_none fun j hj => hb j (by omega))).here hd⟩
    · exact .inr ⟨hn, q⟩
theorem b_lowest_free (T : Tx K mg) : Binds K (fdAt K (mA "System" "lowest_free" K)) ["self", "process"] [] := FunD.bindsN T.f_System_lowest_free fun _ _ _ _ _ _ us hl => match us, hl with | [_, _], _ => rfl
end

/-! ### things are placed in a table -/
structure Apart (s : Sy) (t : Th) : Prop where
  ad : t.ad ∉ s.foot
  ls : ∀ x ∈ t.tg.lsts, x ∉ s.foot
  en : ∀ x ∈ t.tg.ents, x ∉ s.foot
  n2 : t.tg.lsts.Nodup
  n3 : t.tg.ents.Nodup
structure Placed (K : PySem.W.Frag) (s s' : Sy) (H H' : Hp) (t : Th) (i n : Int) : Prop where
  at_ : SyAt K H' s'
  v : s'.v = s.v.place i n t.tg.v
  p : s'.p = s.p
  keep : ∀ b o, H b = some o → b ∉ s.foot → H' b = some o
  foot : ∀ b ∈ s'.foot, b ∈ s.foot ∨ b = t.ad ∨ b ∈ t.tg.lsts ∨ b ∈ t.tg.ents
def sp_placed (K : PySem.W.Frag) : Sp := fun vs H Q E => ∃ (s : Sy) (x : V) (t : Th), vs = [.ref s.p, x, .ref t.ad] ∧ SyAt K H s ∧ Obj' H x ∧ WF s.v ∧ (0 ≤ s.made ∧ s.made ≤ 1000000) ∧ TgAt K H t.ad t.tg ∧ Apart s t ∧
  ByProc K s x H E fun i tb => (∀ n, lowFree (tb.rows.map (·.1)) s.N = some n → ∀ H' s', Placed K s s' H H' t i n → Q (.int n) H') ∧ (lowFree (tb.rows.map (·.1)) s.N = none → Raised K H E "Full" (errF x))
section
variable {P : Program} {w : World} {K : PySem.W.Frag} {mg : Str → Option Value} {base : Heap}
theorem WF.fresh {s : Sy} (h : WF s.v) (hm : 0 ≤ s.made) : lk s.ths s.made = none := by
  rw [lk_none, ← Sy.sers]
  intro z
  obtain ⟨t, ht, e⟩ := List.mem_map.mp z
  have := h.rs t ht
  have e2 : s.v.made = s.made := rfl
  omega
theorem placed_of {H : Hp} {s : Sy} {t : Th} {i n : Int} {tb : Tb} (S : SyAt K H s) (hw : WF s.v) (A : Apart s t) (ht : TgAt K H t.ad t.tg) (hl : lk s.tabs i = some tb) :
    Placed K s ({ ({ ({ s with ths := s.ths ++ [(s.made, t)] } : Sy) with tabs := upAt s.tabs i (Tb.fn (· ++ [(n, s.made)])) } : Sy) with made := s.made + 1 } : Sy) H
      (upd (upd (upd H s.G (.dK (kv thV (s.ths ++ [(s.made, t)])))) tb.ad (.dK (kv V.int (tb.rows ++ [(n, s.made)])))) s.p (.ins (ga K "System") s.dx (sysF s.P s.N s.T s.G (s.made + 1)))) t i n := by
  have S1 := S.thing (n := s.made) ht A.ad A.ls A.en A.n2 A.n3
  have S2 := S1.rows (i := i) (t := tb) (f := (· ++ [(n, s.made)])) hl (by rw [← Sy.pids]; exact hw.ndp)
  have S3 := S2.count (s.made + 1)
  refine ⟨S3, ?_, rfl, fun b o e nb => ?_, fun b hb => ?_⟩
  · show (⟨s.P, s.N, s.made + 1, (upAt s.tabs i (Tb.fn (· ++ [(n, s.made)]))).map (fun t => (t.1, t.2.rows)), (s.ths ++ [(s.made, t)]).map (fun t => (t.1, t.2.tg.v))⟩ : Sv) = _
    rw [upAt_map (fun t : Tb => t.rows) (Tb.fn (· ++ [(n, s.made)])) (· ++ [(n, s.made)]) (fun _ => rfl), List.map_append]
    rfl
  · have b1 : b ≠ s.p := fun z => nb (z ▸ List.mem_cons_self)
    have b2 : b ≠ tb.ad := fun z => nb (Sy.in_dcs (z ▸ List.mem_cons_of_mem _ (List.mem_cons_of_mem _ (List.mem_map.mpr ⟨_, lk_mem hl, rfl⟩))))
    have b3 : b ≠ s.G := fun z => nb (Sy.in_dcs (z ▸ List.mem_cons_of_mem _ List.mem_cons_self))
    rw [upd_ne b1, upd_ne b2, upd_ne b3]
    exact e
  · have ads : (upAt s.tabs i (Tb.fn (· ++ [(n, s.made)]))).map (·.2.ad) = s.tabs.map (·.2.ad) := by
      unfold upAt
      rw [List.map_map]
      refine List.map_congr_left fun u _ => ?_
      show (if u.1 = i then (u.1, Tb.fn (· ++ [(n, s.made)]) u.2) else u).2.ad = u.2.ad
      split <;> rfl
    rcases Sy.foot_cases hb with z | z | z | z | z
    · exact .inl (z ▸ List.mem_cons_self)
    · have z' : b ∈ s.T :: s.G :: (upAt s.tabs i (Tb.fn (· ++ [(n, s.made)]))).map (·.2.ad) := z
      rw [ads] at z'
      exact .inl (Sy.in_dcs z')
    · have z' : b ∈ (s.ths ++ [(s.made, t)]).map (·.2.ad) := z
      rw [List.map_append] at z'
      rcases List.mem_append.mp z' with y | y
      · exact .inl (Sy.in_ths y)
      · exact .inr (.inl (List.mem_singleton.mp y))
    · have z' : b ∈ (s.ths ++ [(s.made, t)]).flatMap (·.2.tg.lsts) := z
      rw [List.flatMap_append] at z'
      rcases List.mem_append.mp z' with y | y
      · exact .inl (Sy.in_lsts y)
      · exact .inr (.inr (.inl (by simpa using y)))
    · have z' : b ∈ (s.ths ++ [(s.made, t)]).flatMap (·.2.tg.ents) := z
      rw [List.flatMap_append] at z'
      rcases List.mem_append.mp z' with y | y
      · exact .inl (Sy.in_ents y)
      · exact .inr (.inr (.inr (by simpa using y)))
theorem sc_placed : FnScope ["self", "process", "thing", "number"] ["self", "process", "thing"] (defScope s_System_placed) := ⟨rfl, rfl, rfl, by decide +kernel, rfl, by decide +kernel, by decide +kernel⟩
theorem ok_placed (T : Tx K mg) : FnOk P w K mg base (L2.CX P w) 5 (mA "System" "placed" K) (fdAt K (mA "System" "placed" K)) ["self", "process", "thing"] (sp_placed K) := by
  refine FunD.ok T.f_System_placed sc_placed (fun vs H Q E h => ?_) (fun cdv A outer s H vs Q E hr h => ?_)
  · obtain ⟨s, x, t, rfl, _⟩ := h
    rfl
  · obtain ⟨S, x, t, rfl, hS, hx, hw, hm, ht, hA, q⟩ := h
    have hu := hu_of hr
    refine ⟨_, pss_cons (ps_set (i := 3) sc_placed.nd rfl (Or.inl rfl) (pe_meth (pv 0) T.c_System T.m_System_lowest_free (ok_lowest_free T) hr (b_lowest_free T) .nil (passes_call (takes_of rfl rfl rfl rfl) (fun _ _ _ _ h => h)) (pa_cons (pv 1) pa_nil)))
      (pss_cons (ps_dput hu (pe_fld (pv 0) rfl) (pe_fld (pv 0) rfl) (pv 2) rfl)
      (pss_cons (ps_dput hu (pe_dget hu (pe_fld (pv 0) rfl) (pv 1) (fun _ _ => rfl)) (pv 3) (pe_fld (pv 0) rfl) rfl)
      (pss_cons (ps_fldaug (pv 0) pe_int in_add)
      (pss_one (ps_ret (pv 3)))))), ?_⟩
    refine ⟨_, rfl, S.p, S.dx, _, rfl, hS.ob, rfl, _, rfl, S, x, rfl, hS, hx, hw, ?_⟩
    rcases q with ⟨i, tb, rfl, hl, q1, q2⟩ | ⟨hn, q⟩
    · refine .inl ⟨i, tb, rfl, hl, fun n hn => ?_, q2⟩
      have S1 := hS.thing (n := S.made) ht hA.ad hA.ls hA.en hA.n2 hA.n3
      have hlen : S.ths.length ≤ S.made.toNat := by
        have := hw.thsM
        rw [show S.v.ths.length = S.ths.length from List.length_map ..] at this
        exact this
      have hsz : (1000001 : Nat) < sizeLine := by decide
      have g1 := DPut.k (k := Sum.inl S.made) (v := thV t) hS.gb (show (kv thV S.ths).length < sizeLine from by rw [kv_len]; omega)
      rw [put_kv thV S.made t (hw.fresh hm.1)] at g1
      refine ⟨_, rfl, _, rfl, _, _, _, _, _, rfl, hS.ob, T.c_System, T.n_System_things, rfl, _, rfl, _, _, _, _, _, rfl, hS.ob, T.c_System, T.n_System_serials_made, rfl, _, _, rfl, g1, ?_⟩
      have g2 := DGet.k (k := Sum.inl i) S1.tb
      rw [val_kv, hl] at g2
      have hf := lowFree_spec hn
      have r8 : tb.rows.length ≤ 8 := hw.rows8 (t := (i, tb.rows)) (List.mem_map.mpr ⟨_, lk_mem hl, rfl⟩)
      have g3 := DPut.k (k := Sum.inl n) (v := .int S.made) (S1.tt _ (lk_mem hl)) (by rw [kv_len]; exact Nat.lt_of_le_of_lt r8 (by decide))
      rw [put_kv V.int n S.made (lk_none.mpr hf.2.2)] at g3
      refine ⟨_, rfl, _, _, _, _, _, rfl, S1.ob, T.c_System, T.n_System_serials_made, rfl, _, rfl, _, _, _, _, _, rfl, S1.ob, T.c_System, T.n_System_tables, rfl, _, rfl, _, _, rfl, g2, _, rfl, _, _, rfl, g3, ?_⟩
      have S2 := S1.rows (i := i) (t := tb) (f := (· ++ [(n, S.made)])) hl (by rw [← Sy.pids]; exact hw.ndp)
      refine ⟨_, rfl, _, _, _, _, _, rfl, S2.ob, T.c_System, T.n_System_serials_made, rfl, _, _, rfl, rfl, _, _, S2.ob, (by show 5 < 1000; decide), _, rfl, ?_⟩
      exact q1 n hn _ _ (placed_of hS hw hA ht hl)
    · exact .inr ⟨hn, q⟩
theorem b_placed (T : Tx K mg) : Binds K (fdAt K (mA "System" "placed" K)) ["self", "process", "thing"] [] := FunD.bindsN T.f_System_placed fun _ _ _ _ _ _ us hl => match us, hl with | [_, _, _], _ => rfl
end
/-! ### new sources and sets -/
def sp_new (K : PySem.W.Frag) (tv : Tv) : Sp := fun vs H Q E => ∃ (s : Sy) (x : V), vs = [.ref s.p, x] ∧ SyAt K H s ∧ Obj' H x ∧ WF s.v ∧ (0 ≤ s.made ∧ s.made ≤ 1000000) ∧
  ByProc K s x H E fun i tb => (∀ n, lowFree (tb.rows.map (·.1)) s.N = some n → ∀ H' s', SyAt K H' s' → s'.v = s.v.place i n tv → Fr' s s' H H' → Q (.int n) H') ∧ (lowFree (tb.rows.map (·.1)) s.N = none → Raised K H E "Full" (errF x))
section
variable {P : Program} {w : World} {K : PySem.W.Frag} {mg : Str → Option Value} {base : Heap}
theorem sc_new_source : FnScope ["self", "process"] ["self", "process"] (defScope s_System_new_source) := ⟨rfl, rfl, rfl, by decide +kernel, rfl, by decide +kernel, by decide +kernel⟩
theorem ByProc.ext {s : Sy} {x : V} {H H1 : Hp} {E : XK} {R R' : Int → Tb → Prop} (e : Same H H1) (h : ByProc K s x H E R) (r : ∀ i t, lk s.tabs i = some t → R i t → R' i t) : ByProc K s x H1 E R' := by
  rcases h with ⟨i, t, rfl, hl, q⟩ | ⟨hn, q⟩
  · exact .inl ⟨i, t, rfl, hl, r i t hl q⟩
  · exact .inr ⟨hn, q.ext e⟩
/-- a thing that was made anew is placed -/
theorem new_placed {s s' : Sy} {H H1 H' : Hp} {t : Th} {i n : Int} (e : Same H H1) (n1 : H t.ad = none) (n2 : ∀ x ∈ t.tg.lsts, H x = none) (n3 : t.tg.ents = []) (P : Placed K s s' H1 H' t i n) : Fr' s s' H H' := by
  refine ⟨fun b o h nb => P.keep b o (e b o h) nb, fun b hb => ?_, P.p⟩
  rcases P.foot b hb with z | z | z | z
  · exact .inl z
  · exact .inr (z ▸ n1)
  · exact .inr (n2 b z)
  · rw [n3] at z
    cases z
theorem SyAt.notfoot {s : Sy} {H : Hp} (S : SyAt K H s) {b : Addr} (h : H b = none) : b ∉ s.foot := fun z => by
  obtain ⟨o, e⟩ := S.some_of z
  rw [h] at e
  cases e
theorem ok_new_source (T : Tx K mg) : FnOk P w K mg base (L2.CX P w) 6 (mA "System" "new_source" K) (fdAt K (mA "System" "new_source" K)) ["self", "process"] (sp_new K (.src 0 false)) := by
  refine FunD.ok T.f_System_new_source sc_new_source (fun vs H Q E h => ?_) (fun cdv A outer s H vs Q E hr h => ?_)
  · obtain ⟨s, x, rfl, _⟩ := h
    rfl
  · obtain ⟨S, x, rfl, hS, hx, hw, hm, q⟩ := h
    obtain ⟨ds, hds, hb⟩ := b_Src0 T
    refine ⟨_, pss_one (ps_ret (pe_meth (pv 0) T.c_System T.m_System_placed (ok_placed T) hr (b_placed T) .nil (passes_call (takes_of rfl rfl rfl rfl) (fun _ _ _ _ h => h)) (pa_cons (pv 1) (pa_cons (pe_make0 T.k_Source (ok_Src_init T) (hr.mono (by decide)) (by rfl) T.g_Source hb hds pass0) pa_nil)))), ?_⟩
    refine ⟨_, rfl, S.p, S.dx, _, rfl, hS.ob, rfl, _, rfl, fun a dx na nd ne => ?_⟩
    refine ⟨a, dx, 0, false, rfl, upd_same, rfl, ?_⟩
    rw [upd_upd]
    have e1 : Same H (upd (upd H dx (.own a)) a (.ins (ga K "Source") dx (srcF 0 false))) := (new_same nd).trans (new_same (by rw [upd_ne (Ne.symm ne)]; exact na))
    refine ⟨S, x, ⟨a, .src dx 0 false⟩, rfl, hS.ext e1, hx.same e1, hw, hm, upd_same, ⟨hS.notfoot na, fun x h => (nomatch h), fun x h => (nomatch h), List.nodup_nil, List.nodup_nil⟩, ?_⟩
    refine q.ext e1 fun i tb hl ⟨q1, q2⟩ => ⟨fun n hn H' s' P => q1 n hn H' s' P.at_ P.v (new_placed (t := ⟨a, .src dx 0 false⟩) e1 na (fun x h => (nomatch h)) rfl P), fun z => (q2 z).ext e1⟩
theorem b_new_source (T : Tx K mg) : Binds K (fdAt K (mA "System" "new_source" K)) ["self", "process"] [] := FunD.bindsN T.f_System_new_source fun _ _ _ _ _ _ us hl => match us, hl with | [_, _], _ => rfl
end

/-! ### a new process -/
section
variable {P : Program} {w : World} {K : PySem.W.Frag} {mg : Str → Option Value} {base : Heap}
end

/-! ### kinds, and the numbers of a process -/
def Tv.kind : Tv → Str
  | .src _ _ => "source"
  | .set _ _ => "set"
def sp_kind (x : Str) : Sp := fun vs H Q _ => ∃ v, vs = [v] ∧ Q (.str x) H
def kindAt (v : Sv) (rows : List (Int × Int)) (n : Int) : Str := match lk rows n with
  | none => ""
  | some ser => match lk v.ths ser with
    | none => ""
    | some t => t.kind
def numsD (v : Sv) (rows : List (Int × Int)) : List PyData := (srtI (rows.map (·.1))).map fun n => .tuple [.int n, .str (kindAt v rows n)]
/-- a new list of data -/
structure NewD (K : PySem.W.Frag) (H H' : Hp) (v : V) (d : PyData) : Prop where
  same : Same H H'
  dat : Dp K (frs H H') v d
theorem NewD.dp {K : PySem.W.Frag} {H H' : Hp} {v : V} {d : PyData} (n : NewD K H H' v d) : Dp K H' v d := Dp.same frs_le _ _ n.dat
def sp_numbers (K : PySem.W.Frag) : Sp := fun vs H Q E => ∃ (s : Sy) (x : V), vs = [.ref s.p, x] ∧ SyAt K H s ∧ Obj' H x ∧ WF s.v ∧
  ByProc K s x H E fun _ t => ∀ H' p, NewD K H H' (.ref p) (.list (numsD s.v t.rows)) → H p = none → (∃ us, H' p = some (.lst us) ∧ DpAll K H' us (numsD s.v t.rows)) → Q (.ref p) H'
section
variable {P : Program} {w : World} {K : PySem.W.Frag} {mg : Str → Option Value} {base : Heap}
theorem sc_kind1 : FnScope ["self"] ["self"] (defScope s_Source_kind) := ⟨rfl, rfl, rfl, by decide +kernel, rfl, by decide +kernel, by decide +kernel⟩
theorem sc_kind2 : FnScope ["self"] ["self"] (defScope s_WaitSet_kind) := ⟨rfl, rfl, rfl, by decide +kernel, rfl, by decide +kernel, by decide +kernel⟩
theorem ok_kind1 (T : Tx K mg) : FnOk P w K mg base CX0 1 (pA "Source" "kind" K) (fdAt K (pA "Source" "kind" K)) ["self"] (sp_kind "source") := by
  refine FunD.ok T.f_Source_kind sc_kind1 (fun vs H Q E h => ?_) (fun cdv A outer s H vs Q E hr h => ?_)
  · obtain ⟨x, rfl, _⟩ := h
    rfl
  · obtain ⟨x, rfl, q⟩ := h
    obtain ⟨t, ht⟩ := T.t_SOURCE
    exact ⟨_, PSs.nox (pss_one (ps_ret (pe_glob (v := .str "source") (by rfl) ht ⟨_, rfl⟩))), q⟩
theorem ok_kind2 (T : Tx K mg) : FnOk P w K mg base CX0 1 (pA "WaitSet" "kind" K) (fdAt K (pA "WaitSet" "kind" K)) ["self"] (sp_kind "set") := by
  refine FunD.ok T.f_WaitSet_kind sc_kind2 (fun vs H Q E h => ?_) (fun cdv A outer s H vs Q E hr h => ?_)
  · obtain ⟨x, rfl, _⟩ := h
    rfl
  · obtain ⟨x, rfl, q⟩ := h
    obtain ⟨t, ht⟩ := T.t_SET
    exact ⟨_, PSs.nox (pss_one (ps_ret (pe_glob (v := .str "set") (by rfl) ht ⟨_, rfl⟩))), q⟩
theorem b_kind1 (T : Tx K mg) : Binds K (fdAt K (pA "Source" "kind" K)) ["self"] [] := FunD.bindsN T.f_Source_kind fun _ _ _ _ _ _ us hl => match us, hl with | [_], _ => rfl
theorem b_kind2 (T : Tx K mg) : Binds K (fdAt K (pA "WaitSet" "kind" K)) ["self"] [] := FunD.bindsN T.f_WaitSet_kind fun _ _ _ _ _ _ us hl => match us, hl with | [_], _ => rfl
/-- what stands at a thing's address -/
theorem TgAt.ins {H : Hp} {a : Addr} {tg : Tg} (h : TgAt K H a tg) : ∃ dx fs, (H a = some (.ins (ga K "Source") dx fs) ∧ ∃ d u f, tg = .src d u f) ∨ (H a = some (.ins (ga K "WaitSet") dx fs) ∧ ∃ d L R es row, tg = .set d L R es row) := by
  cases tg with
  | src dx u f => exact ⟨_, _, .inl ⟨h, _, _, _, rfl⟩⟩
  | set dx L R es row => exact ⟨_, _, .inr ⟨h.1, _, _, _, _, _, rfl⟩⟩
theorem sc_numbers : FnScope ["self", "process", "table", "number"] ["self", "process"] (defScope s_System_numbers) := ⟨rfl, rfl, rfl, by decide +kernel, rfl, by decide +kernel, by decide +kernel⟩
theorem ok_numbers (T : Tx K mg) : FnOk P w K mg base (L2.CX P w) 4 (mA "System" "numbers" K) (fdAt K (mA "System" "numbers" K)) ["self", "process"] (sp_numbers K) := by
  refine FunD.ok T.f_System_numbers sc_numbers (fun vs H Q E h => ?_) (fun cdv A outer s H vs Q E hr h => ?_)
  · obtain ⟨x, lo, rfl, _⟩ := h
    rfl
  · obtain ⟨S, x, rfl, hS, hx, hw, q⟩ := h
    have hu := hu_of hr
    refine ⟨_, pss_cons (ps_set (i := 2) sc_numbers.nd rfl (Or.inr rfl) (pe_meth (pv 0) T.c_System T.m_System_table_of (ok_table_of T) hr (b_table_of T) .nil (passes_call (takes_of rfl rfl rfl rfl) (fun _ _ _ _ h => h)) (pa_cons (pv 1) pa_nil)))
      (pss_one (ps_ret (pe_lc (own := [("number", 3)]) (g := gName 3) (tt := tYes) rfl sc_numbers.nd (pi_list (pe_callB (call_sortedDI rfl) (by rfl) T.free_sorted (by decide +kernel) (pa_cons (pv 2) pa_nil))) (blkOk_by (N := ["self", "process", "table", "number"]) (sc := defScope s_System_numbers) (by decide +kernel))
        (fun _ _ _ _ _ => pg_name (i := 3) sc_numbers.nd rfl (Or.inl rfl)) (fun _ _ _ _ _ => pts_nil) (fun _ _ _ _ _ => pe_tup (pa_cons (pv 3) (pa_cons
          (pe_prop2 (E := E0) (pe_dget hu (pe_fldK K (pv 0) rfl) (pe_dget hu (pv 2) (pv 3) (fun _ _ => rfl)) (fun _ _ => rfl)) T.c_Source T.p_Source_kind (ok_kind1 T) (hr.mono (by decide)) (b_kind1 T) pass0 T.c_WaitSet T.p_WaitSet_kind (ok_kind2 T) (hr.mono (by decide)) (b_kind2 T) pass0 rfl) pa_nil)))))), ?_⟩
    refine ⟨_, rfl, S.p, S.dx, _, rfl, hS.ob, rfl, _, rfl, S, x, rfl, hS, hx, ?_⟩
    rcases q with ⟨i, t, rfl, hl, q⟩ | ⟨hn, q⟩
    · refine .inl ⟨i, t, rfl, hl, ?_⟩
      have ht := hS.tt _ (lk_mem hl)
      have mem : (i, t.rows) ∈ S.v.tabs := List.mem_map.mpr ⟨_, lk_mem hl, rfl⟩
      have r8 : t.rows.length ≤ 8 := hw.rows8 mem
      refine ⟨_, rfl, _, _, t.rows.map (·.1), rfl, .inl ht, kv_keys _ _, by rw [List.length_map]; omega, fun ys p h1 h2 np => ?_⟩
      rw [srtI_eq h1 h2]
      refine ⟨p, rfl, ⟨_, SqL.of upd_same⟩, fun D nD => ?_⟩
      have eH : Same H (upd H p (.lst ((srtI (t.rows.map (·.1))).map V.int))) := new_same np
      refine lc_list (xs := (srtI (t.rows.map (·.1))).map V.int) (fun j H3 => Gro K (upd H p (.lst ((srtI (t.rows.map (·.1))).map V.int))) D H3 ((numsD S.v t.rows).take j)) (Gro.start nD) (fun j H3 hj g => SqL.of (g.same _ _ upd_same)) (fun j x H3 hx g => ?_) (fun H3 g => ?_)
      · rw [List.getElem?_map] at hx
        cases en : (srtI (t.rows.map (·.1)))[j]? with
        | none => rw [en] at hx; cases hx
        | some n =>
          rw [en] at hx
          cases hx
          have hn : n ∈ t.rows.map (·.1) := srtI_mem.mp (List.mem_of_getElem? en)
          obtain ⟨ser, hser⟩ := lk_some_of hn
          have hth := hw.th _ mem _ (lk_mem hser)
          obtain ⟨th, hth'⟩ := lk_some_of (show ser ∈ S.ths.map (·.1) from by rw [← Sy.sers]; exact hth)
          have e3 : Same H H3 := eH.trans g.same
          have S3 := hS.ext e3
          have g1 := DGet.k (k := Sum.inl n) (S3.tt _ (lk_mem hl))
          rw [val_kv, hser] at g1
          have g2 := DGet.k (k := Sum.inl ser) S3.gb
          rw [val_kv, hth'] at g2
          refine ⟨rfl, _, rfl, _, rfl, _, _, _, _, _, rfl, S3.ob, T.c_System, T.n_System_things, rfl, _, rfl, _, rfl, _, _, rfl, g1, _, _, rfl, g2, ?_⟩
          obtain ⟨dx, fs, hi⟩ := (S3.gt _ (lk_mem hth')).ins
          have dj : (numsD S.v t.rows)[j]? = some (.tuple [.int n, .str (kindAt S.v t.rows n)]) := by
            unfold numsD
            rw [List.getElem?_map, en]
            rfl
          have fin : ∀ (x : Str), kindAt S.v t.rows n = x → (2 ≤ sizeLine) ∧ ∀ p', H3 p' = none → ∃ acc, (upd H3 p' (.tup [.int n, .str x])) D = some (.lst acc) ∧ acc.length < sizeLine ∧ Gro K (upd H p (.lst ((srtI (t.rows.map (·.1))).map V.int))) D (upd (upd H3 p' (.tup [.int n, .str x])) D (.lst (acc ++ [.ref p']))) ((numsD S.v t.rows).take (j + 1)) := fun x ex => by
            refine ⟨by decide, fun p' np' => ?_⟩
            have d0 := g.tup (Same.refl _) np' (vs := [.int n, .str x]) (es := [.int n, .str x]) (.cons (.int n) (.cons (.str x) .nil))
            obtain ⟨acc, a1, a2, a3⟩ := g.add (new_same np') d0
            refine ⟨acc, a1, ?_, ?_⟩
            · rw [a2, List.length_take]
              have : (numsD S.v t.rows).length ≤ 8 := by unfold numsD; rw [List.length_map, srtI_len, List.length_map]; exact r8
              exact Nat.lt_of_le_of_lt (Nat.le_trans (Nat.min_le_right _ _) this) (by decide)
            · rw [List.take_succ, dj, ex]
              exact a3
          have kt : lk S.v.ths ser = some th.tg.v := by rw [Sy.ths_v, hth']; rfl
          rcases hi with ⟨h1, d, u, f, etg⟩ | ⟨h1, d, L, R, es, row, etg⟩
          · exact ⟨_, _, _, rfl, .inl ⟨h1, _, rfl, fin _ (by unfold kindAt; rw [hser]; simp only [kt]; rw [etg]; rfl)⟩⟩
          · exact ⟨_, _, _, rfl, .inr ⟨h1, _, rfl, fin _ (by unfold kindAt; rw [hser]; simp only [kt]; rw [etg]; rfl)⟩⟩
      · rw [show ((srtI (t.rows.map (·.1))).map V.int).length = (numsD S.v t.rows).length from by unfold numsD; rw [List.length_map, List.length_map], List.take_length] at g
        exact q _ _ ⟨eH.trans g.same, Dp.same (frs_old eH) _ _ g.fin⟩ (eH.free g.new) (by obtain ⟨xs, a, b⟩ := g.has; exact ⟨xs, a, DpAll.same (frs_le.trans off_le) _ _ b⟩)
    · exact .inr ⟨hn, q⟩
theorem b_numbers (T : Tx K mg) : Binds K (fdAt K (mA "System" "numbers" K)) ["self", "process"] [] := FunD.bindsN T.f_System_numbers fun _ _ _ _ _ _ us hl => match us, hl with | [_, _], _ => rfl
end

/-! ### who holds a thing -/
def hAt (tabs : List (Int × List (Int × Int))) (ser p : Int) : List (Int × Int) := match lk tabs p with
  | none => []
  | some rows => holdsIn ser p rows
theorem holds_eq (tabs : List (Int × List (Int × Int))) (ser : Int) : holds tabs ser = (srtI (tabs.map (·.1))).flatMap (hAt tabs ser) := rfl
def holdsD (l : List (Int × Int)) : List PyData := l.map fun r => .tuple [.int r.1, .int r.2]
theorem holdsIn_eq (ser p : Int) (rows : List (Int × Int)) : holdsD (holdsIn ser p rows) = ((srtI (rows.map (·.1))).filter fun n => decide (lk rows n = some ser)).map fun n => .tuple [.int p, .int n] := by
  unfold holdsD holdsIn
  rw [List.map_map]
  rfl
def sp_holders (K : PySem.W.Frag) : Sp := fun vs H Q _ => ∃ (s : Sy) (ser : Int), vs = [.ref s.p, .int ser] ∧ SyAt K H s ∧ WF0 s.v ∧ ∀ H' p, NewD K H H' (.ref p) (.list (holdsD (holds s.v.tabs ser))) → Q (.ref p) H'
theorem take_next {α : Type} {l : List α} {j : Nat} {x : α} (h : l[j]? = some x) : l.take (j + 1) = l.take j ++ [x] := by rw [List.take_succ, h]; rfl
theorem holdsIn_len {ser p : Int} {rows : List (Int × Int)} : (holdsIn ser p rows).length ≤ rows.length := by
  unfold holdsIn
  rw [List.length_map]
  refine Nat.le_trans (List.length_filter_le _ _) ?_
  rw [srtI_len, List.length_map]
  exact Nat.le_refl _
theorem WF0.hAt8 {v : Sv} (h : WF0 v) (ser p : Int) : (hAt v.tabs ser p).length ≤ 8 := by
  unfold hAt
  cases e : lk v.tabs p with
  | none => exact Nat.zero_le _
  | some rows => exact Nat.le_trans holdsIn_len (h.rows8 (lk_mem e))
theorem flat8 {l : List Int} {f : Int → List (Int × Int)} (h : ∀ p, (f p).length ≤ 8) : (l.flatMap f).length ≤ 8 * l.length := by
  induction l with
  | nil => exact Nat.zero_le _
  | cons a l ih =>
    rw [List.flatMap_cons, List.length_append, List.length_cons]
    have := h a
    omega
theorem WF0.holds48 {v : Sv} (h : WF0 v) (ser : Int) (j : Nat) : (((srtI (v.tabs.map (·.1))).take j).flatMap (hAt v.tabs ser)).length ≤ 48 := by
  have h1 := flat8 (l := (srtI (v.tabs.map (·.1))).take j) (h.hAt8 ser)
  have h2 : ((srtI (v.tabs.map (·.1))).take j).length ≤ 6 := by
    rw [List.length_take, srtI_len, List.length_map]
    exact Nat.le_trans (Nat.min_le_right _ _) h.tabs6
  omega
section
variable {P : Program} {w : World} {K : PySem.W.Frag} {mg : Str → Option Value} {base : Heap}
theorem sc_holders : FnScope ["self", "serial", "found", "process", "table", "number"] ["self", "serial"] (defScope s_System_holders) := ⟨rfl, rfl, rfl, by decide +kernel, rfl, by decide +kernel, by decide +kernel⟩
theorem ok_holders (T : Tx K mg) : FnOk P w K mg base CX0 4 (mA "System" "holders" K) (fdAt K (mA "System" "holders" K)) ["self", "serial"] (sp_holders K) := by
  refine FunD.ok T.f_System_holders sc_holders (fun vs H Q E h => ?_) (fun cdv A outer s H vs Q E hr h => ?_)
  · obtain ⟨x, lo, rfl, _⟩ := h
    rfl
  · obtain ⟨S, ser, rfl, hS, hw, q⟩ := h
    have hu := hu_of hr
    refine ⟨_, PSs.nox (pss_cons (ps_set (i := 2) sc_holders.nd rfl (Or.inl rfl) (pe_lst pa_nil))
      (pss_cons (ps_for PassesOwn.never rfl (pi_list (pe_meth0 (pv 0) T.c_System T.m_System_alive (ok_alive T) (hr.mono (by decide)) (b_alive T) .nil pass0)) (pg_name (i := 3) sc_holders.nd rfl (Or.inr rfl))
        (pss_cons (ps_set (i := 4) sc_holders.nd rfl (Or.inr rfl) (pe_dget hu (pe_fld (pv 0) rfl) (pv 3) (fun _ _ => rfl)))
        (pss_one (ps_expr (pe_bm PySem.F.plainAttrs_list PySem.F.slot_list_extend PySem.F.type_list_extend mt_extend (pv 2) (pa_cons
          (pe_lc (own := [("number", 5)]) (g := gName 5) rfl sc_holders.nd (pi_list (pe_callB (call_sortedDI rfl) (by rfl) T.free_sorted (by decide +kernel) (pa_cons (pv 4) pa_nil))) (blkOk_by (N := ["self", "serial", "found", "process", "table", "number"]) (sc := defScope s_System_holders) (by decide +kernel))
            (fun _ _ _ _ _ => pg_name (i := 5) sc_holders.nd rfl (Or.inl rfl)) (fun _ _ _ _ _ => pts_one (pt_cmpR op_eq (pe_dget hu (pv 4) (pv 5) (fun _ _ => rfl)) (pv 1) (nomark _))) (fun _ _ _ _ _ => pe_tup (pa_cons (pv 3) (pa_cons (pv 5) pa_nil)))) pa_nil))))))
      (pss_one (ps_ret (pv 2))))), ?_⟩
    refine ⟨by decide, fun F nF => ?_⟩
    have S0 := hS.ext (new_same (o := .lst []) nF)
    have h6 := hw.tabs6
    rw [show S.v.tabs.length = S.tabs.length from List.length_map ..] at h6
    refine ⟨_, rfl, S.p, S.dx, _, rfl, S0.ob, rfl, S, rfl, S0, by omega, fun pl npl => ?_⟩
    refine ⟨pl, rfl, ⟨_, SqL.of upd_same⟩, ?_⟩
    have nFl : F ≠ pl := fun z => by rw [← z, upd_same] at npl; cases npl
    have pids : S.tabs.map (·.1) = S.v.tabs.map (·.1) := (Sy.pids S).symm
    refine for_list (xs := (srtI (S.tabs.map (·.1))).map V.int) (fun j σ H3 => (∃ v3 v4 v5, σ = [some (.ref S.p), some (.int ser), some (.ref F), v3, v4, v5]) ∧ H3 pl = some (.lst ((srtI (S.tabs.map (·.1))).map V.int)) ∧ Gro K H F H3 (holdsD (((srtI (S.v.tabs.map (·.1))).take j).flatMap (hAt S.v.tabs ser))))
      ⟨⟨_, _, _, rfl⟩, upd_same, (Gro.start nF).ext (new_same npl)⟩ (fun j σ H3 hj g => SqL.of g.2.1) ?_ ?_
    · rintro j x σ H3 hx ⟨⟨v3, v4, v5, rfl⟩, hpl, g⟩
      rw [List.getElem?_map] at hx
      cases ep : (srtI (S.tabs.map (·.1)))[j]? with
      | none => rw [ep] at hx; cases hx
      | some p =>
        rw [ep] at hx
        cases hx
        obtain ⟨t, hl⟩ := lk_some_of (srtI_mem.mp (List.mem_of_getElem? ep))
        have S3 := hS.ext g.same
        have g1 := DGet.k (k := Sum.inl p) S3.tb
        rw [val_kv, hl] at g1
        have ht := S3.tt _ (lk_mem hl)
        have mem : (p, t.rows) ∈ S.v.tabs := List.mem_map.mpr ⟨_, lk_mem hl, rfl⟩
        have r8 : t.rows.length ≤ 8 := hw.rows8 mem
        have nd := hw.ndn _ mem
        obtain ⟨xs0, hF, _⟩ := g.has
        refine ⟨_, rfl, _, _, _, _, _, rfl, S3.ob, T.c_System, T.n_System_tables, rfl, _, rfl, _, _, rfl, g1, ?_⟩
        refine ⟨_, rfl, .inl ⟨rfl, _, SqL.of hF⟩, ?_⟩
        refine ⟨_, rfl, _, _, t.rows.map (·.1), rfl, .inl ht, kv_keys _ _, by rw [List.length_map]; omega, fun ys ps h1 h2 np => ?_⟩
        rw [srtI_eq h1 h2]
        refine ⟨ps, rfl, ⟨_, SqL.of upd_same⟩, fun D nD => ?_⟩
        have eH : Same H3 (upd H3 ps (.lst ((srtI (t.rows.map (·.1))).map V.int))) := new_same np
        refine lc_list (xs := (srtI (t.rows.map (·.1))).map V.int) (fun j H4 => Gro K (upd H3 ps (.lst ((srtI (t.rows.map (·.1))).map V.int))) D H4 ((((srtI (t.rows.map (·.1))).take j).filter fun n => decide (lk t.rows n = some ser)).map fun n => .tuple [.int p, .int n])) (Gro.start nD) (fun j H4 hj g => SqL.of (g.same _ _ upd_same)) (fun j x H4 hx gg => ?_) (fun H4 gg => ?_)
        · rw [List.getElem?_map] at hx
          cases en : (srtI (t.rows.map (·.1)))[j]? with
          | none => rw [en] at hx; cases hx
          | some n =>
            rw [en] at hx
            cases hx
            obtain ⟨z, hz⟩ := lk_some_of (srtI_mem.mp (List.mem_of_getElem? en))
            have S4 := S3.ext (eH.trans gg.same)
            have g2 := DGet.k (k := Sum.inl n) (S4.tt _ (lk_mem hl))
            rw [val_kv, hz] at g2
            refine ⟨rfl, _, rfl, _, rfl, _, _, rfl, g2, _, rfl, rfl, _, rfl, ?_⟩
            rw [take_next en, List.filter_append, List.map_append]
            have fl : ∀ (m : Nat), ((((srtI (t.rows.map (·.1))).take m).filter fun n => decide (lk t.rows n = some ser)).map fun n => (PyData.tuple [.int p, .int n])).length ≤ 8 := fun m => by
              rw [List.length_map]
              refine Nat.le_trans (List.length_filter_le _ _) ?_
              rw [List.length_take, srtI_len, List.length_map]
              exact Nat.le_trans (Nat.min_le_right _ _) r8
            by_cases c : z = ser
            · subst c
              rw [decide_eq_true (show V.int z = V.int z from rfl)]
              refine iteT ?_
              refine ⟨_, rfl, _, rfl, (by show 2 ≤ sizeLine; decide), fun p' np' => ?_⟩
              have d0 := gg.tup (Same.refl _) np' (vs := [.int p, .int n]) (es := [.int p, .int n]) (.cons (.int p) (.cons (.int n) .nil))
              obtain ⟨acc, a1, a2, a3⟩ := gg.add (new_same np') d0
              refine ⟨acc, a1, by rw [a2]; exact Nat.lt_of_le_of_lt (fl j) (by decide), ?_⟩
              rw [List.filter_cons, if_pos (decide_eq_true hz)]
              exact a3
            · rw [decide_eq_false (show V.int z ≠ V.int ser from fun q => c (V.int.inj q))]
              refine iteF ?_
              rw [List.filter_cons, if_neg (by rw [hz]; simpa using c), List.filter_nil, List.map_nil, List.append_nil]
              exact gg
        · rw [show ((srtI (t.rows.map (·.1))).map V.int).length = (srtI (t.rows.map (·.1))).length from List.length_map .., List.take_length, ← holdsIn_eq] at gg
          obtain ⟨xs, zs, a1, a2, a3, a4, a5⟩ := (g.ext eH).addAll gg
          refine ⟨_, _, xs, zs, rfl, rfl, a1, a2, ?_, ?_⟩
          · rw [a3, a4]
            have l1 := hw.holds48 ser j
            have l2 := holdsIn_len (ser := ser) (p := p) (rows := t.rows)
            have z1 : (holdsD (((srtI (S.v.tabs.map (·.1))).take j).flatMap (hAt S.v.tabs ser))).length = (((srtI (S.v.tabs.map (·.1))).take j).flatMap (hAt S.v.tabs ser)).length := List.length_map ..
            have z2 : (holdsD (holdsIn ser p t.rows)).length = (holdsIn ser p t.rows).length := List.length_map ..
            have z3 : (64 : Nat) ≤ sizeLine := by decide
            omega
          · have plF : pl ≠ F := Ne.symm nFl
            refine ⟨⟨_, _, _, rfl⟩, ?_, ?_⟩
            · rw [upd_ne plF]
              exact gg.same _ _ (eH _ _ hpl)
            · rw [← pids] 
              rw [take_next ep, List.flatMap_append]
              have e1 : holdsD (((srtI (S.tabs.map (·.1))).take j).flatMap (hAt S.v.tabs ser) ++ [p].flatMap (hAt S.v.tabs ser)) = holdsD (((srtI (S.v.tabs.map (·.1))).take j).flatMap (hAt S.v.tabs ser)) ++ holdsD (holdsIn ser p t.rows) := by
                unfold holdsD
                rw [List.map_append, pids]
                congr 2
                show hAt S.v.tabs ser p ++ [] = _
                rw [List.append_nil]
                unfold hAt
                rw [Sy.tabs_v, hl]
                rfl
              rw [e1]
              exact a5
    · rintro σ H3 ⟨⟨v3, v4, v5, rfl⟩, hpl, g⟩
      rw [show ((srtI (S.tabs.map (·.1))).map V.int).length = (srtI (S.v.tabs.map (·.1))).length from by rw [List.length_map, pids], List.take_length] at g
      exact ⟨_, rfl, q _ _ ⟨g.same, g.fin⟩⟩
theorem b_holders (T : Tx K mg) : Binds K (fdAt K (mA "System" "holders" K)) ["self", "serial"] [] := FunD.bindsN T.f_System_holders fun _ _ _ _ _ _ us hl => match us, hl with | [_, _], _ => rfl
end

/-! ### names, and the sets in the order of their names -/
def nameAt (v : Sv) (ser : Int) : Int × Int := (holds v.tabs ser).headD (0, 0)
def nameD (v : Sv) (ser : Int) : PyData := .tuple [.int (nameAt v ser).1, .int (nameAt v ser).2]
def sp_name_of (K : PySem.W.Frag) : Sp := fun vs H Q _ => ∃ (s : Sy) (ser : Int), vs = [.ref s.p, .int ser] ∧ SyAt K H s ∧ WF0 s.v ∧ holds s.v.tabs ser ≠ [] ∧ ∀ H' v, NewD K H H' v (nameD s.v ser) → Q v H'
def kdN (v : Sv) : V → PyData
  | .int ser => nameD v ser
  | _ => .tuple [.int 0, .int 0]
def setSers (v : Sv) : List Int := (v.ths.filter fun t => t.2.isSet).map (·.1)
def setsIn (v : Sv) : List Int := (setSers v).mergeSort fun a b => PySem.W.dataLe false (kdN v) (.int a) (.int b)
theorem setsIn_perm (v : Sv) : (setsIn v).Perm (setSers v) := List.mergeSort_perm _ _
theorem kdN_tup (v : Sv) (x : V) : ∃ a b, kdN v x = .tuple [.int a, .int b] := by
  cases x with
  | int i => exact ⟨_, _, rfl⟩
  | _ => exact ⟨0, 0, rfl⟩
theorem WF.held' {v : Sv} (h : WF v) {t : Int × Tv} (ht : t ∈ v.ths) : holds v.tabs t.1 ≠ [] := by
  obtain ⟨u, hu, r, hr, e⟩ := h.held t ht
  have l1 : lk v.tabs u.1 = some u.2 := lk_of_mem h.ndp hu
  have l2 : lk u.2 r.1 = some t.1 := by rw [lk_of_mem (h.ndn u hu) (show (r.1, r.2) ∈ u.2 from hr), e]
  intro z
  rw [holds_eq] at z
  have z1 := List.flatMap_eq_nil_iff.mp z u.1 (srtI_mem.mpr (List.mem_map.mpr ⟨u, hu, rfl⟩))
  unfold hAt at z1
  rw [l1] at z1
  unfold holdsIn at z1
  have z2 := List.map_eq_nil_iff.mp z1
  have : r.1 ∈ (srtI (u.2.map (·.1))).filter fun n => decide (lk u.2 n = some t.1) := List.mem_filter.mpr ⟨srtI_mem.mpr (List.mem_map.mpr ⟨r, hr, rfl⟩), decide_eq_true l2⟩
  rw [z2] at this
  cases this
/-- every set is held -/
def HeldS (v : Sv) : Prop := ∀ t ∈ v.ths, t.2.isSet = true → holds v.tabs t.1 ≠ []
theorem WF.heldS {v : Sv} (h : WF v) : HeldS v := fun t ht _ => h.held' ht
def sp_set_serials (K : PySem.W.Frag) : Sp := fun vs H Q _ => ∃ (s : Sy), vs = [.ref s.p] ∧ SyAt K H s ∧ WF0 s.v ∧ HeldS s.v ∧ s.made ≤ 1000000 ∧ ∀ H' p, Same H H' → H p = none → H' p = some (.lst ((setsIn s.v).map V.int)) → Q (.ref p) H'
section
variable {P : Program} {w : World} {K : PySem.W.Frag} {mg : Str → Option Value} {base : Heap}
theorem sc_name_of : FnScope ["self", "serial"] ["self", "serial"] (defScope s_System_name_of) := ⟨rfl, rfl, rfl, by decide +kernel, rfl, by decide +kernel, by decide +kernel⟩
theorem ok_name_of (T : Tx K mg) : FnOk P w K mg base CX0 5 (mA "System" "name_of" K) (fdAt K (mA "System" "name_of" K)) ["self", "serial"] (sp_name_of K) := by
  refine FunD.ok T.f_System_name_of sc_name_of (fun vs H Q E h => ?_) (fun cdv A outer s H vs Q E hr h => ?_)
  · obtain ⟨x, lo, rfl, _⟩ := h
    rfl
  · obtain ⟨S, ser, rfl, hS, hw, hn, q⟩ := h
    refine ⟨_, PSs.nox (pss_one (ps_ret (pe_ix ix_list (pe_meth (pv 0) T.c_System T.m_System_holders (ok_holders T) hr (b_holders T) .nil pass0 (pa_cons (pv 1) pa_nil)) pe_int (fun _ _ => rfl)))), ?_⟩
    refine ⟨_, rfl, S.p, S.dx, _, rfl, hS.ob, rfl, _, rfl, S, ser, rfl, hS, hw, fun H' p nd => ?_⟩
    cases e : holds S.v.tabs ser with
    | nil => exact (hn e).elim
    | cons r rest =>
      have nd' := nd.dat
      rw [e] at nd'
      generalize eV : V.ref p = vp at nd'
      cases nd' with
      | lst hs ha =>
        cases eV
        cases ha with
        | cons h1 h2 =>
          refine ⟨_, _, _, _, rfl, rfl, Same.seq frs_le hs, atI_nat (j := 0) rfl, q _ _ ⟨nd.same, ?_⟩⟩
          have : nameAt S.v ser = r := by unfold nameAt; rw [e]; rfl
          unfold nameD
          rw [this]
          exact h1
theorem b_name_of (T : Tx K mg) : Binds K (fdAt K (mA "System" "name_of" K)) ["self", "serial"] [] := FunD.bindsN T.f_System_name_of fun _ _ _ _ _ _ us hl => match us, hl with | [_, _], _ => rfl
theorem bm_name_of (T : Tx K mg) : BMeth K (ga K "System") "name_of" (mA "System" "name_of" K) := ⟨T.m_System_name_of, T.bm_System_name_of.1, T.bm_System_name_of.2.1, by decide, T.bm_System_name_of.2.2⟩
theorem sc_set_serials : FnScope ["self", "found", "serial"] ["self"] (defScope s_System_set_serials) := ⟨rfl, rfl, rfl, by decide +kernel, rfl, by decide +kernel, by decide +kernel⟩
theorem ok_set_serials (T : Tx K mg) : FnOk P w K mg base CX0 8 (mA "System" "set_serials" K) (fdAt K (mA "System" "set_serials" K)) ["self"] (sp_set_serials K) := by
  refine FunD.ok T.f_System_set_serials sc_set_serials (fun vs H Q E h => ?_) (fun cdv A outer s H vs Q E hr h => ?_)
  · obtain ⟨x, rfl, _⟩ := h
    rfl
  · obtain ⟨S, rfl, hS, hw, hld, hm, q⟩ := h
    have hu := hu_of hr
    refine ⟨_, PSs.nox (pss_cons (ps_lock (ps_setLc (i := 1) (own := [("serial", 2)]) (g := gName 2) rfl sc_set_serials.nd rfl rfl (sw_true rfl rfl rfl (by decide +kernel)) (pi_keys (pe_fld (pv 0) rfl)) (blkOk_by (N := ["self", "found", "serial"]) (sc := defScope s_System_set_serials) (by decide +kernel))
        (fun _ _ _ _ _ => pg_name (i := 2) sc_set_serials.nd rfl (Or.inl rfl)) (fun _ _ _ _ _ => pts_one (pt_val (pe_callB (call_isiK K) (by rfl) T.free_isinstance (by decide +kernel) (pa_cons (pe_dget hu (pe_fldK K (pv 0) rfl) (pv 2) (fun _ _ => rfl)) (pa_cons (pe_glob (v := .ref (ga K "WaitSet")) (by rfl) T.g_WaitSet rfl) pa_nil))))) (fun _ _ _ _ _ => pv 2)))
      (pss_one (ps_ret (pe_callBK (cr_sortMet (ok_name_of T) (hr.mono (by decide)) (b_name_of T) (fun _ _ _ _ h => h)) (by rfl) T.free_sorted (by decide +kernel) (pa_cons (pv 1) pa_nil) (pk_cons (pe_met (pv 0) T.c_System (bm_name_of T)) pk_nil))))), ?_⟩
    have nGp : S.p ≠ S.G := Ne.symm (hS.np (.inl (List.mem_cons_of_mem _ List.mem_cons_self)))
    refine ⟨S.G, _, hS.gb, True.intro, fun od => ?_⟩
    have kpO : ∀ {b : Addr} {o : HO}, b ≠ S.G → H b = some o → upd H S.G (.frz od (.dK (kv thV S.ths))) b = some o := fun h e => by rw [upd_ne h]; exact e
    refine ⟨_, rfl, _, _, _, _, _, rfl, kpO nGp hS.ob, T.c_System, T.n_System_things, rfl, S.G, od, rfl, .inl ⟨_, upd_same, fun D nD => ?_⟩⟩
    have nDG : D ≠ S.G := fun z => by rw [z, upd_same] at nD; cases nD
    have nD0 : H D = none := by rw [upd_ne nDG] at nD; exact nD
    have len : S.ths.length ≤ S.made.toNat := by
      have := hw.thsM
      rw [show S.v.ths.length = S.ths.length from List.length_map ..] at this
      exact this
    have sL : (1000000 : Nat) < sizeLine := by decide
    refine lc_it walk_keys (fun j H3 => H3 = upd (upd H S.G (.frz od (.dK (kv thV S.ths)))) D (.lst ((((S.ths.take j).filter fun t => t.2.tg.v.isSet).map (·.1)).map V.int))) rfl (fun j H3 hj e => by rw [e, upd_ne (Ne.symm nDG), upd_same]) (fun j x H3 H4 hj e3 y => ?_) (fun H3 e3 => ?_)
    · obtain ⟨rfl, kk, vv, g1, rfl⟩ := y
      obtain ⟨r, hr', rfl, rfl⟩ := kv_get g1
      subst e3
      have lkr : lk S.ths r.1 = some r.2 := lk_of_mem (by rw [← Sy.sers]; exact hw.nds) (List.mem_of_getElem? hr')
      have kp3 : ∀ {b : Addr} {o : HO}, b ≠ S.G → H b = some o → upd (upd H S.G (.frz od (.dK (kv thV S.ths)))) D (.lst ((((S.ths.take j).filter fun t => t.2.tg.v.isSet).map (·.1)).map V.int)) b = some o := fun h e => by rw [upd_ne (ne_of_none e nD0)]; exact kpO h e
      have dg : DGet (upd (upd H S.G (.frz od (.dK (kv thV S.ths)))) D (.lst ((((S.ths.take j).filter fun t => t.2.tg.v.isSet).map (·.1)).map V.int))) S.G (.int r.1) (some (thV r.2)) := .inl ⟨_, Sum.inl r.1, .inr ⟨od, by rw [upd_ne (Ne.symm nDG), upd_same]⟩, rfl, by rw [val_kv, lkr]; rfl⟩
      have mr := List.mem_of_getElem? hr'
      have ra : r.2.ad ≠ S.G := hS.dc_th (List.mem_cons_of_mem _ List.mem_cons_self) (.inl (Sy.th_in mr))
      refine ⟨rfl, _, rfl, _, _, _, _, _, rfl, kp3 nGp hS.ob, T.c_System, T.n_System_things, rfl, _, rfl, _, _, rfl, dg, ?_⟩
      rw [take_next hr', List.filter_append, List.map_append, List.map_append]
      obtain ⟨dx, fs, hi⟩ := (hS.gt _ mr).ins
      rcases hi with ⟨h1, d, u, f, etg⟩ | ⟨h1, d, L, R, es, row, etg⟩
      · refine ⟨_, _, .ref (ga K "Source"), .ref (ga K "WaitSet"), false, rfl, .own _, .base (.ins (kp3 ra h1) T.c_Source T.ci_Source (cls_get K) (cls_tak K) T.o_Source), T.q_Source_WaitSet, _, rfl, ?_⟩
        refine iteF ?_
        rw [List.filter_cons, if_neg (by rw [etg]; exact fun z => (nomatch z)), List.filter_nil, List.map_nil, List.map_nil, List.append_nil]
      · refine ⟨_, _, .ref (ga K "WaitSet"), .ref (ga K "WaitSet"), true, rfl, .own _, .base (.ins (kp3 ra h1) T.c_WaitSet T.ci_WaitSet (cls_get K) (cls_tak K) T.o_WaitSet), T.q_WaitSet_WaitSet, _, rfl, ?_⟩
        refine iteT ?_
        refine ⟨_, rfl, _, upd_same, ?_, ?_⟩
        · rw [List.length_map, List.length_map]
          have l1 := List.length_filter_le (fun t : Int × Th => t.2.tg.v.isSet) (S.ths.take j)
          rw [List.length_take] at l1
          omega
        · rw [List.filter_cons, if_pos (by rw [etg]; rfl), upd_upd]
          rfl
    · rw [kv_len, List.take_length] at e3
      refine ⟨by rw [e3, upd_ne (Ne.symm nDG), upd_same], ?_⟩
      have eH : upd H3 S.G (.dK (kv thV S.ths)) = upd H D (.lst ((setSers S.v).map V.int)) := by
        have es : (S.ths.filter fun t => t.2.tg.v.isSet).map (·.1) = setSers S.v := by
          unfold setSers
          show _ = ((S.ths.map fun t => (t.1, t.2.tg.v)).filter fun t => t.2.isSet).map (·.1)
          rw [List.filter_map, List.map_map]
          rfl
        rw [e3, es, upd_comm nDG, upd_upd, upd_idem hS.gb]
      rw [eH]
      have eD : Same H (upd H D (.lst ((setSers S.v).map V.int))) := new_same nD0
      have S1 := hS.ext eD
      refine ⟨_, rfl, _, rfl, S.p, S.dx, _, rfl, S1.ob, rfl, fun qm nq => ?_⟩
      have eq := new_same (o := .met (mA "System" "name_of" K) S.p) nq
      have kt := kdN_tup S.v
      refine ⟨D, qm, S.p, (setSers S.v).map V.int, kdN S.v, rfl, rfl, SqL.of (eq _ _ upd_same), upd_same, ?_, ?_, ?_, ?_, ?_⟩
      · exact PySem.W.AllAlike.of fun b b' => by
          obtain ⟨a1, a2, e1⟩ := kt b
          obtain ⟨b1, b2, e2⟩ := kt b'
          rw [e1, e2]
          rfl
      · exact PySem.W.Sortable.tuples fun b => by
          obtain ⟨a1, a2, e1⟩ := kt b
          exact ⟨_, _, e1⟩
      · intro x _
        obtain ⟨a1, a2, e1⟩ := kt x
        rw [e1]
        simp [PyData.depth, PyData.depthAll]
      · intro H1 x e1 hx
        obtain ⟨ser, hser, rfl⟩ := List.mem_map.mp hx
        obtain ⟨t, ht, rfl⟩ := List.mem_map.mp hser
        exact ⟨S, t.1, rfl, S1.ext (eq.trans e1), hw, hld _ (List.mem_filter.mp ht).1 (List.mem_filter.mp ht).2, fun H' v nd => ⟨nd.same, nd.dp⟩⟩
      · intro H2 p e2 np
        have e3 : Same H H2 := eD.trans (eq.trans e2)
        refine q _ _ (e3.trans (new_same np)) (e3.free np) ?_
        rw [upd_same]
        unfold setsIn
        rw [List.map_mergeSort (s := PySem.W.dataLe false (kdN S.v)) (fun a _ b _ => rfl)]
theorem b_set_serials (T : Tx K mg) : Binds K (fdAt K (mA "System" "set_serials" K)) ["self"] [] := FunD.bindsN T.f_System_set_serials fun _ _ _ _ _ _ us hl => match us, hl with | [_], _ => rfl
end

/-! ### what a number means -/
def errN (c : Str) (y : V) : List (Str × V) := [("number", y), ("caption", .str c)]
def ByNum (K : PySem.W.Frag) (t : Tb) (y : V) (H : Hp) (E : XK) (R : Int → Int → Prop) : Prop := (∃ n ser, y = .int n ∧ lk t.rows n = some ser ∧ R n ser) ∨ ((∀ n, y = .int n → lk t.rows n = none) ∧ Raised K H E "NotOpen" (errN "NotOpen" y))
def BySrc (K : PySem.W.Frag) (s : Sy) (x y : V) (H : Hp) (E : XK) (R : Int → Tb → Int → Int → Th → Prop) : Prop := ByProc K s x H E fun i t => ByNum K t y H E fun n ser => ∀ th, lk s.ths ser = some th → (th.tg.v.isSet = false → R i t n ser th) ∧ (th.tg.v.isSet = true → Raised K H E "NotASource" (errN "NotASource" y))
def sp_serial_at (K : PySem.W.Frag) : Sp := fun vs H Q E => ∃ (s : Sy) (x y : V), vs = [.ref s.p, x, y] ∧ SyAt K H s ∧ Obj' H x ∧ Obj' H y ∧ ByProc K s x H E fun _ t => ByNum K t y H E fun _ ser => Q (.int ser) H
def sp_source_at (K : PySem.W.Frag) : Sp := fun vs H Q E => ∃ (s : Sy) (x y : V), vs = [.ref s.p, x, y] ∧ SyAt K H s ∧ WF s.v ∧ Obj' H x ∧ Obj' H y ∧ BySrc K s x y H E fun _ _ _ ser _ => Q (.int ser) H
section
variable {P : Program} {w : World} {K : PySem.W.Frag} {mg : Str → Option Value} {base : Heap}
theorem ei_NotOpen (T : Tx K mg) : FnOk P w K mg base CX0 1 (mA "NotOpen" "__init__" K) (fdAt K (mA "NotOpen" "__init__" K)) ["self", "number"] (spErr (ga K "NotOpen") "number" "NotOpen") :=
  err_init T.x_NotOpen T.f_NotOpen___init__ ⟨rfl, rfl, rfl, by decide +kernel, rfl, by decide +kernel, by decide +kernel⟩ rfl ⟨by decide, by decide⟩ ⟨by decide, by decide⟩ (fun _ => ⟨rfl, rfl⟩) ⟨.inl rfl, .inl rfl⟩
theorem eb_NotOpen (T : Tx K mg) : Binds K (fdAt K (mA "NotOpen" "__init__" K)) ["self", "number"] [] := FunD.bindsN T.f_NotOpen___init__ fun _ _ _ _ _ _ us hl => match us, hl with | [_, _], _ => rfl
theorem ei_NotASource (T : Tx K mg) : FnOk P w K mg base CX0 1 (mA "NotASource" "__init__" K) (fdAt K (mA "NotASource" "__init__" K)) ["self", "number"] (spErr (ga K "NotASource") "number" "NotASource") :=
  err_init T.x_NotASource T.f_NotASource___init__ ⟨rfl, rfl, rfl, by decide +kernel, rfl, by decide +kernel, by decide +kernel⟩ rfl ⟨by decide, by decide⟩ ⟨by decide, by decide⟩ (fun _ => ⟨rfl, rfl⟩) ⟨.inl rfl, .inl rfl⟩
theorem eb_NotASource (T : Tx K mg) : Binds K (fdAt K (mA "NotASource" "__init__" K)) ["self", "number"] [] := FunD.bindsN T.f_NotASource___init__ fun _ _ _ _ _ _ us hl => match us, hl with | [_, _], _ => rfl
theorem sc_serial_at : FnScope ["self", "process", "number", "table"] ["self", "process", "number"] (defScope s_System_serial_at) := ⟨rfl, rfl, rfl, by decide +kernel, rfl, by decide +kernel, by decide +kernel⟩
theorem ok_serial_at (T : Tx K mg) : FnOk P w K mg base (L2.CX P w) 4 (mA "System" "serial_at" K) (fdAt K (mA "System" "serial_at" K)) ["self", "process", "number"] (sp_serial_at K) := by
  refine FunD.ok T.f_System_serial_at sc_serial_at (fun vs H Q E h => ?_) (fun cdv A outer s H vs Q E hr h => ?_)
  · obtain ⟨s, x, y, rfl, _⟩ := h
    rfl
  · obtain ⟨S, x, y, rfl, hS, hx, hy, q⟩ := h
    have hu := hu_of hr
    refine ⟨_, pss_cons (ps_set (i := 3) sc_serial_at.nd rfl (Or.inl rfl) (pe_meth (pv 0) T.c_System T.m_System_table_of (ok_table_of T) hr (b_table_of T) .nil (passes_call (takes_of rfl rfl rfl rfl) (fun _ _ _ _ h => h)) (pa_cons (pv 1) pa_nil)))
      (pss_cons (ps_if (PW.pt (pw_or (pt_not (pt_val (pe_call (ok_is_integer T) (hr.mono (by decide)) (by rfl) T.g_is_integer T.f_is_integer.kp (b_is_integer T) .nil pass0 (pa_cons (pv 2) pa_nil)))) (pw_or1 (pt_cmp (pc_dnotin hu (pv 2) (pv 3))))))
        (pss_one (ps_raise rfl (takes_of rfl rfl rfl rfl) (pmk_err T.x_NotOpen (ei_NotOpen T) (hr.mono (by decide)) (eb_NotOpen T) pass0 (by rfl) T.g_NotOpen (pv 2)))) pss_nil)
      (pss_one (ps_ret (pe_dget hu (pv 3) (pv 2) (fun _ _ => rfl))))), ?_⟩
    refine ⟨_, rfl, S.p, S.dx, _, rfl, hS.ob, rfl, _, rfl, S, x, rfl, hS, hx, ?_⟩
    rcases q with ⟨i, t, rfl, hl, q⟩ | ⟨hn, q⟩
    · refine .inl ⟨i, t, rfl, hl, ?_⟩
      have ht := hS.tt _ (lk_mem hl)
      refine ⟨_, rfl, y, rfl, hy, isI y, rfl, ?_⟩
      rcases q with ⟨n, ser, rfl, hs, q⟩ | ⟨hn, q⟩
      · have g := DGet.k (k := Sum.inl n) ht
        rw [val_kv, hs] at g
        refine iteF ⟨_, rfl, _, rfl, _, _, rfl, g, _, rfl, iteF ?_⟩
        exact ⟨_, rfl, _, rfl, _, _, rfl, g, q⟩
      · have er : ∃ v, ([some (V.ref S.p), some (V.int i), some y, some (V.ref t.ad)] : L2.St)[2]? = some (some v) ∧ ∀ d, H d = none → E (.ref (ga K "NotOpen")) (some d) (upd H d (.xd [("number", v), ("caption", .str "NotOpen")])) := ⟨y, rfl, fun d hd => q.here hd⟩
        cases y with
        | int n =>
          have g := DGet.k (k := Sum.inl n) ht
          rw [val_kv, hn n rfl] at g
          exact iteF ⟨_, rfl, _, rfl, _, _, rfl, g, _, rfl, iteT er⟩
        | _ => exact iteT er
    · exact .inr ⟨hn, q⟩
theorem b_serial_at (T : Tx K mg) : Binds K (fdAt K (mA "System" "serial_at" K)) ["self", "process", "number"] [] := FunD.bindsN T.f_System_serial_at fun _ _ _ _ _ _ us hl => match us, hl with | [_, _, _], _ => rfl
theorem WF.thing {s : Sy} (hw : WF s.v) {i n ser : Int} {t : Tb} (hl : lk s.tabs i = some t) (hs : lk t.rows n = some ser) : ∃ th, lk s.ths ser = some th := by
  have h := hw.th (i, t.rows) (List.mem_map.mpr ⟨_, lk_mem hl, rfl⟩) _ (lk_mem hs)
  rw [Sy.sers] at h
  exact lk_some_of h
theorem ty_src (T : Tx K mg) {H : Hp} {s : Sy} (S : SyAt K H s) {ser : Int} {th : Th} (h : lk s.ths ser = some th) : (th.tg.v.isSet = false ∧ TyX K H (.ref th.ad) (.ref (ga K "Source"))) ∨ (th.tg.v.isSet = true ∧ TyX K H (.ref th.ad) (.ref (ga K "WaitSet"))) := by
  obtain ⟨dx, fs, hi⟩ := (S.gt _ (lk_mem h)).ins
  rcases hi with ⟨h1, d, u, f, e⟩ | ⟨h1, d, L, R, es, row, e⟩
  · exact .inl ⟨by rw [show th.tg = _ from e]; rfl, .base (.ins h1 T.c_Source T.ci_Source (cls_get K) (cls_tak K) T.o_Source)⟩
  · exact .inr ⟨by rw [show th.tg = _ from e]; rfl, .base (.ins h1 T.c_WaitSet T.ci_WaitSet (cls_get K) (cls_tak K) T.o_WaitSet)⟩
theorem sc_source_at : FnScope ["self", "process", "number", "serial"] ["self", "process", "number"] (defScope s_System_source_at) := ⟨rfl, rfl, rfl, by decide +kernel, rfl, by decide +kernel, by decide +kernel⟩
theorem ok_source_at (T : Tx K mg) : FnOk P w K mg base (L2.CX P w) 5 (mA "System" "source_at" K) (fdAt K (mA "System" "source_at" K)) ["self", "process", "number"] (sp_source_at K) := by
  refine FunD.ok T.f_System_source_at sc_source_at (fun vs H Q E h => ?_) (fun cdv A outer s H vs Q E hr h => ?_)
  · obtain ⟨s, x, y, rfl, _⟩ := h
    rfl
  · obtain ⟨S, x, y, rfl, hS, hw, hx, hy, q⟩ := h
    have hu := hu_of hr
    refine ⟨_, pss_cons (ps_set (i := 3) sc_source_at.nd rfl (Or.inl rfl) (pe_meth (pv 0) T.c_System T.m_System_serial_at (ok_serial_at T) hr (b_serial_at T) .nil (passes_call (takes_of rfl rfl rfl rfl) (fun _ _ _ _ h => h)) (pa_cons (pv 1) (pa_cons (pv 2) pa_nil))))
      (pss_cons (ps_if (pt_not (pt_val (pe_callB call_isi (by rfl) T.free_isinstance (by decide +kernel) (pa_cons (pe_dget hu (pe_fld (pv 0) rfl) (pv 3) (fun _ _ => rfl)) (pa_cons (pe_glob (v := .ref (ga K "Source")) (by rfl) T.g_Source rfl) pa_nil)))))
        (pss_one (ps_raise rfl (takes_of rfl rfl rfl rfl) (pmk_err T.x_NotASource (ei_NotASource T) (hr.mono (by decide)) (eb_NotASource T) pass0 (by rfl) T.g_NotASource (pv 2)))) pss_nil)
      (pss_one (ps_ret (pv 3)))), ?_⟩
    refine ⟨_, rfl, S.p, S.dx, _, rfl, hS.ob, rfl, _, rfl, _, rfl, S, x, y, rfl, hS, hx, hy, ?_⟩
    rcases q with ⟨i, t, rfl, hl, q⟩ | ⟨hn, q⟩
    · refine .inl ⟨i, t, rfl, hl, ?_⟩
      rcases q with ⟨n, ser, rfl, hs, q⟩ | ⟨hn, q⟩
      · refine .inl ⟨n, ser, rfl, hs, ?_⟩
        obtain ⟨th, hth⟩ := hw.thing hl hs
        obtain ⟨q1, q2⟩ := q th hth
        have g := DGet.k (k := Sum.inl ser) hS.gb
        rw [val_kv, hth] at g
        refine ⟨_, rfl, _, _, _, _, _, rfl, hS.ob, T.c_System, T.n_System_things, rfl, _, rfl, _, _, rfl, g, ?_⟩
        rcases ty_src T hS hth with ⟨e, ty⟩ | ⟨e, ty⟩
        · refine ⟨_, _, _, .ref (ga K "Source"), true, rfl, .own _, ty, T.q_Source_Source, _, rfl, iteF ?_⟩
          exact ⟨_, rfl, q1 e⟩
        · refine ⟨_, _, _, .ref (ga K "Source"), false, rfl, .own _, ty, T.q_WaitSet_Source, _, rfl, iteT ?_⟩
          exact ⟨_, rfl, fun d hd => (q2 e).here hd⟩
      · exact .inr ⟨hn, q⟩
    · exact .inr ⟨hn, q⟩
theorem b_source_at (T : Tx K mg) : Binds K (fdAt K (mA "System" "source_at" K)) ["self", "process", "number"] [] := FunD.bindsN T.f_System_source_at fun _ _ _ _ _ _ us hl => match us, hl with | [_, _, _], _ => rfl
end

/-! ### looks at counts and words -/
def errC (x : V) : List (Str × V) := [("count", x), ("caption", .str "BadCount")]
def sp_look_count (K : PySem.W.Frag) : Sp := fun vs H Q E => ∃ x, vs = [x] ∧ Obj' H x ∧ (betw x 1 1000000 = true → Q .non H) ∧ (betw x 1 1000000 = false → Raised K H E "BadCount" (errC x))
section
variable {P : Program} {w : World} {K : PySem.W.Frag} {mg : Str → Option Value} {base : Heap}
theorem ei_BadCount (T : Tx K mg) : FnOk P w K mg base CX0 1 (mA "BadCount" "__init__" K) (fdAt K (mA "BadCount" "__init__" K)) ["self", "count"] (spErr (ga K "BadCount") "count" "BadCount") :=
  err_init T.x_BadCount T.f_BadCount___init__ ⟨rfl, rfl, rfl, by decide +kernel, rfl, by decide +kernel, by decide +kernel⟩ rfl ⟨by decide, by decide⟩ ⟨by decide, by decide⟩ (fun _ => ⟨rfl, rfl⟩) ⟨.inl rfl, .inl rfl⟩
theorem eb_BadCount (T : Tx K mg) : Binds K (fdAt K (mA "BadCount" "__init__" K)) ["self", "count"] [] := FunD.bindsN T.f_BadCount___init__ fun _ _ _ _ _ _ us hl => match us, hl with | [_, _], _ => rfl
theorem sc_look_count : FnScope ["thing"] ["thing"] (defScope s_look_count) := ⟨rfl, rfl, rfl, by decide +kernel, rfl, by decide +kernel, by decide +kernel⟩
theorem ok_look_count (T : Tx K mg) : FnOk P w K mg base (L2.CX P w) 3 (gA "look_count" K) (fdAt K (gA "look_count" K)) ["thing"] (sp_look_count K) := by
  refine FunD.ok T.f_look_count sc_look_count (fun vs H Q E h => ?_) (fun cdv A outer s H vs Q E hr h => ?_)
  · obtain ⟨x, rfl, _⟩ := h
    rfl
  · obtain ⟨x, rfl, hx, q1, q2⟩ := h
    obtain ⟨t1, i1⟩ := T.i_MOST_COUNT
    refine ⟨_, pss_one (ps_if (pt_not (pt_val (pe_call (ok_is_between T) hr (by rfl) T.g_is_between T.f_is_between.kp (b_is_between T) .nil pass0 (pa_cons (pv 0) (pa_cons pe_int (pa_cons (pe_glob (v := .int 1000000) (by rfl) i1 ⟨_, rfl⟩) pa_nil))))))
        (pss_one (ps_raise rfl (takes_of rfl rfl rfl rfl) (pmk_err T.x_BadCount (ei_BadCount T) hr (eb_BadCount T) pass0 (by rfl) T.g_BadCount (pv 0)))) pss_nil), ?_⟩
    refine ⟨_, rfl, x, 1, 1000000, rfl, hx, _, rfl, ?_⟩
    cases c : betw x 1 1000000 with
    | true => exact iteF (q1 c)
    | false => exact iteT ⟨_, rfl, fun d hd => (q2 c).here hd⟩
theorem b_look_count (T : Tx K mg) : Binds K (fdAt K (gA "look_count" K)) ["thing"] [] := FunD.bindsN T.f_look_count fun _ _ _ _ _ _ us hl => match us, hl with | [_], _ => rfl
end
/-! ### what a source and a set do -/
def sp_append_pending (K : PySem.W.Frag) : Sp := fun vs H Q _ => ∃ (a dx L R : Addr) (es : List En) (row : List Int) (e : En), vs = [.ref a, .ref e.ad] ∧ TgAt K H a (.set dx L R es row) ∧ EntF K ∧ H e.ad = some (.ins (ga K "Entry") e.dx (entF e)) ∧ row.length ≤ 1000000 ∧ Q .non (upd H R (.lst ((pendR row e.lab e.arm).map V.int)))
section
variable {P : Program} {w : World} {K : PySem.W.Frag} {mg : Str → Option Value} {base : Heap}
end

section
variable {P : Program} {w : World} {K : PySem.W.Frag} {mg : Str → Option Value} {base : Heap}
theorem inV_ints (x : Int) (l : List Int) : inV (.int x) (l.map V.int) = decide (x ∈ l) := by
  unfold inV
  rw [Bool.eq_iff_iff, List.any_map, List.any_eq_true, decide_eq_true_eq]
  constructor
  · rintro ⟨y, hy, e⟩
    have : y = x := by simpa [eqV] using e
    exact this ▸ hy
  · intro h
    exact ⟨x, h, by simp [eqV]⟩
theorem flat_ints (l : List Int) : (l.map V.int).all flatV = true := by
  rw [List.all_eq_true]
  intro x hx
  obtain ⟨y, _, rfl⟩ := List.mem_map.mp hx
  rfl
theorem sc_append_pending : FnScope ["self", "entry"] ["self", "entry"] (defScope s_WaitSet_append_pending) := ⟨rfl, rfl, rfl, by decide +kernel, rfl, by decide +kernel, by decide +kernel⟩
theorem ok_append_pending (T : Tx K mg) : FnOk P w K mg base CX0 1 (mA "WaitSet" "append_pending" K) (fdAt K (mA "WaitSet" "append_pending" K)) ["self", "entry"] (sp_append_pending K) := by
  refine FunD.ok T.f_WaitSet_append_pending sc_append_pending (fun vs H Q E h => ?_) (fun cdv A outer s H vs Q E hr h => ?_)
  · obtain ⟨a, dx, L, R, es, row, e, rfl, _⟩ := h
    rfl
  · obtain ⟨a, dx, L, R, es, row, e, rfl, ⟨h1, h2, h3, h4⟩, hE, he, hz, q⟩ := h
    refine ⟨_, PSs.nox (pss_one (ps_if (PW.pt (pw_and (pt_val (pe_fld (pv 1) rfl)) (pw_and1 (pt_cmpR op_notIn_seq (pe_fld (pv 1) rfl) (pe_fld (pv 0) rfl) (by rfl)))))
        (pss_one (ps_expr (pe_bm PySem.F.plainAttrs_list PySem.F.slot_list_append PySem.F.type_list_append mt_append (pe_fld (pv 0) rfl) (pa_cons (pe_fld (pv 1) rfl) pa_nil)))) pss_nil)), ?_⟩
    refine ⟨_, rfl, _, _, _, _, _, rfl, he, hE.c, hE.armed, rfl, e.arm, rfl, ?_⟩
    have same : pendR row e.lab e.arm = row → Q .non H := fun z => by
      rw [z, upd_idem h3] at q
      exact q
    cases ea : e.arm with
    | false =>
      refine iteF ?_
      exact same (by unfold pendR; rw [ea]; rfl)
    | true =>
      refine iteT ⟨_, rfl, _, _, _, _, _, rfl, he, hE.c, hE.label, rfl, _, rfl, _, _, _, _, _, rfl, h1, T.c_WaitSet, T.n_WaitSet_row, rfl, R, _, rfl, .inl (SqL.of h3), rfl, flat_ints row, _, rfl, ?_⟩
      rw [if_pos rfl, inV_ints]
      by_cases c : e.lab ∈ row
      · rw [decide_eq_true c]
        refine iteF ?_
        exact same (by unfold pendR; rw [if_neg (fun z => z.2 c)])
      · rw [decide_eq_false c]
        have er : pendR row e.lab e.arm = row ++ [e.lab] := by unfold pendR; rw [if_pos ⟨ea, c⟩]
        refine iteT ⟨_, rfl, _, _, _, _, _, rfl, h1, T.c_WaitSet, T.n_WaitSet_row, rfl, .inl ⟨rfl, _, SqL.of h3⟩, _, rfl, _, _, _, _, _, rfl, he, hE.c, hE.label, rfl, R, _, _, rfl, rfl, h3, ?_, ?_⟩
        · rw [List.length_map]
          exact Nat.lt_of_le_of_lt hz (by decide)
        · rw [er, List.map_append] at q
          exact q
theorem b_append_pending (T : Tx K mg) : Binds K (fdAt K (mA "WaitSet" "append_pending" K)) ["self", "entry"] [] := FunD.bindsN T.f_WaitSet_append_pending fun _ _ _ _ _ _ us hl => match us, hl with | [_, _], _ => rfl
end

/-! ### pending of all sets -/
theorem fm_congr {α β : Type} {f g : α → List β} : ∀ {l : List α}, (∀ x ∈ l, f x = g x) → l.flatMap f = l.flatMap g
  | [], _ => rfl
  | a :: l, h => by rw [List.flatMap_cons, List.flatMap_cons, h a List.mem_cons_self, fm_congr fun x hx => h x (List.mem_cons_of_mem _ hx)]
theorem nodup_part {α β : Type} {f : α → List β} : ∀ {l : List α} {x : α}, (l.flatMap f).Nodup → x ∈ l → (f x).Nodup
  | a :: l, x, h, hx => by
    rw [List.flatMap_cons] at h
    obtain ⟨d1, d2, _⟩ := List.nodup_append.mp h
    rcases List.mem_cons.mp hx with z | z
    · exact z ▸ d1
    · exact nodup_part d2 z
def Tg.pend (ser : Int) : Tg → Tg
  | .src dx u f => .src dx u f
  | .set dx L R es row => .set dx L R es (pendA ser (es.map En.v) row)
theorem Tg.pend_v (ser : Int) (tg : Tg) : (tg.pend ser).v = tg.v.pend ser := by cases tg <;> rfl
theorem Tg.pend_lsts (ser : Int) (tg : Tg) : (tg.pend ser).lsts = tg.lsts := by cases tg <;> rfl
theorem Tg.pend_ents (ser : Int) (tg : Tg) : (tg.pend ser).ents = tg.ents := by cases tg <;> rfl
def Sy.pendK (s : Sy) (ser : Int) (done : List Int) : Sy := { s with ths := s.ths.map fun t => if t.1 ∈ done then (t.1, ⟨t.2.ad, t.2.tg.pend ser⟩) else t }
theorem pendK_lk (s : Sy) (ser : Int) (done : List Int) (n : Int) : lk (s.pendK ser done).ths n = (lk s.ths n).map fun t => if n ∈ done then ⟨t.ad, t.tg.pend ser⟩ else t := by
  have e : (s.pendK ser done).ths = s.ths.map fun t => (t.1, if t.1 ∈ done then (⟨t.2.ad, t.2.tg.pend ser⟩ : Th) else t.2) := by
    show (s.ths.map fun t => if t.1 ∈ done then (t.1, (⟨t.2.ad, t.2.tg.pend ser⟩ : Th)) else t) = _
    refine List.map_congr_left fun t _ => ?_
    split <;> rfl
  rw [e, lk_mapK (fun k t => if k ∈ done then (⟨t.ad, t.tg.pend ser⟩ : Th) else t)]
theorem pendK_keys (s : Sy) (ser : Int) (done : List Int) : (s.pendK ser done).ths.map (·.1) = s.ths.map (·.1) := by
  show (s.ths.map fun t => if t.1 ∈ done then (t.1, (⟨t.2.ad, t.2.tg.pend ser⟩ : Th)) else t).map (·.1) = _
  rw [List.map_map]
  refine List.map_congr_left fun t _ => ?_
  show (if t.1 ∈ done then (t.1, (⟨t.2.ad, t.2.tg.pend ser⟩ : Th)) else t).1 = t.1
  split <;> rfl
theorem pendK_nil (s : Sy) (ser : Int) : s.pendK ser [] = s := by
  unfold Sy.pendK
  have : (s.ths.map fun t => if t.1 ∈ ([] : List Int) then (t.1, (⟨t.2.ad, t.2.tg.pend ser⟩ : Th)) else t) = s.ths := by
    rw [show (fun t : Int × Th => if t.1 ∈ ([] : List Int) then (t.1, (⟨t.2.ad, t.2.tg.pend ser⟩ : Th)) else t) = id from by funext t; rw [if_neg (List.not_mem_nil)]; rfl]
    exact List.map_id _
  rw [this]
theorem pendK_foot (s : Sy) (ser : Int) (done : List Int) : (s.pendK ser done).foot = s.foot := by
  have e1 : (s.pendK ser done).ths' = s.ths' := by
    show (s.ths.map fun t => if t.1 ∈ done then (t.1, (⟨t.2.ad, t.2.tg.pend ser⟩ : Th)) else t).map (·.2.ad) = s.ths.map (·.2.ad)
    rw [List.map_map]
    refine List.map_congr_left fun t _ => ?_
    show (if t.1 ∈ done then (t.1, (⟨t.2.ad, t.2.tg.pend ser⟩ : Th)) else t).2.ad = t.2.ad
    split <;> rfl
  have e2 : (s.pendK ser done).lsts = s.lsts := by
    show (s.ths.map fun t => if t.1 ∈ done then (t.1, (⟨t.2.ad, t.2.tg.pend ser⟩ : Th)) else t).flatMap (·.2.tg.lsts) = s.ths.flatMap (·.2.tg.lsts)
    rw [List.flatMap_map]
    refine fm_congr fun t _ => ?_
    show (if t.1 ∈ done then (t.1, (⟨t.2.ad, t.2.tg.pend ser⟩ : Th)) else t).2.tg.lsts = t.2.tg.lsts
    split
    · exact Tg.pend_lsts _ _
    · rfl
  have e3 : (s.pendK ser done).ents = s.ents := by
    show (s.ths.map fun t => if t.1 ∈ done then (t.1, (⟨t.2.ad, t.2.tg.pend ser⟩ : Th)) else t).flatMap (·.2.tg.ents) = s.ths.flatMap (·.2.tg.ents)
    rw [List.flatMap_map]
    refine fm_congr fun t _ => ?_
    show (if t.1 ∈ done then (t.1, (⟨t.2.ad, t.2.tg.pend ser⟩ : Th)) else t).2.tg.ents = t.2.tg.ents
    split
    · exact Tg.pend_ents _ _
    · rfl
  show s.p :: (s.dcs ++ ((s.pendK ser done).ths' ++ ((s.pendK ser done).lsts ++ (s.pendK ser done).ents))) = _
  rw [e1, e2, e3]
  rfl
/-- one more set is done -/
theorem pendK_step (s : Sy) (ser : Int) (done : List Int) {n : Int} {t : Th} (hl : lk s.ths n = some t) (nd : (s.ths.map (·.1)).Nodup) (hn : n ∉ done) : (s.pendK ser done).re n t.ad (t.tg.pend ser) = s.pendK ser (done ++ [n]) := by
  unfold Sy.re Sy.pendK upAt
  congr 1
  rw [List.map_map]
  refine List.map_congr_left fun u hu => ?_
  show (if (if u.1 ∈ done then (u.1, (⟨u.2.ad, u.2.tg.pend ser⟩ : Th)) else u).1 = n then ((if u.1 ∈ done then (u.1, (⟨u.2.ad, u.2.tg.pend ser⟩ : Th)) else u).1, (⟨t.ad, t.tg.pend ser⟩ : Th)) else (if u.1 ∈ done then (u.1, (⟨u.2.ad, u.2.tg.pend ser⟩ : Th)) else u)) = if u.1 ∈ done ++ [n] then (u.1, (⟨u.2.ad, u.2.tg.pend ser⟩ : Th)) else u
  by_cases c : u.1 = n
  · have z := lk_of_mem nd (show (u.1, u.2) ∈ s.ths from hu)
    rw [c, hl] at z
    cases z
    have nd' : u.1 ∉ done := fun q => hn (c ▸ q)
    rw [if_neg nd', if_pos c, if_pos (show u.1 ∈ done ++ [n] by simp [c])]
  · by_cases d : u.1 ∈ done
    · rw [if_pos d, if_neg (show ¬ (u.1, (⟨u.2.ad, u.2.tg.pend ser⟩ : Th)).1 = n from c), if_pos (List.mem_append_left _ d)]
    · rw [if_neg d, if_neg c, if_neg (by simp [d, c])]
theorem pendK_v (s : Sy) (ser : Int) {done : List Int} (h : ∀ t ∈ s.ths, t.2.tg.v.isSet = true → t.1 ∈ done) : (s.pendK ser done).v = s.v.pend ser := by
  show (⟨s.P, s.N, s.made, _, (s.ths.map fun t => if t.1 ∈ done then (t.1, (⟨t.2.ad, t.2.tg.pend ser⟩ : Th)) else t).map fun t => (t.1, t.2.tg.v)⟩ : Sv) = ⟨s.P, s.N, s.made, _, (s.ths.map fun t => (t.1, t.2.tg.v)).map fun t => (t.1, t.2.pend ser)⟩
  congr 1
  rw [List.map_map, List.map_map]
  refine List.map_congr_left fun t ht => ?_
  show ((if t.1 ∈ done then (t.1, (⟨t.2.ad, t.2.tg.pend ser⟩ : Th)) else t).1, (if t.1 ∈ done then (t.1, (⟨t.2.ad, t.2.tg.pend ser⟩ : Th)) else t).2.tg.v) = (t.1, t.2.tg.v.pend ser)
  split
  · rw [Tg.pend_v]
  · rename_i c
    cases e : t.2.tg with
    | src dx u f => rfl
    | set dx L R es row => exact absurd (h t ht (by rw [e]; rfl)) c
def sp_pend (K : PySem.W.Frag) : Sp := fun vs H Q _ => ∃ (s : Sy) (ser : Int), vs = [.ref s.p, .int ser] ∧ SyAt K H s ∧ WF s.v ∧ s.made ≤ 1000000 ∧ ∀ H' s', SyAt K H' s' → s'.v = s.v.pend ser → Fr' s s' H H' → Q .non H'
theorem setSers_mem {s : Sy} {n : Int} (h : n ∈ setSers s.v) : ∃ t, (n, t) ∈ s.ths ∧ t.tg.v.isSet = true := by
  unfold setSers at h
  obtain ⟨u, hu, rfl⟩ := List.mem_map.mp h
  obtain ⟨h1, h2⟩ := List.mem_filter.mp hu
  obtain ⟨t, ht, rfl⟩ := List.mem_map.mp (show u ∈ s.ths.map fun t => (t.1, t.2.tg.v) from h1)
  exact ⟨t.2, ht, h2⟩
theorem setSers_nodup {v : Sv} (h : WF0 v) : (setSers v).Nodup := by
  unfold setSers
  exact (h.nds.sublist ((List.filter_sublist (l := v.ths)).map (·.1)))
section
variable {P : Program} {w : World} {K : PySem.W.Frag} {mg : Str → Option Value} {base : Heap}
theorem sc_pend : FnScope ["self", "serial", "other", "waiting", "entry"] ["self", "serial"] (defScope s_System_pend) := ⟨rfl, rfl, rfl, by decide +kernel, rfl, by decide +kernel, by decide +kernel⟩
theorem ok_pend (T : Tx K mg) : FnOk P w K mg base CX0 9 (mA "System" "pend" K) (fdAt K (mA "System" "pend" K)) ["self", "serial"] (sp_pend K) := by
  refine FunD.ok T.f_System_pend sc_pend (fun vs H Q E h => ?_) (fun cdv A outer s H vs Q E hr h => ?_)
  · obtain ⟨x, ser, rfl, _⟩ := h
    rfl
  · obtain ⟨S, ser, rfl, hS, hw, hm, q⟩ := h
    have hu := hu_of hr
    refine ⟨_, PSs.nox (pss_one (ps_for PassesOwn.never rfl (pi_list (pe_meth0 (pv 0) T.c_System T.m_System_set_serials (ok_set_serials T) hr (b_set_serials T) .nil pass0)) (pg_name (i := 2) sc_pend.nd rfl (Or.inl rfl))
      (pss_cons (ps_set (i := 3) sc_pend.nd rfl (Or.inl rfl) (pe_dget hu (pe_fld (pv 0) rfl) (pv 2) (fun _ _ => rfl)))
      (pss_one (ps_for PassesOwn.never rfl (pi_list (pe_fld (pv 3) rfl)) (pg_name (i := 4) sc_pend.nd rfl (Or.inl rfl))
        (pss_one (ps_if (pt_cmpR op_eq (pe_fld (pv 4) rfl) (pv 1) (nomark _))
          (pss_one (ps_expr (pe_meth (pv 3) T.c_WaitSet T.m_WaitSet_append_pending (ok_append_pending T) (hr.mono (by decide)) (b_append_pending T) .nil pass0 (pa_cons (pv 4) pa_nil)))) pss_nil))))))), ?_⟩
    refine ⟨_, rfl, S.p, S.dx, _, rfl, hS.ob, rfl, S, rfl, hS, hw.w0, hw.heldS, hm, fun H1 pl e1 npl h1 => ?_⟩
    have plf : pl ∉ S.foot := hS.notfoot npl
    have nds : (S.ths.map (·.1)).Nodup := by rw [← Sy.sers]; exact hw.nds
    have ndx : (setsIn S.v).Nodup := (setsIn_perm S.v).nodup_iff.mpr (setSers_nodup hw.w0)
    refine ⟨pl, rfl, ⟨_, SqL.of h1⟩, ?_⟩
    refine for_list (xs := (setsIn S.v).map V.int) (fun k σ H' => (∃ v2 v3 v4, σ = [some (.ref S.p), some (.int ser), v2, v3, v4]) ∧ SyAt K H' (S.pendK ser ((setsIn S.v).take k)) ∧ (∀ b o, H1 b = some o → b ∉ S.foot → H' b = some o)) ⟨⟨_, _, _, rfl⟩, by rw [List.take_zero, pendK_nil]; exact hS.ext e1, fun b o h _ => h⟩ (fun k σ H' hk g => SqL.of (g.2.2 _ _ h1 plf)) ?_ ?_
    · rintro k x σ H' hx ⟨⟨v2, v3, v4, rfl⟩, hK, kp⟩
      rw [List.getElem?_map] at hx
      cases en : (setsIn S.v)[k]? with
      | none => rw [en] at hx; cases hx
      | some n =>
        rw [en] at hx
        cases hx
        obtain ⟨t, ht, hset⟩ := setSers_mem ((setsIn_perm S.v).mem_iff.mp (List.mem_of_getElem? en))
        have hl : lk S.ths n = some t := lk_of_mem nds ht
        have hnd : n ∉ (setsIn S.v).take k := by
          intro z
          have s1 : (setsIn S.v).take (k + 1) = (setsIn S.v).take k ++ [n] := take_next en
          have nd1 : ((setsIn S.v).take (k + 1)).Nodup := ndx.sublist (List.take_sublist _ _)
          rw [s1] at nd1
          exact (List.nodup_append.mp nd1).2.2 n z n (List.mem_singleton.mpr rfl) rfl
        have hl' : lk (S.pendK ser ((setsIn S.v).take k)).ths n = some t := by rw [pendK_lk, hl, Option.map_some, if_neg hnd]
        have nds' : ((S.pendK ser ((setsIn S.v).take k)).ths.map (·.1)).Nodup := by rw [pendK_keys]; exact nds
        have g := DGet.k (k := Sum.inl n) hK.gb
        rw [val_kv, hl'] at g
        have tg := hK.gt _ (lk_mem hl')
        cases et : t.tg with
        | src dx u f => rw [et] at hset; cases hset
        | set dx L R es row =>
          have et' : (n, t).2.tg = .set dx L R es row := et
          rw [et'] at tg
          obtain ⟨t1, t2, t3, t4⟩ := tg
          refine ⟨_, rfl, _, _, _, _, _, rfl, hK.ob, T.c_System, T.n_System_things, rfl, _, rfl, _, _, rfl, g, ?_⟩
          refine ⟨_, rfl, _, _, _, _, _, rfl, t1, T.c_WaitSet, T.n_WaitSet_entries, rfl, L, rfl, ⟨_, SqL.of t2⟩, ?_⟩
          have so : SetOk S.v (es.map En.v) row := hw.ok (n, t.tg.v) (List.mem_map.mpr ⟨(n, t), ht, rfl⟩) _ _ (by show t.tg.v = _; rw [et]; rfl)
          have nLR : L ≠ R := by
            have : [L, R].Nodup := by
              have q2 : t.tg.lsts = [L, R] := by rw [et]; rfl
              rw [← q2]
              exact nodup_part (f := fun t : Int × Th => t.2.tg.lsts) hK.nl (lk_mem hl')
            simp at this
            exact this
          have naR : t.ad ≠ R := ne_of t1 t3 fun z => nomatch z
          have nE : ∀ e ∈ es, e.ad ≠ R := fun e he => ne_of (t4 e he) t3 fun z => nomatch z
          refine for_list (xs := es.map fun e => V.ref e.ad) (fun j σ H2 => (∃ v4, σ = [some (.ref S.p), some (.int ser), some (.int n), some (.ref t.ad), v4]) ∧ H2 = upd H' R (.lst ((pendA ser ((es.take j).map En.v) row).map V.int))) ⟨⟨_, rfl⟩, by rw [List.take_zero]; exact (upd_idem t3).symm⟩ (fun j σ H2 hj g => by rw [g.2]; exact SqL.of (by rw [upd_ne nLR]; exact t2)) ?_ ?_
          · rintro j x σ H2 hx ⟨⟨v4, rfl⟩, rfl⟩
            rw [List.getElem?_map] at hx
            cases ee : es[j]? with
            | none => rw [ee] at hx; cases hx
            | some e =>
              rw [ee] at hx
              cases hx
              have he := List.mem_of_getElem? ee
              have zl : es.length ≤ mostE := by have := so.2.2.2.2.2; rw [List.length_map] at this; exact this
              have hE : upd H' R (.lst ((pendA ser ((es.take j).map En.v) row).map V.int)) e.ad = some (.ins (ga K "Entry") e.dx (entF e)) := by rw [upd_ne (nE e he)]; exact t4 e he
              refine ⟨_, rfl, _, _, _, _, _, rfl, hE, (ent_of T he zl).c, (ent_of T he zl).serial, rfl, _, rfl, rfl, _, rfl, ?_⟩
              have nx : pendA ser ((es.take (j + 1)).map En.v) row = if e.ser = ser then pendR (pendA ser ((es.take j).map En.v) row) e.lab e.arm else pendA ser ((es.take j).map En.v) row := by
                rw [take_next ee, List.map_append, pendA_app]
                rfl
              by_cases c : e.ser = ser
              · rw [decide_eq_true (show V.int e.ser = V.int ser from by rw [c])]
                refine iteT ⟨_, rfl, t.ad, dx, _, rfl, by rw [upd_ne naR]; exact t1, rfl, _, rfl, t.ad, dx, L, R, es, pendA ser ((es.take j).map En.v) row, e, rfl, ⟨by rw [upd_ne naR]; exact t1, by rw [upd_ne nLR]; exact t2, upd_same, fun x hx => by rw [upd_ne (nE x hx)]; exact t4 x hx⟩, ent_of T he zl, hE, ?_, ⟨_, rfl⟩, ?_⟩
                · have r := pendA_ok (ser := ser) (l := (es.take j).map En.v) (fun x hx => by
                    obtain ⟨y, hy, rfl⟩ := List.mem_map.mp hx
                    exact List.mem_map.mpr ⟨y, List.mem_of_mem_take hy, rfl⟩) so.row
                  exact Nat.le_trans (Nat.le_trans r.len so.2.2.2.2.2) mostE_le
                · rw [upd_upd, nx, if_pos c]
              · rw [decide_eq_false (show V.int e.ser ≠ V.int ser from fun z => c (V.int.inj z))]
                refine iteF ⟨⟨_, rfl⟩, ?_⟩
                rw [nx, if_neg c]
          · rintro σ H2 ⟨⟨v4, rfl⟩, rfl⟩
            rw [List.length_map, List.take_length]
            have hRe : SyAt K (upd H' R (.lst ((pendA ser (es.map En.v) row).map V.int))) ((S.pendK ser ((setsIn S.v).take k)).re n t.ad (t.tg.pend ser)) := by
              refine hK.re hl' nds' (fun b hb n1 n2 n3 => ?_) ?_ (fun x hx => .inl ?_) (fun x hx => .inl ?_) ?_ ?_
              · rw [upd_ne (fun z => n2 (by rw [et, z]; simp [Tg.lsts]))]
              · rw [et]
                exact ⟨by rw [upd_ne naR]; exact t1, by rw [upd_ne nLR]; exact t2, upd_same, fun x hx => by rw [upd_ne (nE x hx)]; exact t4 x hx⟩
              · rw [Tg.pend_lsts] at hx
                exact hx
              · rw [Tg.pend_ents] at hx
                exact hx
              · rw [Tg.pend_lsts, et]
                simp [Tg.lsts, nLR]
              · rw [Tg.pend_ents]
                exact nodup_part (f := fun t : Int × Th => t.2.tg.ents) hK.ne (lk_mem hl')
            rw [pendK_step S ser _ hl nds hnd, ← take_next en] at hRe
            refine ⟨⟨_, _, _, rfl⟩, hRe, fun b o h nb => ?_⟩
            have nbR : b ≠ R := fun z => nb (by
              rw [z]
              exact Sy.in_lsts (Sy.ls_in ht (by rw [et']; simp [Tg.lsts])))
            rw [upd_ne nbR]
            exact kp b o h nb
    · rintro σ H' ⟨⟨v2, v3, v4, rfl⟩, hK, kp⟩
      rw [List.length_map, List.take_length] at hK
      refine q _ _ hK (pendK_v S ser fun t ht hs => ?_) ⟨fun b o h nb => kp b o (e1 _ _ h) nb, fun b hb => .inl (by rw [pendK_foot] at hb; exact hb), rfl⟩
      refine (setsIn_perm S.v).mem_iff.mpr ?_
      unfold setSers
      exact List.mem_map.mpr ⟨(t.1, t.2.tg.v), List.mem_filter.mpr ⟨List.mem_map.mpr ⟨t, ht, rfl⟩, hs⟩, rfl⟩
theorem b_pend (T : Tx K mg) : Binds K (fdAt K (mA "System" "pend" K)) ["self", "serial"] [] := FunD.bindsN T.f_System_pend fun _ _ _ _ _ _ us hl => match us, hl with | [_, _], _ => rfl
end

/-! ### units arrive, units are read -/
theorem WF.re {v : Sv} (h : WF v) {n : Int} {tv tv' : Tv} (hl : lk v.ths n = some tv) (hk : tv'.isSet = tv.isSet) (hs : ∀ es row, tv' = .set es row → SetOk v es row) : WF (v.re n tv') := by
  rw [Sv.re_map]
  refine h.mapT (fun t ht => ?_) (fun t ht es row e => ?_)
  · by_cases c : t.1 = n
    · have z := lk_of_mem h.nds (show (t.1, t.2) ∈ v.ths from ht)
      rw [c, hl] at z
      cases z
      show (if t.1 = n then tv' else t.2).isSet = _
      rw [if_pos c]
      exact hk
    · show (if t.1 = n then tv' else t.2).isSet = _
      rw [if_neg c]
  · by_cases c : t.1 = n
    · rw [show (if t.1 = n then tv' else t.2) = tv' from if_pos c] at e
      exact hs es row e
    · rw [show (if t.1 = n then tv' else t.2) = t.2 from if_neg c] at e
      exact h.ok t ht es row e
theorem src_of {tg : Tg} (h : tg.v.isSet = false) : ∃ dx u f, tg = .src dx u f := by
  cases tg with
  | src dx u f => exact ⟨_, _, _, rfl⟩
  | set dx L R es row => cases h
theorem set_of {tg : Tg} (h : tg.v.isSet = true) : ∃ dx L R es row, tg = .set dx L R es row := by
  cases tg with
  | src dx u f => cases h
  | set dx L R es row => exact ⟨_, _, _, _, _, rfl⟩
/-- a source's units are changed -/
theorem SyAt.units {K : PySem.W.Frag} {H : Hp} {s : Sy} (S : SyAt K H s) (hw : WF s.v) {n : Int} {th : Th} {dx : Addr} {u : Int} {f : Bool} (hl : lk s.ths n = some th) (ht : th.tg = .src dx u f) (u' : Int) (f' : Bool) :
    SyAt K (upd H th.ad (.ins (ga K "Source") dx (srcF u' f'))) (s.re n th.ad (.src dx u' f')) ∧ (s.re n th.ad (.src dx u' f')).v = s.v.re n (.src u' f') ∧ WF (s.v.re n (.src u' f')) ∧ Fr' s (s.re n th.ad (.src dx u' f')) H (upd H th.ad (.ins (ga K "Source") dx (srcF u' f'))) := by
  have nds : (s.ths.map (·.1)).Nodup := by rw [← Sy.sers]; exact hw.nds
  refine ⟨S.re hl nds (fun b hb n1 n2 n3 => by rw [upd_ne n1]) upd_same (fun x hx => (nomatch hx)) (fun x hx => (nomatch hx)) List.nodup_nil List.nodup_nil, Sy.re_v .., hw.re (tv := .src u f) (by rw [Sy.ths_v, hl, Option.map_some, ht]; rfl) rfl (fun es row e => (nomatch e)), ⟨fun b o h nb => ?_, fun b hb => ?_, rfl⟩⟩
  · rw [upd_ne (show b ≠ th.ad from fun z => nb (z ▸ Sy.in_ths (Sy.th_in (lk_mem hl))))]
    exact h
  · rcases Sy.re_foot hl nds hb with z | z | z
    · exact .inl z
    · cases z
    · cases z
def sp_arrive (K : PySem.W.Frag) : Sp := fun vs H Q E => ∃ (s : Sy) (x y m : V), vs = [.ref s.p, x, y, m] ∧ SyAt K H s ∧ WF s.v ∧ s.made ≤ 1000000 ∧ Obj' H x ∧ Obj' H y ∧ Obj' H m ∧ BySrc K s x y H E fun _ _ _ ser th =>
  (betw m 1 1000000 = false → Raised K H E "BadCount" (errC m)) ∧ ∀ k u f, m = .int k → 1 ≤ k → k ≤ 1000000 → th.tg.v = .src u f → (f = true → Raised K H E "Finished" (errN "Finished" y)) ∧ (f = false → ∀ H' s', SyAt K H' s' → s'.v = (s.v.re ser (.src (u + k) f)).pend ser → Fr' s s' H H' → Q .non H')
section
variable {P : Program} {w : World} {K : PySem.W.Frag} {mg : Str → Option Value} {base : Heap}
theorem ei_Finished (T : Tx K mg) : FnOk P w K mg base CX0 1 (mA "Finished" "__init__" K) (fdAt K (mA "Finished" "__init__" K)) ["self", "number"] (spErr (ga K "Finished") "number" "Finished") :=
  err_init T.x_Finished T.f_Finished___init__ ⟨rfl, rfl, rfl, by decide +kernel, rfl, by decide +kernel, by decide +kernel⟩ rfl ⟨by decide, by decide⟩ ⟨by decide, by decide⟩ (fun _ => ⟨rfl, rfl⟩) ⟨.inl rfl, .inl rfl⟩
theorem eb_Finished (T : Tx K mg) : Binds K (fdAt K (mA "Finished" "__init__" K)) ["self", "number"] [] := FunD.bindsN T.f_Finished___init__ fun _ _ _ _ _ _ us hl => match us, hl with | [_, _], _ => rfl
theorem sc_arrive : FnScope ["self", "process", "number", "many", "source"] ["self", "process", "number", "many"] (defScope s_System_arrive) := ⟨rfl, rfl, rfl, by decide +kernel, rfl, by decide +kernel, by decide +kernel⟩
theorem ok_arrive (T : Tx K mg) : FnOk P w K mg base (L2.CX P w) 10 (mA "System" "arrive" K) (fdAt K (mA "System" "arrive" K)) ["self", "process", "number", "many"] (sp_arrive K) := by
  refine FunD.ok T.f_System_arrive sc_arrive (fun vs H Q E h => ?_) (fun cdv A outer s H vs Q E hr h => ?_)
  · obtain ⟨s, x, y, m, rfl, _⟩ := h
    rfl
  · obtain ⟨S, x, y, m, rfl, hS, hw, hm, hx, hy, hM, q⟩ := h
    have hu := hu_of hr
    refine ⟨_, pss_cons (ps_set (i := 4) sc_arrive.nd rfl (Or.inl rfl) (pe_dget hu (pe_fld (pv 0) rfl) (pe_meth (pv 0) T.c_System T.m_System_source_at (ok_source_at T) (hr.mono (by decide)) (b_source_at T) .nil (passes_call (takes_of rfl rfl rfl rfl) (fun _ _ _ _ h => h)) (pa_cons (pv 1) (pa_cons (pv 2) pa_nil))) (fun _ _ => rfl)))
      (pss_cons (ps_expr (pe_call (ok_look_count T) (hr.mono (by decide)) (by rfl) T.g_look_count T.f_look_count.kp (b_look_count T) .nil (passes_call (takes_of rfl rfl rfl rfl) (fun _ _ _ _ h => h)) (pa_cons (pv 3) pa_nil)))
      (pss_cons (ps_if (pt_val (pe_fld (pv 4) rfl)) (pss_one (ps_raise rfl (takes_of rfl rfl rfl rfl) (pmk_err T.x_Finished (ei_Finished T) (hr.mono (by decide)) (eb_Finished T) pass0 (by rfl) T.g_Finished (pv 2)))) pss_nil)
      (pss_cons (ps_fldaug (pv 4) (pv 3) in_add)
      (pss_one (ps_expr (pe_meth (pv 0) T.c_System T.m_System_pend (ok_pend T) hr (b_pend T) .nil pass0 (pa_cons (pe_meth (pv 0) T.c_System T.m_System_serial_at (ok_serial_at T) (hr.mono (by decide)) (b_serial_at T) .nil (passes_call (takes_of rfl rfl rfl rfl) (fun _ _ _ _ h => h)) (pa_cons (pv 1) (pa_cons (pv 2) pa_nil))) pa_nil))))))), ?_⟩
    refine ⟨_, rfl, _, _, _, _, _, rfl, hS.ob, T.c_System, T.n_System_things, rfl, _, rfl, S.p, S.dx, _, rfl, hS.ob, rfl, _, rfl, _, rfl, S, x, y, rfl, hS, hw, hx, hy, ?_⟩
    rcases q with ⟨i, t, rfl, hl, q⟩ | ⟨hn, q⟩
    · refine .inl ⟨i, t, rfl, hl, ?_⟩
      rcases q with ⟨n, ser, rfl, hs, q⟩ | ⟨hn, q⟩
      · refine .inl ⟨n, ser, rfl, hs, fun th hth => ?_⟩
        obtain ⟨q1, q2⟩ := q th hth
        refine ⟨fun e => ?_, q2⟩
        obtain ⟨q3, q4⟩ := q1 e
        obtain ⟨dx, u, f, et⟩ := src_of e
        have g := DGet.k (k := Sum.inl ser) hS.gb
        rw [val_kv, hth] at g
        have hta := hS.gt _ (lk_mem hth)
        rw [show ((ser, th) : Int × Th).2.tg = .src dx u f from et] at hta
        refine ⟨_, _, rfl, g, _, rfl, m, rfl, hM, fun c => ?_, q3⟩
        obtain ⟨k, rfl, k1, k2⟩ := betw_int c
        obtain ⟨q5, q6⟩ := q4 k u f rfl k1 k2 (by rw [et]; rfl)
        refine ⟨_, rfl, _, _, _, _, _, rfl, hta, T.c_Source, T.n_Source_finished, rfl, f, rfl, ?_⟩
        cases f with
        | true => exact iteT ⟨_, rfl, fun d hd => (q5 rfl).here hd⟩
        | false =>
          refine iteF ⟨_, rfl, _, _, _, _, _, rfl, hta, T.c_Source, T.n_Source_unread, rfl, _, rfl, _, _, rfl, rfl, _, _, hta, (by show 2 < 1000; decide), ?_⟩
          obtain ⟨S1, v1, w1, f1⟩ := hS.units hw hth et (u + k) false
          refine ⟨_, rfl, S.p, S.dx, _, rfl, S1.ob, rfl, _, rfl, S.p, S.dx, _, rfl, S1.ob, rfl, _, rfl, _, rfl, S.re ser th.ad (.src dx (u + k) false), .int i, .int n, rfl, S1, True.intro, True.intro, .inl ⟨i, t, rfl, hl, .inl ⟨n, ser, rfl, hs, ?_⟩⟩⟩
          refine ⟨S.re ser th.ad (.src dx (u + k) false), ser, rfl, S1, by rw [v1]; exact w1, hm, fun H' s' h' v' f' => ?_⟩
          exact q6 rfl H' s' h' (by rw [v', v1]) (f1.trans f')
      · exact .inr ⟨hn, q⟩
    · exact .inr ⟨hn, q⟩
theorem b_arrive (T : Tx K mg) : ∃ ds, Vals [] ds ∧ Binds K (fdAt K (mA "System" "arrive" K)) ["self", "process", "number", "many"] ds := by
  have z := FunD.binds1 (ps := ["self", "process", "number", "many"]) T.f_System_arrive 4 1 (fun z => nomatch z) rfl fun T kV doc pm an cdv ct us its l1 l2 => match us, its, l1, l2 with | [_, _, _, _], [_], _, _ => ⟨_, rfl, rfl⟩
  exact z
end

section
variable {P : Program} {w : World} {K : PySem.W.Frag} {mg : Str → Option Value} {base : Heap}
end

/-! ### row_of -/
section
variable {P : Program} {w : World} {K : PySem.W.Frag} {mg : Str → Option Value} {base : Heap}
end

/-! ### a registration is added -/
section
variable {P : Program} {w : World} {K : PySem.W.Frag} {mg : Str → Option Value} {base : Heap}
end

section
variable {P : Program} {w : World} {K : PySem.W.Frag} {mg : Str → Option Value} {base : Heap}
theorem SyAt.setLR {H : Hp} {s : Sy} (S : SyAt K H s) {ser : Int} {th : Th} {dx L R : Addr} {es : List En} {row : List Int} (hl : lk s.ths ser = some th) (et : th.tg = .set dx L R es row) : L ≠ R ∧ (es.map (·.ad)).Nodup := by
  constructor
  · have z := nodup_part (f := fun t : Int × Th => t.2.tg.lsts) S.nl (lk_mem hl)
    rw [show ((ser, th) : Int × Th).2.tg.lsts = [L, R] from by rw [show ((ser, th) : Int × Th).2.tg = _ from et]; rfl] at z
    simp at z
    exact z
  · have z := nodup_part (f := fun t : Int × Th => t.2.tg.ents) S.ne (lk_mem hl)
    rw [show ((ser, th) : Int × Th).2.tg.ents = es.map (·.ad) from by rw [show ((ser, th) : Int × Th).2.tg = _ from et]; rfl] at z
    exact z
end

/-! ### a wait, plainly -/
/-- registrations that are alike but for their arms -/
structure Alike (es0 es : List En) : Prop where
  ads : es.map (·.ad) = es0.map (·.ad)
  lab : (es.map En.v).map (·.lab) = (es0.map En.v).map (·.lab)
  key : (es.map En.v).map (fun e => (e.num, e.ser)) = (es0.map En.v).map fun e => (e.num, e.ser)
theorem Alike.refl (es : List En) : Alike es es := ⟨rfl, rfl, rfl⟩
/-- a list of data that grows while the heap changes -/
structure Gd (K : PySem.W.Frag) (H1 : Hp) (D : Addr) (H' : Hp) (ds : List PyData) : Prop where
  new : H1 D = none
  has : ∃ xs, H' D = some (.lst xs) ∧ DpAll K (frs H1 (off D H')) xs ds
theorem Gd.start {K : PySem.W.Frag} {H1 : Hp} {D : Addr} (h : H1 D = none) : Gd K H1 D (upd H1 D (.lst [])) [] := ⟨h, [], upd_same, .nil⟩
theorem frs_keep {H1 H' H'' : Hp} {D : Addr} (k : ∀ b o, H1 b = none → b ≠ D → H' b = some o → H'' b = some o) : Same (frs H1 (off D H')) (frs H1 (off D H'')) := fun b o h => by
  have hb : H1 b = none := by
    cases q : H1 b with
    | none => rfl
    | some _ => unfold frs at h; rw [q] at h; cases h
  rw [frs_new hb] at h ⊢
  have ne : b ≠ D := fun z => by unfold off at h; rw [if_pos z] at h; cases h
  rw [off_ne ne] at h ⊢
  exact k b o hb ne h
theorem Gd.keep {K : PySem.W.Frag} {H1 H' H'' : Hp} {D : Addr} {ds : List PyData} (g : Gd K H1 D H' ds) (k : ∀ b o, H1 b = none → H' b = some o → H'' b = some o) : Gd K H1 D H'' ds := by
  obtain ⟨xs, h1, h2⟩ := g.has
  exact ⟨g.new, xs, k D _ g.new h1, DpAll.same (frs_keep fun b o hb _ h => k b o hb h) _ _ h2⟩
theorem Gd.add {K : PySem.W.Frag} {H1 H' : Hp} {D p : Addr} {ds es : List PyData} {vs : List V} (g : Gd K H1 D H' ds) (hp : H' p = none) (hp1 : H1 p = none) (hd : ∀ H, DpAll K H vs es) : ∃ xs, upd H' p (.tup vs) D = some (.lst xs) ∧ xs.length = ds.length ∧ Gd K H1 D (upd (upd H' p (.tup vs)) D (.lst (xs ++ [.ref p]))) (ds ++ [.tuple es]) := by
  obtain ⟨xs, h1, h2⟩ := g.has
  have ne : D ≠ p := fun z => by rw [← z, h1] at hp; cases hp
  refine ⟨xs, by rw [upd_ne ne]; exact h1, dpLen h2, g.new, _, upd_same, dpApp (DpAll.same (frs_keep fun b o hb n h => ?_) _ _ h2) (.cons (.tup (SqT.of ?_) (hd _)) .nil)⟩
  · rw [upd_ne n, upd_ne (ne_of_none h hp)]
    exact h
  · rw [frs_new hp1, off_ne (Ne.symm ne), upd_ne (Ne.symm ne), upd_same]
theorem Gd.fin {K : PySem.W.Frag} {H1 H' : Hp} {D : Addr} {ds : List PyData} (g : Gd K H1 D H' ds) : Dp K (frs H1 H') (.ref D) (.list ds) := by
  obtain ⟨xs, h1, h2⟩ := g.has
  exact .lst (SqL.of (by rw [frs_new g.new]; exact h1)) (DpAll.same (frs_mono off_le) _ _ h2)
section
variable {P : Program} {w : World} {K : PySem.W.Frag} {mg : Str → Option Value} {base : Heap}
end

/-! ### registrations by their keys; changes -/
section
variable {P : Program} {w : World} {K : PySem.W.Frag} {mg : Str → Option Value} {base : Heap}
theorem SyAt.resets {H H' : Hp} {S : Sy} (hS : SyAt K H S) {ser : Int} {th : Th} {dx L R : Addr} {es : List En} {row : List Int} (hth : lk S.ths ser = some th) (et : th.tg = .set dx L R es row) (nds : (S.ths.map (·.1)).Nodup) {dx' L' R' : Addr} {es' : List En} {row' : List Int}
    (t : TgAt K H' th.ad (.set dx' L' R' es' row')) (kp : ∀ b o, H b = some o → b ≠ th.ad → b ≠ L → b ≠ R → b ∉ es.map (·.ad) → H' b = some o) (hL : L' = L ∨ H L' = none) (hR : R' = R ∨ H R' = none) (nLR : L' ≠ R') (hE : ∀ a ∈ es'.map (·.ad), a ∈ es.map (·.ad) ∨ H a = none) (nde : (es'.map (·.ad)).Nodup) :
    SyAt K H' (S.re ser th.ad (.set dx' L' R' es' row')) ∧ Fr' S (S.re ser th.ad (.set dx' L' R' es' row')) H H' := by
  have tm := lk_mem hth
  have inT : th.ad ∈ S.foot := Sy.in_ths (Sy.th_in tm)
  have inL : ∀ x ∈ [L, R], x ∈ S.foot := fun x hx => Sy.in_lsts (Sy.ls_in tm (by rw [show ((ser, th) : Int × Th).2.tg = _ from et]; exact hx))
  have inE : ∀ x ∈ es.map (·.ad), x ∈ S.foot := fun x hx => Sy.in_ents (Sy.en_in tm (by rw [show ((ser, th) : Int × Th).2.tg = _ from et]; exact hx))
  have cl : ∀ x ∈ [L', R'], x ∈ [L, R] ∨ H x = none := fun x hx => by
    simp only [List.mem_cons, List.not_mem_nil, or_false] at hx ⊢
    rcases hx with z | z
    · rcases hL with q | q
      · exact .inl (.inl (z.trans q))
      · exact .inr (by rw [z]; exact q)
    · rcases hR with q | q
      · exact .inl (.inr (z.trans q))
      · exact .inr (by rw [z]; exact q)
  refine ⟨hS.re hth nds (fun b hb n1 n2 n3 => ?_) t (fun x hx => ?_) (fun x hx => ?_) ?_ nde, ⟨fun b o h nb => ?_, fun b hb => ?_, rfl⟩⟩
  · obtain ⟨o, ho⟩ := hS.some_of hb
    rw [ho]
    exact kp b o ho n1 (fun z => n2 (by rw [et, z]; simp [Tg.lsts])) (fun z => n2 (by rw [et, z]; simp [Tg.lsts])) (fun z => n3 (by rw [et]; exact z))
  · rcases cl x hx with z | z
    · exact .inl (by rw [et]; exact z)
    · exact .inr (hS.notfoot z)
  · rcases hE x hx with z | z
    · exact .inl (by rw [et]; exact z)
    · exact .inr (hS.notfoot z)
  · show [L', R'].Nodup
    simp [nLR]
  · exact kp b o h (fun z => nb (z ▸ inT)) (fun z => nb (z ▸ inL L (by simp))) (fun z => nb (z ▸ inL R (by simp))) (fun z => nb (inE b z))
  · rcases Sy.re_foot hth nds hb with z | z | z
    · exact .inl z
    · rcases cl b z with q | q
      · exact .inl (inL b q)
      · exact .inr q
    · rcases hE b z with q | q
      · exact .inl (inE b q)
      · exact .inr q
end

/-! ### change -/
section
variable {P : Program} {w : World} {K : PySem.W.Frag} {mg : Str → Option Value} {base : Heap}
end

/-! ### drop, remove -/
def dropR (lab : Int) (row : List Int) : List Int := row.filter fun x => decide (x ≠ lab)
def dropN (lab : Int) (es : List En) : List En := es.filter fun e => decide (e.lab ≠ lab)
def sp_drop (K : PySem.W.Frag) : Sp := fun vs H Q _ => ∃ (a dx L R : Addr) (es : List En) (row : List Int) (e : En), vs = [.ref a, .ref e.ad] ∧ TgAt K H a (.set dx L R es row) ∧ EntF K ∧ H e.ad = some (.ins (ga K "Entry") e.dx (entF e)) ∧ es.length ≤ 1000000 ∧ row.length ≤ 1000000 ∧
  ∀ H' L' R', H L' = none → H R' = none → L' ≠ R' → H' a = some (.ins (ga K "WaitSet") dx (setF L' R')) → H' L' = some (.lst ((dropN e.lab es).map fun e => .ref e.ad)) → H' R' = some (.lst ((dropR e.lab row).map V.int)) → (∀ b o, H b = some o → b ≠ a → H' b = some o) → Q .non H'
section
variable {P : Program} {w : World} {K : PySem.W.Frag} {mg : Str → Option Value} {base : Heap}
theorem sc_drop : FnScope ["self", "entry", "one", "label"] ["self", "entry"] (defScope s_WaitSet_drop) := ⟨rfl, rfl, rfl, by decide +kernel, rfl, by decide +kernel, by decide +kernel⟩
theorem filter_take {α : Type} {p : α → Bool} {l : List α} {i : Nat} {x : α} (h : l[i]? = some x) : (l.take (i + 1)).filter p = (l.take i).filter p ++ if p x then [x] else [] := by
  rw [List.take_succ, h, List.filter_append]
  cases c : p x <;> simp [c]
theorem ok_drop (T : Tx K mg) : FnOk P w K mg base CX0 1 (mA "WaitSet" "drop" K) (fdAt K (mA "WaitSet" "drop" K)) ["self", "entry"] (sp_drop K) := by
  refine FunD.ok T.f_WaitSet_drop sc_drop (fun vs H Q E h => ?_) (fun cdv A outer s H vs Q E hr h => ?_)
  · obtain ⟨a, dx, L, R, es, row, e, rfl, _⟩ := h
    rfl
  · obtain ⟨a, dx, L, R, es, row, e, rfl, ht, hE, he, z1, z2, q⟩ := h
    refine ⟨_, PSs.nox (pss_cons (ps_fld (pv 0) (pe_lc (own := [("one", 2)]) (g := gName 2) rfl sc_drop.nd (pi_list (pe_fld (pv 0) rfl)) (blkOk_by (N := ["self", "entry", "one", "label"]) (sc := defScope s_WaitSet_drop) (by decide +kernel))
        (fun _ _ _ _ _ => pg_name (i := 2) sc_drop.nd rfl (Or.inl rfl)) (fun _ _ _ _ _ => pts_one (pt_cmpR op_ne (pe_fldK K (pv 2) rfl) (pe_fldK K (pv 1) rfl) (nomark _))) (fun _ _ _ _ _ => pv 2)) rfl)
      (pss_one (ps_fld (pv 0) (pe_lc (own := [("label", 3)]) (g := gName 3) rfl sc_drop.nd (pi_list (pe_fld (pv 0) rfl)) (blkOk_by (N := ["self", "entry", "one", "label"]) (sc := defScope s_WaitSet_drop) (by decide +kernel))
        (fun _ _ _ _ _ => pg_name (i := 3) sc_drop.nd rfl (Or.inl rfl)) (fun _ _ _ _ _ => pts_one (pt_cmpR op_ne (pv 3) (pe_fldK K (pv 1) rfl) (nomark _))) (fun _ _ _ _ _ => pv 3)) rfl))), ?_⟩
    refine ⟨_, rfl, _, _, _, _, _, rfl, ht.1, T.c_WaitSet, T.n_WaitSet_entries, rfl, L, rfl, ⟨_, SqL.of ht.2.1⟩, fun D nD => ?_⟩
    refine lc_list (xs := es.map fun x => V.ref x.ad) (fun j H3 => Same H H3 ∧ H3 D = some (.lst (((es.take j).filter fun x => decide (x.lab ≠ e.lab)).map fun x => V.ref x.ad))) ⟨new_same nD, upd_same⟩ (fun j H3 _ g => SqL.of (g.1 _ _ ht.2.1)) ?_ ?_
    · rintro j x H3 hx ⟨s3, hD⟩
      rw [List.getElem?_map] at hx
      obtain ⟨x0, hx0, rfl⟩ := Option.map_eq_some_iff.mp hx
      have m0 : x0 ∈ es := List.mem_of_getElem? hx0
      refine ⟨rfl, ?_⟩
      refine ⟨_, rfl, _, _, _, _, _, rfl, s3 _ _ (ht.2.2.2 x0 m0), hE.c, hE.label, rfl, _, rfl, _, _, _, _, _, rfl, s3 _ _ he, hE.c, hE.label, rfl, rfl, _, rfl, ?_⟩
      by_cases c : x0.lab = e.lab
      · rw [decide_eq_true (show V.int x0.lab = V.int e.lab from by rw [c])]
        refine iteF ⟨s3, ?_⟩
        rw [filter_take hx0, if_neg (by simp [c]), List.append_nil]
        exact hD
      · rw [decide_eq_false (show V.int x0.lab ≠ V.int e.lab from fun z => c (V.int.inj z))]
        refine iteT ⟨_, rfl, _, hD, ?_, ?_, ?_⟩
        · rw [List.length_map]
          have l1 := List.length_filter_le (fun x : En => decide (x.lab ≠ e.lab)) (es.take j)
          rw [List.length_take] at l1
          have : (1000001 : Nat) < sizeLine := by decide
          omega
        · exact fun b o h => by rw [upd_ne (ne_of_none h nD)]; exact s3 _ _ h
        · rw [upd_same, filter_take hx0, if_pos (by simp [c]), List.map_append]
          rfl
    · rintro H3 ⟨s3, hD⟩
      rw [List.length_map, List.take_length] at hD
      refine ⟨_, rfl, a, _, dx, _, rfl, s3 _ _ ht.1, T.c_WaitSet, T.n_WaitSet_entries, (by show 2 < 1000; decide), ?_⟩
      have aD : a ≠ D := ne_of_none ht.1 nD
      have aR : a ≠ R := ne_of ht.1 ht.2.2.1 fun z => nomatch z
      have ea : e.ad ≠ a := ne_of he ht.1 (Ne.symm (ins_ne "label" (fun z => nomatch z)))
      have RD : R ≠ D := ne_of_none ht.2.2.1 nD
      let H4 : Hp := upd H3 a (.ins (ga K "WaitSet") dx (setF D R))
      have up4 : ∀ b o, H3 b = some o → b ≠ a → H4 b = some o := fun b o h nb => by
        show upd H3 a _ b = some o
        rw [upd_ne nb]
        exact h
      have a4 : H4 a = some (.ins (ga K "WaitSet") dx (setF D R)) := upd_same
      have R4 : H4 R = some (.lst (row.map V.int)) := up4 _ _ (s3 _ _ ht.2.2.1) (Ne.symm aR)
      have e4 := up4 _ _ (s3 _ _ he) ea
      refine ⟨_, rfl, _, _, _, _, _, rfl, a4, T.c_WaitSet, T.n_WaitSet_row, rfl, R, rfl, ⟨_, SqL.of R4⟩, fun D2 nD2 => ?_⟩
      have nD2 : H4 D2 = none := nD2
      have D2a : D2 ≠ a := fun z => by rw [z, a4] at nD2; cases nD2
      have D2D : D2 ≠ D := fun z => by rw [z, up4 _ _ hD (Ne.symm aD)] at nD2; cases nD2
      have nD2H : H D2 = none := by
        cases z : H D2 with
        | none => rfl
        | some o => rw [up4 _ _ (s3 _ _ z) D2a] at nD2; cases nD2
      refine lc_list (xs := row.map V.int) (fun j H5 => Same H4 H5 ∧ H5 D2 = some (.lst (((row.take j).filter fun x => decide (x ≠ e.lab)).map V.int))) ⟨new_same nD2, upd_same⟩ (fun j H5 _ g => SqL.of (g.1 _ _ R4)) ?_ ?_
      · rintro j x H5 hx ⟨s5, hD2⟩
        rw [List.getElem?_map] at hx
        obtain ⟨x0, hx0, rfl⟩ := Option.map_eq_some_iff.mp hx
        refine ⟨rfl, ?_⟩
        refine ⟨_, rfl, _, rfl, _, _, _, _, _, rfl, s5 _ _ e4, hE.c, hE.label, rfl, rfl, _, rfl, ?_⟩
        by_cases c : x0 = e.lab
        · rw [decide_eq_true (show V.int x0 = V.int e.lab from by rw [c])]
          refine iteF ⟨s5, ?_⟩
          rw [filter_take hx0, if_neg (by simp [c]), List.append_nil]
          exact hD2
        · rw [decide_eq_false (show V.int x0 ≠ V.int e.lab from fun z => c (V.int.inj z))]
          refine iteT ⟨_, rfl, _, hD2, ?_, ?_, ?_⟩
          · rw [List.length_map]
            have l1 := List.length_filter_le (fun x : Int => decide (x ≠ e.lab)) (row.take j)
            rw [List.length_take] at l1
            have : (1000001 : Nat) < sizeLine := by decide
            omega
          · exact fun b o h => by rw [upd_ne (ne_of_none h nD2)]; exact s5 _ _ h
          · rw [upd_same, filter_take hx0, if_pos (by simp [c]), List.map_append]
            rfl
      · rintro H5 ⟨s5, hD2⟩
        rw [List.length_map, List.take_length] at hD2
        refine ⟨_, rfl, a, _, dx, _, rfl, s5 _ _ a4, T.c_WaitSet, T.n_WaitSet_row, (by show 2 < 1000; decide), ?_⟩
        refine q _ D D2 nD nD2H (Ne.symm D2D) upd_same ?_ ?_ fun b o h nb => ?_
        · rw [upd_ne (Ne.symm aD)]
          exact s5 _ _ (up4 _ _ hD (Ne.symm aD))
        · rw [upd_ne D2a]
          exact hD2
        · rw [upd_ne nb]
          exact s5 _ _ (up4 _ _ (s3 _ _ h) nb)
theorem b_drop (T : Tx K mg) : Binds K (fdAt K (mA "WaitSet" "drop" K)) ["self", "entry"] [] := FunD.bindsN T.f_WaitSet_drop fun _ _ _ _ _ _ us hl => match us, hl with | [_, _], _ => rfl
end

section
variable {P : Program} {w : World} {K : PySem.W.Frag} {mg : Str → Option Value} {base : Heap}
end

/-! ### registrations of a thing that is gone -/
def offE (ls : List Int) (es : List Ev) : List Ev := es.filter fun e => decide (e.lab ∉ ls)
def offN (ls : List Int) (es : List En) : List En := es.filter fun e => decide (e.lab ∉ ls)
def offR (ls row : List Int) : List Int := row.filter fun x => decide (x ∉ ls)
def labsE (ser : Int) (es : List Ev) : List Int := (es.filter fun e => decide (e.ser = ser)).map (·.lab)
def labsN (ser : Int) (es : List En) : List Int := (es.filter fun e => decide (e.ser = ser)).map (·.lab)
theorem offN_v (ls : List Int) (es : List En) : (offN ls es).map En.v = offE ls (es.map En.v) := by
  unfold offN offE
  rw [List.filter_map]
  rfl
theorem labsN_v (ser : Int) (es : List En) : labsN ser es = labsE ser (es.map En.v) := by
  unfold labsN labsE
  rw [List.filter_map, List.map_map]
  rfl
theorem off_step {α : Type} (f : α → Int) (ls : List Int) (l : Int) (es : List α) : (es.filter fun e => decide (f e ∉ ls)).filter (fun e => decide (f e ≠ l)) = es.filter fun e => decide (f e ∉ ls ++ [l]) := by
  rw [List.filter_filter]
  refine List.filter_congr fun e _ => ?_
  by_cases c1 : f e ∈ ls <;> by_cases c2 : f e = l <;> simp [c1, c2]
theorem offN_drop (ls : List Int) (l : Int) (es : List En) : dropN l (offN ls es) = offN (ls ++ [l]) es := off_step (fun e : En => e.lab) ls l es
theorem offR_drop (ls : List Int) (l : Int) (row : List Int) : dropR l (offR ls row) = offR (ls ++ [l]) row := off_step (fun x : Int => x) ls l row
theorem offN_nil (es : List En) : offN [] es = es := List.filter_eq_self.mpr fun _ _ => by simp
theorem offR_nil (row : List Int) : offR [] row = row := List.filter_eq_self.mpr fun _ _ => by simp
def sp_forget (K : PySem.W.Frag) : Sp := fun vs H Q _ => ∃ (a dx L R : Addr) (es : List En) (row : List Int) (ser : Int), vs = [.ref a, .int ser] ∧ TgAt K H a (.set dx L R es row) ∧ L ≠ R ∧ es.length ≤ mostE ∧ row.length ≤ 1000000 ∧
  ∀ H' L' R', (L' = L ∨ H L' = none) → (R' = R ∨ H R' = none) → L' ≠ R' → H' a = some (.ins (ga K "WaitSet") dx (setF L' R')) → H' L' = some (.lst ((offN (labsN ser es) es).map fun e => .ref e.ad)) → H' R' = some (.lst ((offR (labsN ser es) row).map V.int)) → (∀ b o, H b = some o → b ≠ a → H' b = some o) → Q .non H'
section
variable {P : Program} {w : World} {K : PySem.W.Frag} {mg : Str → Option Value} {base : Heap}
theorem sc_forget : FnScope ["self", "serial", "entry", "one"] ["self", "serial"] (defScope s_WaitSet_forget) := ⟨rfl, rfl, rfl, by decide +kernel, rfl, by decide +kernel, by decide +kernel⟩
theorem ok_forget (T : Tx K mg) : FnOk P w K mg base CX0 2 (mA "WaitSet" "forget" K) (fdAt K (mA "WaitSet" "forget" K)) ["self", "serial"] (sp_forget K) := by
  refine FunD.ok T.f_WaitSet_forget sc_forget (fun vs H Q E h => ?_) (fun cdv A outer s H vs Q E hr h => ?_)
  · obtain ⟨a, dx, L, R, es, row, ser, rfl, _⟩ := h
    rfl
  · obtain ⟨a, dx, L, R, es, row, ser, rfl, ht, nLR, z1, z2, q⟩ := h
    refine ⟨_, PSs.nox (pss_one (ps_for PassesOwn.never rfl (pi_list (pe_lc (own := [("one", 3)]) (g := gName 3) rfl sc_forget.nd (pi_list (pe_fld (pv 0) rfl)) (blkOk_by (N := ["self", "serial", "entry", "one"]) (sc := defScope s_WaitSet_forget) (by decide +kernel))
        (fun _ _ _ _ _ => pg_name (i := 3) sc_forget.nd rfl (Or.inl rfl)) (fun _ _ _ _ _ => pts_one (pt_cmpR op_eq (pe_fldK K (pv 3) rfl) (pv 1) (nomark _))) (fun _ _ _ _ _ => pv 3))) (pg_name (i := 2) sc_forget.nd rfl (Or.inl rfl))
      (pss_one (ps_expr (pe_meth (pv 0) T.c_WaitSet T.m_WaitSet_drop (ok_drop T) hr (b_drop T) .nil pass0 (pa_cons (pv 2) pa_nil)))))), ?_⟩
    refine ⟨_, rfl, _, _, _, _, _, rfl, ht.1, T.c_WaitSet, T.n_WaitSet_entries, rfl, L, rfl, ⟨_, SqL.of ht.2.1⟩, fun D nD => ?_⟩
    refine lc_list (xs := es.map fun x => V.ref x.ad) (fun j H3 => Same H H3 ∧ H3 D = some (.lst (((es.take j).filter fun x => decide (x.ser = ser)).map fun x => V.ref x.ad))) ⟨new_same nD, upd_same⟩ (fun j H3 _ g => SqL.of (g.1 _ _ ht.2.1)) ?_ ?_
    · rintro j x H3 hx ⟨s3, hD⟩
      rw [List.getElem?_map] at hx
      obtain ⟨x0, hx0, rfl⟩ := Option.map_eq_some_iff.mp hx
      have m0 : x0 ∈ es := List.mem_of_getElem? hx0
      refine ⟨rfl, ?_⟩
      refine ⟨_, rfl, _, _, _, _, _, rfl, s3 _ _ (ht.2.2.2 x0 m0), (ent_of T m0 z1).c, (ent_of T m0 z1).serial, rfl, _, rfl, rfl, _, rfl, ?_⟩
      by_cases c : x0.ser = ser
      · rw [decide_eq_true (show V.int x0.ser = V.int ser from by rw [c])]
        refine iteT ⟨_, rfl, _, hD, ?_, ?_, ?_⟩
        · rw [List.length_map]
          have l1 := List.length_filter_le (fun x : En => decide (x.ser = ser)) (es.take j)
          rw [List.length_take] at l1
          have : (1000001 : Nat) < sizeLine := by decide
          have := Nat.le_trans z1 mostE_le
          omega
        · exact fun b o h => by rw [upd_ne (ne_of_none h nD)]; exact s3 _ _ h
        · rw [upd_same, filter_take hx0, if_pos (by simp [c]), List.map_append]
          rfl
      · rw [decide_eq_false (show V.int x0.ser ≠ V.int ser from fun z => c (V.int.inj z))]
        refine iteF ⟨s3, ?_⟩
        rw [filter_take hx0, if_neg (by simp [c]), List.append_nil]
        exact hD
    · rintro H3 ⟨s3, hD⟩
      rw [List.length_map, List.take_length] at hD
      have aD : a ≠ D := ne_of_none ht.1 nD
      have el : labsN ser es = (es.filter fun x => decide (x.ser = ser)).map (·.lab) := rfl
      generalize hX : (es.filter fun x => decide (x.ser = ser)) = X at hD el
      have XM : ∀ x ∈ X, x ∈ es := fun x hx => by rw [← hX] at hx; exact (List.mem_filter.mp hx).1
      refine ⟨D, rfl, ⟨_, SqL.of hD⟩, ?_⟩
      refine for_list (xs := X.map fun x => V.ref x.ad) (fun j σ H4 => (∃ v2 v3, σ = [some (.ref a), some (.int ser), v2, v3]) ∧ ∃ L' R', (L' = L ∨ H L' = none) ∧ (R' = R ∨ H R' = none) ∧ L' ≠ R' ∧ H4 a = some (.ins (ga K "WaitSet") dx (setF L' R')) ∧ H4 L' = some (.lst ((offN ((X.take j).map (·.lab)) es).map fun e => .ref e.ad)) ∧ H4 R' = some (.lst ((offR ((X.take j).map (·.lab)) row).map V.int)) ∧ (∀ b o, H3 b = some o → b ≠ a → H4 b = some o)) ⟨⟨_, _, rfl⟩, L, R, .inl rfl, .inl rfl, nLR, s3 _ _ ht.1, ?_, ?_, fun b o h _ => h⟩ (fun j σ H4 _ g => ?_) ?_ ?_
      · rw [List.take_zero, List.map_nil, offN_nil]
        exact s3 _ _ ht.2.1
      · rw [List.take_zero, List.map_nil, offR_nil]
        exact s3 _ _ ht.2.2.1
      · obtain ⟨_, L', R', _, _, _, _, _, _, kp⟩ := g
        exact SqL.of (kp _ _ hD (Ne.symm aD))
      · rintro j x σ H4 hx ⟨⟨v2, v3, rfl⟩, L', R', hL', hR', nn, h1, h2, h3, kp⟩
        rw [List.getElem?_map] at hx
        obtain ⟨x0, hx0, rfl⟩ := Option.map_eq_some_iff.mp hx
        have m0 : x0 ∈ es := XM x0 (List.mem_of_getElem? hx0)
        have nea : ∀ y ∈ es, y.ad ≠ a := fun y hy => ne_of (ht.2.2.2 y hy) ht.1 (Ne.symm (ins_ne "label" (fun z => nomatch z)))
        have hE : ∀ y ∈ es, H4 y.ad = some (.ins (ga K "Entry") y.dx (entF y)) := fun y hy => kp _ _ (s3 _ _ (ht.2.2.2 y hy)) (nea y hy)
        have subE : ∀ y ∈ offN ((X.take j).map (·.lab)) es, y ∈ es := fun y hy => (List.mem_filter.mp hy).1
        refine ⟨_, rfl, a, dx, _, rfl, h1, rfl, _, rfl, a, dx, L', R', offN ((X.take j).map (·.lab)) es, offR ((X.take j).map (·.lab)) row, x0, rfl, ⟨h1, h2, h3, fun y hy => hE y (subE y hy)⟩, ent_of T m0 z1, hE x0 m0, Nat.le_trans (List.length_filter_le _ _) (Nat.le_trans z1 mostE_le), Nat.le_trans (List.length_filter_le _ _) z2, fun H5 L2 R2 nL2 nR2 n2 a5 l5 r5 k5 => ?_⟩
        have back : ∀ b, H4 b = none → H b = none := fun b hb => by
          cases z : H b with
          | none => rfl
          | some o =>
            by_cases c : b = a
            · rw [c, h1] at hb
              cases hb
            · rw [kp _ _ (s3 _ _ z) c] at hb
              cases hb
        have tk : (X.take (j + 1)).map (·.lab) = (X.take j).map (·.lab) ++ [x0.lab] := by rw [take_next hx0, List.map_append]; rfl
        refine ⟨⟨_, _, rfl⟩, L2, R2, .inr (back _ nL2), .inr (back _ nR2), n2, a5, ?_, ?_, fun b o h nb => k5 b o (kp b o h nb) nb⟩
        · rw [tk, ← offN_drop]
          exact l5
        · rw [tk, ← offR_drop]
          exact r5
      · rintro σ H4 ⟨⟨v2, v3, rfl⟩, L', R', hL', hR', nn, h1, h2, h3, kp⟩
        rw [List.length_map, List.take_length, ← el] at h2 h3
        exact q H4 L' R' hL' hR' nn h1 h2 h3 fun b o h nb => kp b o (s3 _ _ h) nb
theorem b_forget (T : Tx K mg) : Binds K (fdAt K (mA "WaitSet" "forget" K)) ["self", "serial"] [] := FunD.bindsN T.f_WaitSet_forget fun _ _ _ _ _ _ us hl => match us, hl with | [_, _], _ => rfl
end

/-! ### a number closed, plainly -/
def fgtT (ser : Int) : Tv → Tv
  | .src u f => .src u f
  | .set es row => .set (offE (labsE ser es) es) (offR (labsE ser es) row)
def Sv.fgtK (v : Sv) (ser : Int) (ks : List Int) : Sv := v.mapT fun k t => if k ∈ ks then fgtT ser t else t
def Sv.fgt (v : Sv) (ser : Int) : Sv := v.mapT fun _ t => fgtT ser t
def Sv.cut (v : Sv) (i n : Int) : Sv := { v with tabs := upAt v.tabs i (fun r => dr r n) }
def Sv.gone (v : Sv) (ser : Int) : Sv := { v with ths := dr v.ths ser }
def closeV (v : Sv) (i n ser : Int) : Sv := if holds (v.cut i n).tabs ser = [] then ((v.cut i n).gone ser).fgt ser else v.cut i n
theorem dr_sub {α : Type} (l : List (Int × α)) (n : Int) : (dr l n).Sublist l := List.filter_sublist
theorem dr_mem {α : Type} {l : List (Int × α)} {n : Int} {t : Int × α} : t ∈ dr l n ↔ t ∈ l ∧ t.1 ≠ n := by
  unfold dr
  rw [List.mem_filter, decide_eq_true_eq]
theorem cut_mem {v : Sv} {i n : Int} {t : Int × List (Int × Int)} (h : t ∈ (v.cut i n).tabs) : ∃ u ∈ v.tabs, u.1 = t.1 ∧ (t.2 = u.2 ∨ t.2 = dr u.2 n) := by
  rcases upAt_mem (show t ∈ upAt v.tabs i (fun r => dr r n) from h) with ⟨_, z⟩ | ⟨x, hx, rfl⟩
  · exact ⟨t, z, rfl, .inl rfl⟩
  · exact ⟨(i, x), hx, rfl, .inr rfl⟩
theorem cut_row {v : Sv} {i n : Int} {t : Int × List (Int × Int)} (h : t ∈ (v.cut i n).tabs) : ∃ u ∈ v.tabs, u.1 = t.1 ∧ ∀ r ∈ t.2, r ∈ u.2 := by
  obtain ⟨u, hu, e, z | z⟩ := cut_mem h
  · exact ⟨u, hu, e, fun r hr => z ▸ hr⟩
  · refine ⟨u, hu, e, fun r hr => ?_⟩
    rw [z] at hr
    exact (dr_mem.mp hr).1
theorem WF.cut0 {v : Sv} (h : WF v) (i n : Int) : WF0 (v.cut i n) := by
  refine ⟨h.p, h.n, ?_, fun t ht => ?_, fun t ht => ?_, fun t ht r hr => ?_, h.nds, h.rs⟩
  · show ((upAt v.tabs i (fun r => dr r n)).map (·.1)).Nodup
    rw [upAt_keys]
    exact h.ndp
  · obtain ⟨u, hu, e, _⟩ := cut_mem ht
    rw [← e]
    exact h.rp u hu
  · obtain ⟨u, hu, e, z | z⟩ := cut_mem ht
    · rw [z]
      exact h.ndn u hu
    · rw [z]
      exact List.Nodup.sublist ((dr_sub _ _).map _) (h.ndn u hu)
  · obtain ⟨u, hu, e, z⟩ := cut_row ht
    exact h.rn u hu r (z r hr)
theorem WF0.gone {v : Sv} (h : WF0 v) (ser : Int) : WF0 (v.gone ser) := ⟨h.p, h.n, h.ndp, h.rp, h.ndn, h.rn, List.Nodup.sublist ((dr_sub _ _).map _) h.nds, fun t ht => h.rs t (dr_mem.mp ht).1⟩
/-- held: by a row, by a number -/
theorem holds_of {v : Sv} (h : WF0 v) {ser : Int} (z : ∃ u ∈ v.tabs, ∃ r ∈ u.2, r.2 = ser) : holds v.tabs ser ≠ [] := by
  obtain ⟨u, hu, r, hr, e⟩ := z
  have l1 : lk v.tabs u.1 = some u.2 := lk_of_mem h.ndp hu
  have l2 : lk u.2 r.1 = some ser := by rw [lk_of_mem (h.ndn u hu) (show (r.1, r.2) ∈ u.2 from hr), e]
  intro z
  rw [holds_eq] at z
  have z1 := List.flatMap_eq_nil_iff.mp z u.1 (srtI_mem.mpr (List.mem_map.mpr ⟨u, hu, rfl⟩))
  unfold hAt at z1
  rw [l1] at z1
  unfold holdsIn at z1
  have z2 := List.map_eq_nil_iff.mp z1
  have : r.1 ∈ (srtI (u.2.map (·.1))).filter fun n => decide (lk u.2 n = some ser) := List.mem_filter.mpr ⟨srtI_mem.mpr (List.mem_map.mpr ⟨r, hr, rfl⟩), decide_eq_true l2⟩
  rw [z2] at this
  cases this
theorem of_holds {v : Sv} {ser : Int} (h : holds v.tabs ser ≠ []) : ∃ u ∈ v.tabs, ∃ r ∈ u.2, r.2 = ser := by
  rw [holds_eq] at h
  obtain ⟨x, hx⟩ := List.exists_mem_of_ne_nil _ h
  obtain ⟨p, _, hp⟩ := List.mem_flatMap.mp hx
  unfold hAt at hp
  cases e : lk v.tabs p with
  | none => rw [e] at hp; cases hp
  | some rows =>
    rw [e] at hp
    obtain ⟨n, hn, _⟩ := List.mem_map.mp hp
    exact ⟨(p, rows), lk_mem e, (n, ser), lk_mem (of_decide_eq_true (List.mem_filter.mp hn).2), rfl⟩
/-- another thing is held as before -/
theorem WF.cut_held {v : Sv} (h : WF v) {i n ser : Int} {rows : List (Int × Int)} (hi : lk v.tabs i = some rows) (hn : lk rows n = some ser) {t : Int × Tv} (ht : t ∈ v.ths) (ne : t.1 ≠ ser) : ∃ u ∈ (v.cut i n).tabs, ∃ r ∈ u.2, r.2 = t.1 := by
  obtain ⟨u, hu, r, hr, e⟩ := h.held t ht
  by_cases c : u.1 = i
  · have eu : u.2 = rows := by
      have := lk_of_mem h.ndp (show (u.1, u.2) ∈ v.tabs from hu)
      rw [c, hi] at this
      exact (Option.some.inj this).symm
    refine ⟨(u.1, dr u.2 n), List.mem_map.mpr ⟨u, hu, by rw [if_pos c]⟩, r, dr_mem.mpr ⟨hr, fun z => ?_⟩, e⟩
    have := lk_of_mem (h.ndn u hu) (show (r.1, r.2) ∈ u.2 from hr)
    rw [z, eu, hn] at this
    exact ne ((Option.some.inj this).trans e).symm
  · exact ⟨u, List.mem_map.mpr ⟨u, hu, by rw [if_neg c]⟩, r, hr, e⟩
theorem off_setOk {v v' : Sv} {es : List Ev} {row : List Int} {ser : Int} (so : SetOk v es row) (hv : ∀ k u f, k ≠ ser → lk v.ths k = some (.src u f) → ∃ u f, lk v'.ths k = some (.src u f)) : SetOk v' (offE (labsE ser es) es) (offR (labsE ser es) row) := by
  obtain ⟨k1, k2, k3, k4, k5, k6⟩ := so
  have sub : (offE (labsE ser es) es).Sublist es := List.filter_sublist
  refine ⟨List.Nodup.sublist (sub.map _) k1, List.Nodup.sublist (sub.map _) k2, List.Nodup.sublist List.filter_sublist k3, fun x hx => ?_, fun e he => ?_, Nat.le_trans sub.length_le k6⟩
  · obtain ⟨h1, h2⟩ := List.mem_filter.mp hx
    obtain ⟨e, he, q1, q2⟩ := k4 x h1
    exact ⟨e, List.mem_filter.mpr ⟨he, by rw [q1]; exact h2⟩, q1, q2⟩
  · obtain ⟨h1, h2⟩ := List.mem_filter.mp he
    obtain ⟨u, f, q⟩ := k5 e h1
    refine hv e.ser u f (fun z => ?_) q
    exact of_decide_eq_true h2 (List.mem_map.mpr ⟨e, List.mem_filter.mpr ⟨h1, decide_eq_true z⟩, rfl⟩)
theorem WF.close {v : Sv} (h : WF v) {i n ser : Int} {rows : List (Int × Int)} (hi : lk v.tabs i = some rows) (hn : lk rows n = some ser) : WF (closeV v i n ser) := by
  have w0 := h.cut0 i n
  unfold closeV
  split
  · rename_i c
    have w1 := w0.gone ser
    have no : ∀ u ∈ (v.cut i n).tabs, ∀ r ∈ u.2, r.2 ≠ ser := fun u hu r hr e => holds_of w0 ⟨u, hu, r, hr, e⟩ c
    have hk : ∀ k, lk (((v.cut i n).gone ser).fgt ser).ths k = if k = ser then none else (lk v.ths k).map (fgtT ser) := fun k => by
      show lk ((dr v.ths ser).map fun t => (t.1, fgtT ser t.2)) k = _
      rw [lk_map, lk_dr]
      split <;> rfl
    refine ⟨w1.p, w1.n, w1.ndp, w1.rp, w1.ndn, w1.rn, fun t ht r hr => ?_, ?_, fun t ht => ?_, fun t ht => ?_, fun t ht es row e => ?_⟩
    · obtain ⟨u, hu, e, z⟩ := cut_row (show t ∈ (v.cut i n).tabs from ht)
      have m := h.th u hu r (z r hr)
      obtain ⟨x, hx, ex⟩ := List.mem_map.mp m
      rw [Sv.fgt, mapT_keys]
      exact List.mem_map.mpr ⟨x, dr_mem.mpr ⟨hx, by rw [ex]; exact no t ht r hr⟩, ex⟩
    · rw [Sv.fgt, mapT_keys]
      exact w1.nds
    · obtain ⟨u, hu, rfl⟩ := List.mem_map.mp ht
      exact w1.rs u hu
    · obtain ⟨u, hu, rfl⟩ := List.mem_map.mp ht
      obtain ⟨u1, u2⟩ := dr_mem.mp hu
      exact h.cut_held (t := u) hi hn u1 u2
    · obtain ⟨u, hu, rfl⟩ := List.mem_map.mp ht
      obtain ⟨u1, u2⟩ := dr_mem.mp hu
      have e' : fgtT ser u.2 = .set es row := e
      cases cu : u.2 with
      | src a b => rw [cu] at e'; cases e'
      | set es0 row0 =>
        rw [cu] at e'
        cases e'
        refine off_setOk (h.ok u u1 _ _ cu) fun k a b kn q => ⟨a, b, ?_⟩
        rw [hk, if_neg kn, q]
        rfl
  · rename_i c
    refine ⟨w0.p, w0.n, w0.ndp, w0.rp, w0.ndn, w0.rn, fun t ht r hr => ?_, h.nds, h.rs, fun t ht => ?_, h.ok⟩
    · obtain ⟨u, hu, e, z⟩ := cut_row ht
      exact h.th u hu r (z r hr)
    · by_cases e : t.1 = ser
      · rw [e]
        exact of_holds c
      · exact h.cut_held hi hn ht e
theorem WF.cutS {v : Sv} (h : WF v) {i n ser : Int} {rows : List (Int × Int)} (hi : lk v.tabs i = some rows) (hn : lk rows n = some ser) : HeldS ((v.cut i n).gone ser) := fun t ht _ => by
  obtain ⟨u1, u2⟩ := dr_mem.mp (show t ∈ dr v.ths ser from ht)
  exact holds_of (h.cut0 i n) (h.cut_held hi hn u1 u2)
theorem fgtK_all {v : Sv} {ser : Int} {ks : List Int} (h : ∀ t ∈ v.ths, t.2.isSet = true → t.1 ∈ ks) : v.fgtK ser ks = v.fgt ser := by
  unfold Sv.fgtK Sv.fgt Sv.mapT
  congr 1
  refine List.map_congr_left fun t ht => ?_
  show (t.1, if t.1 ∈ ks then fgtT ser t.2 else t.2) = (t.1, fgtT ser t.2)
  by_cases c : t.1 ∈ ks
  · rw [if_pos c]
  · rw [if_neg c]
    cases e : t.2 with
    | src u f => rfl
    | set es row => exact (c (h t ht (by rw [e]; rfl))).elim
theorem fgtK_nil (v : Sv) (ser : Int) : v.fgtK ser [] = v := by
  unfold Sv.fgtK Sv.mapT
  have : (v.ths.map fun t => (t.1, if t.1 ∈ ([] : List Int) then fgtT ser t.2 else t.2)) = v.ths := by
    rw [List.map_congr_left (g := id) (fun t _ => by simp), List.map_id]
  rw [this]
theorem fgtK_step {v : Sv} {ser n : Int} {ks : List Int} {tv : Tv} (hl : lk v.ths n = some tv) (nds : (v.ths.map (·.1)).Nodup) (hn : n ∉ ks) : (v.fgtK ser ks).re n (fgtT ser tv) = v.fgtK ser (ks ++ [n]) := by
  rw [Sv.re_map]
  unfold Sv.fgtK Sv.mapT
  congr 1
  rw [List.map_map]
  refine List.map_congr_left fun t ht => ?_
  show (t.1, if t.1 = n then fgtT ser tv else if t.1 ∈ ks then fgtT ser t.2 else t.2) = (t.1, if t.1 ∈ ks ++ [n] then fgtT ser t.2 else t.2)
  by_cases c : t.1 = n
  · have := lk_of_mem nds (show (t.1, t.2) ∈ v.ths from ht)
    rw [c, hl] at this
    cases this
    rw [if_pos c, if_pos (by rw [c]; simp)]
  · rw [if_neg c]
    by_cases c2 : t.1 ∈ ks
    · rw [if_pos c2, if_pos (List.mem_append_left _ c2)]
    · rw [if_neg c2, if_neg (by simp [c, c2])]
theorem fgtK_lk (v : Sv) (ser n : Int) (ks : List Int) : lk (v.fgtK ser ks).ths n = (lk v.ths n).map fun t => if n ∈ ks then fgtT ser t else t := lk_mapK (fun k t => if k ∈ ks then fgtT ser t else t) n v.ths

/-! ### close -/
theorem flat_sub {α β : Type} (f : α → List β) {l l' : List α} (h : l.Sublist l') : (l.flatMap f).Sublist (l'.flatMap f) := by
  induction h with
  | slnil => exact List.Sublist.refl _
  | cons a _ ih => rw [List.flatMap_cons]; exact ih.trans (List.sublist_append_right _ _)
  | cons_cons a _ ih => rw [List.flatMap_cons, List.flatMap_cons]; exact List.Sublist.append (List.Sublist.refl _) ih
section
variable {K : PySem.W.Frag} {H : Hp} {s : Sy}
theorem SyAt.goneT (S : SyAt K H s) (n : Int) : SyAt K (upd H s.G (.dK (kv thV (dr s.ths n)))) { s with ths := dr s.ths n } ∧ Fr' s { s with ths := dr s.ths n } H (upd H s.G (.dK (kv thV (dr s.ths n)))) := by
  have mG : s.G ∈ s.dcs := List.mem_cons_of_mem _ List.mem_cons_self
  obtain ⟨d1, d2⟩ := List.nodup_cons.mp S.nd
  obtain ⟨d3, d4⟩ := List.nodup_cons.mp d2
  have nTG : s.T ≠ s.G := fun z => d1 (by rw [z]; exact List.mem_cons_self)
  have nG : ∀ {u : Int × Tb}, u ∈ s.tabs → u.2.ad ≠ s.G := fun {u} h z => d3 (by rw [← z]; exact List.mem_map.mpr ⟨u, h, rfl⟩)
  have sub : (dr s.ths n).Sublist s.ths := dr_sub _ _
  refine ⟨⟨by rw [upd_ne (Ne.symm (S.np (.inl mG)))]; exact S.ob, by rw [upd_ne nTG]; exact S.tb, fun u h => ?_, upd_same, fun u h => ?_, S.nd, List.Nodup.sublist (sub.map _) S.nt, List.Nodup.sublist (flat_sub _ sub) S.nl, List.Nodup.sublist (flat_sub _ sub) S.ne⟩, ⟨fun b o h nb => ?_, fun b hb => .inl ?_, rfl⟩⟩
  · rw [upd_ne (nG h)]
    exact S.tt u h
  · have h' := sub.subset h
    exact (S.gt u h').keep (S.dc_th mG (.inl (Sy.th_in h'))) (fun x hx => S.dc_th mG (.inr (.inl (Sy.ls_in h' hx)))) (fun x hx => S.dc_th mG (.inr (.inr (Sy.en_in h' hx))))
  · rw [upd_ne (show b ≠ s.G from fun z => nb (z ▸ Sy.in_dcs mG))]
    exact h
  · rcases Sy.foot_cases hb with z | z | z | z | z
    · exact z ▸ List.mem_cons_self
    · exact Sy.in_dcs z
    · exact Sy.in_ths ((sub.map _).subset z)
    · exact Sy.in_lsts ((flat_sub _ sub).subset z)
    · exact Sy.in_ents ((flat_sub _ sub).subset z)
theorem SyAt.cutT (S : SyAt K H s) {i : Int} {t : Tb} (n : Int) (hl : lk s.tabs i = some t) (nd : (s.tabs.map (·.1)).Nodup) : SyAt K (upd H t.ad (.dK (kv V.int (dr t.rows n)))) { s with tabs := upAt s.tabs i (Tb.fn fun r => dr r n) } ∧ Fr' s { s with tabs := upAt s.tabs i (Tb.fn fun r => dr r n) } H (upd H t.ad (.dK (kv V.int (dr t.rows n)))) := by
  have mt : t.ad ∈ s.dcs := List.mem_cons_of_mem _ (List.mem_cons_of_mem _ (List.mem_map.mpr ⟨_, lk_mem hl, rfl⟩))
  have ads : (upAt s.tabs i (Tb.fn fun r => dr r n)).map (·.2.ad) = s.tabs.map (·.2.ad) := by
    unfold upAt
    rw [List.map_map]
    refine List.map_congr_left fun u _ => ?_
    show (if u.1 = i then (u.1, Tb.fn _ u.2) else u).2.ad = u.2.ad
    split <;> rfl
  refine ⟨S.rows (f := fun r => dr r n) hl nd, ⟨fun b o h nb => ?_, fun b hb => .inl ?_, rfl⟩⟩
  · rw [upd_ne (show b ≠ t.ad from fun z => nb (z ▸ Sy.in_dcs mt))]
    exact h
  · have e : ({ s with tabs := upAt s.tabs i (Tb.fn fun r => dr r n) } : Sy).foot = s.foot := by
      unfold Sy.foot Sy.dcs
      show s.p :: ((s.T :: s.G :: (upAt s.tabs i (Tb.fn fun r => dr r n)).map (·.2.ad)) ++ _) = _
      rw [ads]
      rfl
    rw [e] at hb
    exact hb
theorem cutT_v (s : Sy) (i n : Int) : ({ s with tabs := upAt s.tabs i (Tb.fn fun r => dr r n) } : Sy).v = s.v.cut i n := by
  show (⟨s.P, s.N, s.made, (upAt s.tabs i (Tb.fn fun r => dr r n)).map fun t => (t.1, t.2.rows), _⟩ : Sv) = _
  rw [upAt_map (fun t : Tb => t.rows) (Tb.fn fun r => dr r n) (fun r => dr r n) (fun _ => rfl)]
  rfl
theorem goneT_v (s : Sy) (n : Int) : ({ s with ths := dr s.ths n } : Sy).v = s.v.gone n := by
  show (⟨s.P, s.N, s.made, _, (dr s.ths n).map fun t => (t.1, t.2.tg.v)⟩ : Sv) = _
  unfold Sv.gone Sy.v dr
  rw [List.filter_map]
  rfl
end
theorem shaped_holds (l : List (Int × Int)) : SeqAt.shaped (.list (holdsD l)) = true := by
  have h1 : ∀ l : List (Int × Int), PyData.canLayAll0 (holdsD l) = true := fun l => by
    induction l with
    | nil => rfl
    | cons a l ih => rw [show holdsD (a :: l) = .tuple [.int a.1, .int a.2] :: holdsD l from rfl, PyData.canLayAll0, ih]; rfl
  have h2 : ∀ l : List (Int × Int), PyData.depthAll (holdsD l) ≤ 3 := fun l => by
    induction l with
    | nil => exact Nat.zero_le _
    | cons a l ih =>
      rw [show holdsD (a :: l) = .tuple [.int a.1, .int a.2] :: holdsD l from rfl, PyData.depthAll]
      refine Nat.max_le.mpr ⟨?_, ih⟩
      simp [PyData.depth, PyData.depthAll]
  unfold SeqAt.shaped
  rw [PyData.canLay0, h1 l, Bool.true_and]
  refine decide_eq_true ?_
  rw [PyData.depth]
  have := h2 l
  omega
theorem eqv_holds_nil (l : List (Int × Int)) : PyData.eqv (.list (holdsD l)) (.list []) = l.isEmpty := by
  cases l with
  | nil => rfl
  | cons a l => rfl
def sp_close (K : PySem.W.Frag) : Sp := fun vs H Q E => ∃ (s : Sy) (x y : V), vs = [.ref s.p, x, y] ∧ SyAt K H s ∧ WF s.v ∧ s.made ≤ 1000000 ∧ Obj' H x ∧ Obj' H y ∧ ByProc K s x H E fun i t => ByNum K t y H E fun n ser => ∀ H' s', SyAt K H' s' → s'.v = closeV s.v i n ser → s'.tabs = upAt s.tabs i (Tb.fn fun r => dr r n) → WF s'.v → Fr' s s' H H' → Q .non H'
section
variable {P : Program} {w : World} {K : PySem.W.Frag} {mg : Str → Option Value} {base : Heap}
theorem sc_close : FnScope ["self", "process", "number", "serial", "other"] ["self", "process", "number"] (defScope s_System_close) := ⟨rfl, rfl, rfl, by decide +kernel, rfl, by decide +kernel, by decide +kernel⟩
theorem ok_close (T : Tx K mg) : FnOk P w K mg base (L2.CX P w) 9 (mA "System" "close" K) (fdAt K (mA "System" "close" K)) ["self", "process", "number"] (sp_close K) := by
  refine FunD.ok T.f_System_close sc_close (fun vs H Q E h => ?_) (fun cdv A outer s H vs Q E hr h => ?_)
  · obtain ⟨s, x, y, rfl, _⟩ := h
    rfl
  · obtain ⟨S, x, y, rfl, hS, hw, hm, hx, hy, q⟩ := h
    have hu := hu_of hr
    have hu64 := hr.units
    refine ⟨_, pss_cons (ps_set (i := 3) sc_close.nd rfl (Or.inl rfl) (pe_meth (pv 0) T.c_System T.m_System_serial_at (ok_serial_at T) (hr.mono (by decide)) (b_serial_at T) .nil (passes_call (takes_of rfl rfl rfl rfl) (fun _ _ _ _ h => h)) (pa_cons (pv 1) (pa_cons (pv 2) pa_nil))))
      (pss_cons (ps_expr (pe_dpop1 (pe_dget hu (pe_fld (pv 0) rfl) (pv 1) (fun _ _ => rfl)) (pv 2) ⟨rfl, rfl, rfl, rfl⟩))
      (pss_one (ps_if (pt_cmpR (op_eqD hu64) (pe_meth (pv 0) T.c_System T.m_System_holders (ok_holders T) (hr.mono (by decide)) (b_holders T) .nil pass0 (pa_cons (pv 3) pa_nil)) (pe_lst pa_nil) (nomark _))
        (pss_cons (ps_expr (pe_dpop1 (pe_fld (pv 0) rfl) (pv 3) ⟨rfl, rfl, rfl, rfl⟩))
        (pss_one (ps_for (passes_of rfl) rfl (pi_list (pe_meth0 (pv 0) T.c_System T.m_System_set_serials (ok_set_serials T) hr (b_set_serials T) .nil pass0)) (pg_name (i := 4) sc_close.nd rfl (Or.inl rfl))
          (pss_one (ps_expr (pe_meth (pe_dget hu (pe_fld (pv 0) rfl) (pv 4) (fun _ _ => rfl)) T.c_WaitSet T.m_WaitSet_forget (ok_forget T) (hr.mono (by decide)) (b_forget T) .nil pass0 (pa_cons (pv 3) pa_nil))))))) pss_nil))), ?_⟩
    refine ⟨_, rfl, S.p, S.dx, _, rfl, hS.ob, rfl, _, rfl, _, rfl, S, x, y, rfl, hS, hx, hy, ?_⟩
    rcases q with ⟨i, t, rfl, hl, q⟩ | ⟨hn, q⟩
    rotate_left
    · exact .inr ⟨hn, q⟩
    refine .inl ⟨i, t, rfl, hl, ?_⟩
    rcases q with ⟨n, ser, rfl, hs, q⟩ | ⟨hn, q⟩
    rotate_left
    · exact .inr ⟨hn, q⟩
    refine .inl ⟨n, ser, rfl, hs, ?_⟩
    have g1 := DGet.k (k := Sum.inl i) hS.tb
    rw [val_kv, hl] at g1
    have ht := hS.tt _ (lk_mem hl)
    have ndp : (S.tabs.map (·.1)).Nodup := by rw [← Sy.pids]; exact hw.ndp
    have hiv : lk S.v.tabs i = some t.rows := by rw [Sy.tabs_v, hl]; rfl
    have vn : valV (kv V.int t.rows) (Sum.inl n : Key) = some (.int ser) := by rw [val_kv, hs]; rfl
    refine ⟨_, rfl, _, _, _, _, _, rfl, hS.ob, T.c_System, T.n_System_tables, rfl, _, rfl, _, _, rfl, g1, t.ad, rfl, .inl ⟨_, .inl ht⟩, _, rfl, _, Sum.inl n, _, ht, rfl, vn, ?_⟩
    rw [drop_kv]
    obtain ⟨S1, f1⟩ := hS.cutT n hl ndp
    have v1 := cutT_v S i n
    have w1 := hw.cut0 i n
    generalize eS1 : ({ S with tabs := upAt S.tabs i (Tb.fn fun r => dr r n) } : Sy) = s1 at S1 f1 v1
    have p1 : s1.p = S.p := by rw [← eS1]
    have t1 : s1.tabs = upAt S.tabs i (Tb.fn fun r => dr r n) := by rw [← eS1]
    have m1 : s1.made = S.made := by rw [← eS1]
    have k1 : s1.ths = S.ths := by rw [← eS1]
    generalize eH1 : upd H t.ad (.dK (kv V.int (dr t.rows n))) = H1 at S1 f1
    refine ⟨_, rfl, s1.p, s1.dx, _, by rw [p1], S1.ob, rfl, _, rfl, s1, ser, by rw [p1]; rfl, S1, by rw [v1]; exact w1, fun H2 ph nd2 => ?_⟩
    refine ⟨by decide, fun F nF => ?_⟩
    have e3 : Same H2 (upd H2 F (.lst [])) := new_same nF
    have e13 : Same H1 (upd H2 F (.lst [])) := nd2.same.trans e3
    refine ⟨.list (holdsD (holds s1.v.tabs ser)), .list [], Dp.same e3 _ _ nd2.dp, .lst (SqL.of upd_same) .nil, shaped_holds _, rfl, _, rfl, ?_⟩
    generalize eH3 : upd H2 F (.lst []) = H3 at e13
    rw [eqv_holds_nil, v1]
    have S3 := S1.ext e13
    cases hh : holds (S.v.cut i n).tabs ser with
    | cons a l =>
      refine iteF ?_
      have ev : s1.v = closeV S.v i n ser := by
        unfold closeV
        rw [hh, if_neg (fun z => nomatch z)]
        exact v1
      exact q H3 s1 S3 ev t1 (by rw [ev]; exact hw.close hiv hs) (f1.more e13)
    | nil =>
      refine iteT ?_
      obtain ⟨th, hth⟩ := hw.thing hl hs
      have hth1 : lk s1.ths ser = some th := by rw [k1]; exact hth
      have vt : valV (kv thV s1.ths) (Sum.inl ser : Key) = some (thV th) := by rw [val_kv, hth1]; rfl
      refine ⟨_, rfl, _, _, _, _, _, by rw [← p1], S3.ob, T.c_System, T.n_System_things, rfl, s1.G, rfl, .inl ⟨_, .inl S3.gb⟩, _, rfl, _, Sum.inl ser, _, S3.gb, rfl, vt, ?_⟩
      rw [drop_kv]
      obtain ⟨S4, f4⟩ := S3.goneT ser
      have v4 := goneT_v s1 ser
      rw [v1] at v4
      have w4 := w1.gone ser
      have f14 := (f1.more e13).trans f4
      generalize eS4 : ({ s1 with ths := dr s1.ths ser } : Sy) = s4 at S4 f4 v4 f14
      have p4 : s4.p = S.p := by rw [← eS4]; exact p1
      have t4 : s4.tabs = upAt S.tabs i (Tb.fn fun r => dr r n) := by rw [← eS4]; exact t1
      have m4 : s4.made = S.made := by rw [← eS4]; exact m1
      generalize eH4 : upd H3 s1.G (.dK (kv thV (dr s1.ths ser))) = H4 at S4 f4 f14
      refine ⟨_, rfl, s4.p, s4.dx, _, by rw [p4], S4.ob, rfl, s4, by rw [p4]; rfl, S4, by rw [v4]; exact w4, by rw [v4]; exact hw.cutS hiv hs, by rw [m4]; exact hm, fun H5 pl e5 npl h5 => ?_⟩
      have plf : pl ∉ s4.foot := S4.notfoot npl
      have ndx : (setsIn s4.v).Nodup := (setsIn_perm s4.v).nodup_iff.mpr (setSers_nodup (by rw [v4]; exact w4))
      refine ⟨pl, rfl, ⟨_, SqL.of h5⟩, ?_⟩
      refine for_list (xs := (setsIn s4.v).map V.int) (fun k σ H' => (∃ v4', σ = [some (.ref S.p), some (.int i), some (.int n), some (.int ser), v4']) ∧ ∃ sk, SyAt K H' sk ∧ sk.v = s4.v.fgtK ser ((setsIn s4.v).take k) ∧ sk.tabs = s4.tabs ∧ Fr' s4 sk H5 H') ⟨⟨_, rfl⟩, s4, S4.ext e5, by rw [List.take_zero, fgtK_nil], rfl, Fr'.refl _ _⟩ (fun k σ H' hk g => ?_) ?_ ?_
      · obtain ⟨_, sk, _, _, _, fk⟩ := g
        exact SqL.of (fk.keep _ _ h5 plf)
      · rintro k x σ H' hx ⟨⟨v4', rfl⟩, sk, Sk, ek, tk, fk⟩
        rw [List.getElem?_map] at hx
        cases en : (setsIn s4.v)[k]? with
        | none => rw [en] at hx; cases hx
        | some m =>
          rw [en] at hx
          cases hx
          have mm := (setsIn_perm s4.v).mem_iff.mp (List.mem_of_getElem? en)
          obtain ⟨tt, htt, em⟩ := List.mem_map.mp mm
          obtain ⟨ht1, ht2⟩ := List.mem_filter.mp htt
          subst em
          have nds4 : (s4.v.ths.map (·.1)).Nodup := by rw [v4]; exact w4.nds
          have lk4 : lk s4.v.ths tt.1 = some tt.2 := lk_of_mem nds4 ht1
          have hnd : tt.1 ∉ (setsIn s4.v).take k := by
            intro z
            have nd1 : ((setsIn s4.v).take (k + 1)).Nodup := ndx.sublist (List.take_sublist _ _)
            rw [take_next en] at nd1
            exact (List.nodup_append.mp nd1).2.2 tt.1 z tt.1 (List.mem_singleton.mpr rfl) rfl
          have lkk : lk sk.v.ths tt.1 = some tt.2 := by rw [ek, fgtK_lk, lk4, Option.map_some, if_neg hnd]
          rw [Sy.ths_v] at lkk
          obtain ⟨thk, hk1, hk2⟩ := Option.map_eq_some_iff.mp lkk
          obtain ⟨dx, L, R, es, row, et⟩ := set_of (by rw [hk2]; exact ht2 : thk.tg.v.isSet = true)
          have inV : tt ∈ S.v.ths := by
            rw [v4] at ht1
            exact (dr_mem.mp (show tt ∈ dr S.v.ths ser from ht1)).1
          have so : SetOk S.v (es.map En.v) row := hw.ok tt inV _ _ (by rw [← hk2, et]; rfl)
          have tgk := Sk.gt _ (lk_mem hk1)
          rw [show ((tt.1, thk) : Int × Th).2.tg = .set dx L R es row from et] at tgk
          obtain ⟨nLR, nde⟩ := Sk.setLR hk1 et
          have ndk : (sk.ths.map (·.1)).Nodup := by
            rw [← Sy.sers, ek]
            show ((s4.v.fgtK ser _).ths.map (·.1)).Nodup
            unfold Sv.fgtK
            rw [mapT_keys]
            exact nds4
          have g7 : DGet H' sk.G (.int tt.1) (some (thV thk)) := .inl ⟨_, Sum.inl tt.1, .inl Sk.gb, rfl, by rw [val_kv, hk1]; rfl⟩
          have pk : sk.p = S.p := fk.same.trans p4
          have zl : es.length ≤ mostE := by have := so.2.2.2.2.2; rw [List.length_map] at this; exact this
          refine ⟨_, rfl, _, _, _, _, _, by rw [← pk], Sk.ob, T.c_System, T.n_System_things, rfl, _, rfl, _, _, rfl, g7, thk.ad, dx, _, rfl, tgk.1, rfl, _, rfl, thk.ad, dx, L, R, es, row, ser, rfl, tgk, nLR, zl, Nat.le_trans (Nat.le_trans so.row.len so.2.2.2.2.2) mostE_le, fun H6 L' R' hL hR nn a6 l6 r6 k6 => ?_⟩
          have sub : (offN (labsN ser es) es).Sublist es := List.filter_sublist
          have tE : TgAt K H6 thk.ad (.set dx L' R' (offN (labsN ser es) es) (offR (labsN ser es) row)) := ⟨a6, l6, r6, fun y hy => k6 _ _ (tgk.2.2.2 y (sub.subset hy)) (ne_of (tgk.2.2.2 y (sub.subset hy)) tgk.1 (Ne.symm (ins_ne "label" (fun z => nomatch z))))⟩
          obtain ⟨s7, f7⟩ := Sk.resets hk1 et ndk tE (fun b o h nb _ _ _ => k6 b o h nb) hL hR nn (fun a ha => .inl ((sub.map _).subset ha)) (List.Nodup.sublist (sub.map _) nde)
          refine ⟨⟨_, rfl⟩, _, s7, ?_, tk, fk.trans f7⟩
          rw [Sy.re_v, ek, take_next en, ← fgtK_step lk4 nds4 hnd]
          congr 1
          rw [← hk2, et]
          show Tv.set ((offN (labsN ser es) es).map En.v) (offR (labsN ser es) row) = .set (offE (labsE ser (es.map En.v)) (es.map En.v)) (offR (labsE ser (es.map En.v)) row)
          rw [offN_v, labsN_v]
      · rintro σ H' ⟨⟨v4', rfl⟩, sk, Sk, ek, tk, fk⟩
        rw [List.length_map, List.take_length, fgtK_all (fun t ht hs => (setsIn_perm s4.v).mem_iff.mpr (List.mem_map.mpr ⟨t, List.mem_filter.mpr ⟨ht, hs⟩, rfl⟩)), v4] at ek
        have ev : sk.v = closeV S.v i n ser := by
          unfold closeV
          rw [if_pos hh]
          exact ek
        exact q H' sk Sk ev (tk.trans t4) (by rw [ev]; exact hw.close hiv hs) ((f14.more e5).trans fk)
theorem b_close (T : Tx K mg) : Binds K (fdAt K (mA "System" "close" K)) ["self", "process", "number"] [] := FunD.bindsN T.f_System_close fun _ _ _ _ _ _ us hl => match us, hl with | [_, _, _], _ => rfl
end

/-! ### is_integer, is_between of more objects -/
def ObjK (K : PySem.W.Frag) (H : Hp) (x : V) : Prop := Obj' H x ∨ ∃ a xs, x = .ref a ∧ (SqT K H a xs ∨ SqL K H a xs)
theorem objK_ty {K : PySem.W.Frag} {H : Hp} {x : V} (h : ObjK K H x) : ∃ (t : Value) (b c : Bool), TyX K H x t ∧ PySem.W.kitOne K t (.type "int") = some b ∧ PySem.W.kitOne K t (.type "bool") = some c ∧ (b && !c) = isI x := by
  rcases h with h | ⟨a, xs, rfl, h | h⟩
  · exact obj_ty h
  · refine ⟨.type "tuple", false, false, ?_, kit_ty (by decide +kernel), kit_ty (by decide +kernel), rfl⟩
    rcases h with (h | ⟨o, h⟩) | ⟨o, _, _, h1, h2, _⟩
    · exact .base (.tup h)
    · exact .fTuple h
    · exact .kTuple h1 h2
  · refine ⟨.type "list", false, false, ?_, kit_ty (by decide +kernel), kit_ty (by decide +kernel), rfl⟩
    rcases h with (h | ⟨o, h⟩) | ⟨o, _, _, h1, h2, _⟩
    · exact .base (.lst h)
    · exact .base (.frz h)
    · exact .kList h1 h2
def sp_is_integerK (K : PySem.W.Frag) : Sp := fun vs H Q _ => ∃ x, vs = [x] ∧ ObjK K H x ∧ Q (.bl (isI x)) H
def sp_is_betweenK (K : PySem.W.Frag) : Sp := fun vs H Q _ => ∃ x lo hi, vs = [x, .int lo, .int hi] ∧ ObjK K H x ∧ Q (.bl (betw x lo hi)) H
section
variable {P : Program} {w : World} {K : PySem.W.Frag} {mg : Str → Option Value} {base : Heap}
theorem ok_is_integerK (T : Tx K mg) : FnOk P w K mg base CX0 1 (gA "is_integer" K) (fdAt K (gA "is_integer" K)) ["thing"] (sp_is_integerK K) := by
  refine FunD.ok T.f_is_integer sc_is_integer (fun vs H Q E h => ?_) (fun cdv A outer s H vs Q E hr h => ?_)
  · obtain ⟨x, rfl, _⟩ := h
    rfl
  · obtain ⟨x, rfl, hx, q⟩ := h
    refine ⟨_, PSs.nox (pss_one (ps_ret (pe_and (pe_callB call_isi (by rfl) T.free_isinstance (by decide +kernel) (pa_cons (pv 0) (pa_cons (pe_bltn (v := .ty "int") (by rfl) T.free_int (by decide +kernel) rfl) pa_nil)))
      (pe_one (pe_not (pe_callB call_isi (by rfl) T.free_isinstance (by decide +kernel) (pa_cons (pv 0) (pa_cons (pe_bltn (v := .ty "bool") (by rfl) T.free_bool (by decide +kernel) rfl) pa_nil)))))))), ?_⟩
    obtain ⟨t, b, c, ty, h1, h2, e⟩ := objK_ty hx
    refine ⟨_, rfl, _, _, t, .type "int", b, rfl, .ty "int", ty, h1, b, rfl, ?_⟩
    cases b with
    | false =>
      refine iteF ?_
      rw [← e] at q
      exact q
    | true =>
      refine iteT ?_
      refine ⟨_, rfl, _, _, t, .type "bool", c, rfl, .ty "bool", ty, h2, c, rfl, ?_⟩
      rw [← e] at q
      exact q
theorem ok_is_betweenK (T : Tx K mg) : FnOk P w K mg base CX0 2 (gA "is_between" K) (fdAt K (gA "is_between" K)) ["thing", "low", "high"] (sp_is_betweenK K) := by
  refine FunD.ok T.f_is_between sc_is_between (fun vs H Q E h => ?_) (fun cdv A outer s H vs Q E hr h => ?_)
  · obtain ⟨x, lo, hi, rfl, _⟩ := h
    rfl
  · obtain ⟨x, lo, hi, rfl, hx, q⟩ := h
    refine ⟨_, PSs.nox (pss_one (ps_ret (pe_and (pe_call (ok_is_integerK T) hr (by rfl) T.g_is_integer T.f_is_integer.kp (b_is_integer T) .nil pass0 (pa_cons (pv 0) pa_nil))
      (pe_one (pe_chain op_le op_le (pv 1) (pv 0) (pv 2)))))), ?_⟩
    refine ⟨_, rfl, x, rfl, hx, isI x, rfl, ?_⟩
    cases x with
    | int i =>
      refine iteT ?_
      refine ⟨_, rfl, _, rfl, lo, i, rfl, rfl, _, rfl, ?_⟩
      by_cases c : lo ≤ i
      · rw [decide_eq_true c]
        refine iteT ?_
        refine ⟨_, rfl, i, hi, rfl, rfl, ?_⟩
        have e : betw (.int i) lo hi = decide (i ≤ hi) := by show (decide (lo ≤ i) && decide (i ≤ hi)) = _; rw [decide_eq_true c]; rfl
        rw [e] at q
        exact q
      · rw [decide_eq_false c]
        refine iteF ?_
        have e : betw (.int i) lo hi = false := by show (decide (lo ≤ i) && decide (i ≤ hi)) = _; rw [decide_eq_false c]; rfl
        rw [e] at q
        exact q
    | _ => exact iteF q
end
/-! ### copy -/
def Sv.addRow (v : Sv) (i k ser : Int) : Sv := { v with tabs := upAt v.tabs i (· ++ [(k, ser)]) }
def copyV (v : Sv) (i k ser : Int) (rows : List (Int × Int)) : Sv := match lk rows k with
  | none => v.addRow i k ser
  | some old => if old = ser then v else (closeV v i k old).addRow i k ser
theorem WF.addRow {v : Sv} (h : WF v) {i k ser : Int} {rows : List (Int × Int)} (hl : lk v.tabs i = some rows) (hk : 0 ≤ k ∧ k < v.N ∧ k ∉ rows.map (·.1)) (hs : ser ∈ v.ths.map (·.1)) : WF (v.addRow i k ser) := by
  have mem : (i, rows) ∈ v.tabs := lk_mem hl
  have one : ∀ {t : Int × List (Int × Int)}, t ∈ (v.addRow i k ser).tabs → t ∈ v.tabs ∨ t = (i, rows ++ [(k, ser)]) := fun {t} ht => by
    rcases upAt_mem (show t ∈ upAt v.tabs i (· ++ [(k, ser)]) from ht) with ⟨_, z⟩ | ⟨x, hx, rfl⟩
    · exact .inl z
    · have := lk_of_mem h.ndp hx
      rw [hl] at this
      cases this
      exact .inr rfl
  refine ⟨h.p, h.n, ?_, fun t ht => ?_, fun t ht => ?_, fun t ht r hr => ?_, fun t ht r hr => ?_, h.nds, h.rs, fun t ht => ?_, h.ok⟩
  · show ((upAt v.tabs i (· ++ [(k, ser)])).map (·.1)).Nodup
    rw [upAt_keys]
    exact h.ndp
  · rcases one ht with z | z
    · exact h.rp t z
    · subst z
      exact h.rp (i, rows) mem
  · rcases one ht with z | z
    · exact h.ndn t z
    · subst z
      show ((rows ++ [(k, ser)]).map (·.1)).Nodup
      rw [List.map_append]
      exact nd_snoc (h.ndn (i, rows) mem) hk.2.2
  · rcases one ht with z | z
    · exact h.rn t z r hr
    · subst z
      rcases List.mem_append.mp hr with y | y
      · exact h.rn (i, rows) mem r y
      · cases List.mem_singleton.mp y
        exact ⟨hk.1, hk.2.1⟩
  · rcases one ht with z | z
    · exact h.th t z r hr
    · subst z
      rcases List.mem_append.mp hr with y | y
      · exact h.th (i, rows) mem r y
      · cases List.mem_singleton.mp y
        exact hs
  · obtain ⟨u, hu, r, hr, e⟩ := h.held t ht
    refine ⟨_, List.mem_map.mpr ⟨u, hu, rfl⟩, r, ?_, e⟩
    show r ∈ (if u.1 = i then (u.1, u.2 ++ [(k, ser)]) else u).2
    split
    · exact List.mem_append_left _ hr
    · exact hr
theorem closeV_ths {v : Sv} {i n ser k : Int} (h : k ∈ v.ths.map (·.1)) (ne : k ≠ ser) : k ∈ (closeV v i n ser).ths.map (·.1) := by
  unfold closeV
  split
  · rw [Sv.fgt, mapT_keys]
    obtain ⟨t, ht, e⟩ := List.mem_map.mp h
    exact List.mem_map.mpr ⟨t, dr_mem.mpr ⟨ht, by rw [e]; exact ne⟩, e⟩
  · exact h
section
variable {K : PySem.W.Frag} {H : Hp} {s : Sy}
theorem SyAt.addT (S : SyAt K H s) {i : Int} {t : Tb} (k ser : Int) (hl : lk s.tabs i = some t) (nd : (s.tabs.map (·.1)).Nodup) : SyAt K (upd H t.ad (.dK (kv V.int (t.rows ++ [(k, ser)])))) { s with tabs := upAt s.tabs i (Tb.fn (· ++ [(k, ser)])) } ∧ Fr' s { s with tabs := upAt s.tabs i (Tb.fn (· ++ [(k, ser)])) } H (upd H t.ad (.dK (kv V.int (t.rows ++ [(k, ser)])))) ∧ ({ s with tabs := upAt s.tabs i (Tb.fn (· ++ [(k, ser)])) } : Sy).v = s.v.addRow i k ser := by
  have mt : t.ad ∈ s.dcs := List.mem_cons_of_mem _ (List.mem_cons_of_mem _ (List.mem_map.mpr ⟨_, lk_mem hl, rfl⟩))
  have ads : (upAt s.tabs i (Tb.fn (· ++ [(k, ser)]))).map (·.2.ad) = s.tabs.map (·.2.ad) := by
    unfold upAt
    rw [List.map_map]
    refine List.map_congr_left fun u _ => ?_
    show (if u.1 = i then (u.1, Tb.fn _ u.2) else u).2.ad = u.2.ad
    split <;> rfl
  refine ⟨S.rows (f := (· ++ [(k, ser)])) hl nd, ⟨fun b o h nb => ?_, fun b hb => .inl ?_, rfl⟩, ?_⟩
  · rw [upd_ne (show b ≠ t.ad from fun z => nb (z ▸ Sy.in_dcs mt))]
    exact h
  · have e : ({ s with tabs := upAt s.tabs i (Tb.fn (· ++ [(k, ser)])) } : Sy).foot = s.foot := by
      unfold Sy.foot Sy.dcs
      show s.p :: ((s.T :: s.G :: (upAt s.tabs i (Tb.fn (· ++ [(k, ser)]))).map (·.2.ad)) ++ _) = _
      rw [ads]
      rfl
    rw [e] at hb
    exact hb
  · show (⟨s.P, s.N, s.made, (upAt s.tabs i (Tb.fn (· ++ [(k, ser)]))).map fun t => (t.1, t.2.rows), _⟩ : Sv) = _
    rw [upAt_map (fun t : Tb => t.rows) (Tb.fn (· ++ [(k, ser)])) (· ++ [(k, ser)]) (fun _ => rfl)]
    rfl
end
def sp_copy (K : PySem.W.Frag) : Sp := fun vs H Q E => ∃ (s : Sy) (x y z : V), vs = [.ref s.p, x, y, z] ∧ SyAt K H s ∧ WF s.v ∧ s.made ≤ 1000000 ∧ Obj' H x ∧ Obj' H y ∧ ObjK K H z ∧ ByProc K s x H E fun i t => ByNum K t y H E fun n ser =>
  (z = .non → (∀ k, lowFree (t.rows.map (·.1)) s.N = some k → ∀ H' s', SyAt K H' s' → s'.v = s.v.addRow i k ser → WF s'.v → Fr' s s' H H' → Q (.int k) H') ∧ (lowFree (t.rows.map (·.1)) s.N = none → Raised K H E "Full" (errF x))) ∧
  (z ≠ .non → (betw z 0 (s.N - 1) = false → Raised K H E "NoNumber" (errN "NoNumber" z)) ∧ ∀ k, z = .int k → 0 ≤ k → k ≤ s.N - 1 → ∀ H' s', SyAt K H' s' → s'.v = copyV s.v i k ser t.rows → WF s'.v → Fr' s s' H H' → Q (.int k) H')
theorem put0 {H : Hp} {a : Addr} {rows : List (Int × Int)} {v : Sv} {i k ser : Int} (hk : lk rows k = none) (ht : H a = some (.dK (kv V.int rows))) (hi : lk v.tabs i = some rows) (hw : WF v) : DPut H a (.int k) (.int ser) (upd H a (.dK (kv V.int (rows ++ [(k, ser)])))) := by
  have r8 : rows.length ≤ 8 := hw.rows8 (t := (i, rows)) (lk_mem hi)
  have g3 := DPut.k (k := Sum.inl k) (v := .int ser) ht (by rw [kv_len]; exact Nat.lt_of_le_of_lt r8 (by decide))
  rw [put_kv V.int k ser hk] at g3
  exact g3
section
variable {P : Program} {w : World} {K : PySem.W.Frag} {mg : Str → Option Value} {base : Heap}
theorem ei_NoNumber (T : Tx K mg) : FnOk P w K mg base CX0 1 (mA "NoNumber" "__init__" K) (fdAt K (mA "NoNumber" "__init__" K)) ["self", "number"] (spErr (ga K "NoNumber") "number" "NoNumber") :=
  err_init T.x_NoNumber T.f_NoNumber___init__ ⟨rfl, rfl, rfl, by decide +kernel, rfl, by decide +kernel, by decide +kernel⟩ rfl ⟨by decide, by decide⟩ ⟨by decide, by decide⟩ (fun _ => ⟨rfl, rfl⟩) ⟨.inl rfl, .inl rfl⟩
theorem eb_NoNumber (T : Tx K mg) : Binds K (fdAt K (mA "NoNumber" "__init__" K)) ["self", "number"] [] := FunD.bindsN T.f_NoNumber___init__ fun _ _ _ _ _ _ us hl => match us, hl with | [_, _], _ => rfl
theorem sc_copy : FnScope ["self", "process", "number", "to", "serial", "table"] ["self", "process", "number", "to"] (defScope s_System_copy) := ⟨rfl, rfl, rfl, by decide +kernel, rfl, by decide +kernel, by decide +kernel⟩
theorem ok_copy (T : Tx K mg) : FnOk P w K mg base (L2.CX P w) 10 (mA "System" "copy" K) (fdAt K (mA "System" "copy" K)) ["self", "process", "number", "to"] (sp_copy K) := by
  refine FunD.ok T.f_System_copy sc_copy (fun vs H Q E h => ?_) (fun cdv A outer s H vs Q E hr h => ?_)
  · obtain ⟨s, x, y, z, rfl, _⟩ := h
    rfl
  · obtain ⟨S, x, y, z, rfl, hS, hw, hm, hx, hy, hz, q⟩ := h
    have hu := hu_of hr
    have hu64 := hr.units
    refine ⟨_, pss_cons (ps_set (i := 4) sc_copy.nd rfl (Or.inl rfl) (pe_meth (pv 0) T.c_System T.m_System_serial_at (ok_serial_at T) (hr.mono (by decide)) (b_serial_at T) .nil (passes_call (takes_of rfl rfl rfl rfl) (fun _ _ _ _ h => h)) (pa_cons (pv 1) (pa_cons (pv 2) pa_nil))))
      (pss_cons (ps_if (pt_cmpR op_isN (pv 3) pe_non (nomark _)) (pss_one (ps_set (i := 3) sc_copy.nd rfl (Or.inl rfl) (pe_meth (pv 0) T.c_System T.m_System_lowest_free (ok_lowest_free T) (hr.mono (by decide)) (b_lowest_free T) .nil (passes_call (takes_of rfl rfl rfl rfl) (fun _ _ _ _ h => h)) (pa_cons (pv 1) pa_nil))))
        (pss_one (ps_if (pt_not (pt_val (pe_call (ok_is_betweenK T) (hr.mono (by decide)) (by rfl) T.g_is_between T.f_is_between.kp (b_is_between T) .nil pass0 (pa_cons (pv 3) (pa_cons pe_int (pa_cons (pe_op op_sub (pe_fld (pv 0) rfl) pe_int) pa_nil))))))
          (pss_one (ps_raise rfl (takes_of rfl rfl rfl rfl) (pmk_err T.x_NoNumber (ei_NoNumber T) (hr.mono (by decide)) (eb_NoNumber T) pass0 (by rfl) T.g_NoNumber (pv 3)))) pss_nil)))
      (pss_cons (ps_set (i := 5) sc_copy.nd rfl (Or.inl rfl) (pe_dget hu (pe_fld (pv 0) rfl) (pv 1) (fun _ _ => rfl)))
      (pss_cons (ps_if (pt_cmpR (op_neD hu64) (pe_dget1 hu (pv 5) (pv 3) ⟨rfl, rfl, rfl, rfl⟩) (pv 4) (nomark _))
        (pss_cons (ps_if (pt_cmp (pc_din hu (pv 3) (pv 5))) (pss_one (ps_expr (pe_meth (pv 0) T.c_System T.m_System_close (ok_close T) hr (b_close T) .nil (passes_call (takes_of rfl rfl rfl rfl) (fun _ _ _ _ h => h)) (pa_cons (pv 1) (pa_cons (pv 3) pa_nil))))) pss_nil)
        (pss_one (ps_dput hu (pv 5) (pv 3) (pv 4) rfl))) pss_nil)
      (pss_one (ps_ret (pv 3)))))), ?_⟩
    refine ⟨_, rfl, S.p, S.dx, _, rfl, hS.ob, rfl, _, rfl, _, rfl, S, x, y, rfl, hS, hx, hy, ?_⟩
    rcases q with ⟨i, t, rfl, hl, q⟩ | ⟨hn, q⟩
    rotate_left
    · exact .inr ⟨hn, q⟩
    refine .inl ⟨i, t, rfl, hl, ?_⟩
    rcases q with ⟨n, ser, rfl, hs, q⟩ | ⟨hn, q⟩
    rotate_left
    · exact .inr ⟨hn, q⟩
    refine .inl ⟨n, ser, rfl, hs, ?_⟩
    have g1 := DGet.k (k := Sum.inl i) hS.tb
    rw [val_kv, hl] at g1
    have ht := hS.tt _ (lk_mem hl)
    have ndp : (S.tabs.map (·.1)).Nodup := by rw [← Sy.pids]; exact hw.ndp
    have hiv : lk S.v.tabs i = some t.rows := by rw [Sy.tabs_v, hl]; rfl
    have sm : ser ∈ S.v.ths.map (·.1) := hw.th (i, t.rows) (lk_mem hiv) _ (lk_mem hs)
    have sN : S.v.N = S.N := rfl
    have hN := hw.n
    refine ⟨_, rfl, rfl, _, rfl, ?_⟩
    by_cases cz : z = .non
    · subst cz
      refine iteT ⟨_, rfl, S.p, S.dx, _, rfl, hS.ob, rfl, _, rfl, S, .int i, rfl, hS, hx, hw, .inl ⟨i, t, rfl, hl, fun k hk => ?_, (q.1 rfl).2⟩⟩
      obtain ⟨k0, k1, k2⟩ := lowFree_spec hk
      have lkn : lk t.rows k = none := lk_none.mpr k2
      have g2 := DGet.k (k := Sum.inl k) ht
      rw [val_kv, lkn] at g2
      refine ⟨_, rfl, _, _, _, _, _, rfl, hS.ob, T.c_System, T.n_System_tables, rfl, _, rfl, _, _, rfl, g1, ?_⟩
      refine ⟨_, rfl, t.ad, rfl, .inl ⟨_, .inl ht⟩, _, rfl, _, g2, _, rfl, .none, .int ser, .non, .int _, rfl, rfl, _, rfl, ?_⟩
      refine iteT ⟨_, rfl, _, rfl, _, _, rfl, g2, _, rfl, iteF ?_⟩
      refine ⟨_, rfl, _, rfl, _, rfl, t.ad, _, rfl, put0 lkn ht hiv hw, ?_⟩
      obtain ⟨S2, f2, v2⟩ := hS.addT k ser hl ndp
      refine ⟨_, rfl, (q.1 rfl).1 k hk _ _ S2 v2 ?_ f2⟩
      rw [v2]
      exact hw.addRow hiv ⟨k0, by omega, k2⟩ sm
    · rw [decide_eq_false cz]
      refine iteF ⟨_, rfl, _, rfl, _, _, _, _, _, rfl, hS.ob, T.c_System, T.n_System_number_limit, rfl, _, _, rfl, rfl, z, 0, S.N - 1, rfl, hz, ?_⟩
      obtain ⟨qn, qk⟩ := q.2 cz
      refine ⟨_, rfl, ?_⟩
      cases cb : betw z 0 (S.N - 1) with
      | false => exact iteT ⟨_, rfl, fun d hd => (qn cb).here hd⟩
      | true =>
        obtain ⟨k, rfl, k0, k1⟩ := betw_int cb
        have qk := qk k rfl k0 k1
        have g2 := DGet.k (k := Sum.inl k) ht
        rw [val_kv] at g2
        refine iteF ⟨_, rfl, _, _, _, _, _, rfl, hS.ob, T.c_System, T.n_System_tables, rfl, _, rfl, _, _, rfl, g1, ?_⟩
        unfold copyV at qk
        cases lkk : lk t.rows k with
        | none =>
          rw [lkk] at g2 qk
          refine ⟨_, rfl, t.ad, rfl, .inl ⟨_, .inl ht⟩, _, rfl, _, g2, _, rfl, .none, .int ser, .non, .int _, rfl, rfl, _, rfl, ?_⟩
          refine iteT ⟨_, rfl, _, rfl, _, _, rfl, g2, _, rfl, iteF ?_⟩
          refine ⟨_, rfl, _, rfl, _, rfl, t.ad, _, rfl, put0 lkk ht hiv hw, ?_⟩
          obtain ⟨S2, f2, v2⟩ := hS.addT k ser hl ndp
          refine ⟨_, rfl, qk _ _ S2 v2 ?_ f2⟩
          rw [v2]
          exact hw.addRow hiv ⟨k0, by omega, lk_none.mp lkk⟩ sm
        | some old =>
          rw [lkk] at g2 qk
          simp only at qk
          refine ⟨_, rfl, t.ad, rfl, .inl ⟨_, .inl ht⟩, _, rfl, _, g2, _, rfl, .int old, .int ser, .int _, .int _, rfl, rfl, _, rfl, ?_⟩
          by_cases co : old = ser
          · rw [if_pos co] at qk
            rw [show PyData.eqv (.int old) (.int ser) = true from by show (old == ser) = true; simp [co]]
            refine iteF ⟨_, rfl, qk H S hS rfl hw (Fr'.refl _ _)⟩
          · rw [if_neg co] at qk
            rw [show PyData.eqv (.int old) (.int ser) = false from by show (old == ser) = false; simp [co]]
            refine iteT ⟨_, rfl, _, rfl, _, _, rfl, g2, _, rfl, iteT ?_⟩
            refine ⟨_, rfl, S.p, S.dx, _, rfl, hS.ob, rfl, _, rfl, _, rfl, S, .int i, .int k, rfl, hS, hw, hm, hx, True.intro, .inl ⟨i, t, rfl, hl, .inl ⟨k, old, rfl, lkk, fun H1 s1 S1 v1 t1 w1 f1 => ?_⟩⟩⟩
            have hl1 : lk s1.tabs i = some (Tb.fn (fun r => dr r k) t) := by rw [t1, upAt_lk, if_pos rfl, hl]; rfl
            have ht1 := S1.tt _ (lk_mem hl1)
            have hiv1 : lk s1.v.tabs i = some (dr t.rows k) := by rw [Sy.tabs_v, hl1]; rfl
            have lkd : lk (dr t.rows k) k = none := by rw [lk_dr, if_pos rfl]
            refine ⟨_, rfl, _, rfl, _, rfl, t.ad, _, rfl, put0 lkd ht1 hiv1 w1, ?_⟩
            obtain ⟨S2, f2, v2⟩ := S1.addT k ser hl1 (by rw [← Sy.pids]; exact w1.ndp)
            rw [v1] at v2
            refine ⟨_, rfl, qk _ _ S2 v2 ?_ (f1.trans f2)⟩
            rw [v2, ← v1]
            refine w1.addRow hiv1 ⟨k0, ?_, lk_none.mp lkd⟩ ?_
            · have : s1.v.N = S.v.N := by rw [v1]; unfold closeV; split <;> rfl
              omega
            · rw [v1]
              exact closeV_ths sm (Ne.symm co)
theorem b_copyTo (T : Tx K mg) : ∃ ds, Vals [] ds ∧ Binds K (fdAt K (mA "System" "copy" K)) ["self", "process", "number", "to"] ds := by
  have z := FunD.binds1 (ps := ["self", "process", "number", "to"]) T.f_System_copy 4 1 (fun z => nomatch z) rfl fun T kV doc pm an cdv ct us its l1 l2 => match us, its, l1, l2 with | [_, _, _, _], [_], _, _ => ⟨_, rfl, rfl⟩
  exact z
end

/-! ### finish -/
/-! ### finish -/
section
variable {P : Program} {w : World} {K : PySem.W.Frag} {mg : Str → Option Value} {base : Heap}
end

/-! ### registrations -/
theorem Gd.addT {K : PySem.W.Frag} {H1 H' : Hp} {D p : Addr} {ds es : List PyData} {vs : List V} (g : Gd K H1 D H' ds) (hp : H' p = none) (hp1 : H1 p = none) (hd : DpAll K (frs H1 (off D H')) vs es) : ∃ xs, upd H' p (.tup vs) D = some (.lst xs) ∧ xs.length = ds.length ∧ Gd K H1 D (upd (upd H' p (.tup vs)) D (.lst (xs ++ [.ref p]))) (ds ++ [.tuple es]) := by
  obtain ⟨xs, h1, h2⟩ := g.has
  have ne : D ≠ p := fun z => by rw [← z, h1] at hp; cases hp
  have kk : ∀ b o, H1 b = none → b ≠ D → H' b = some o → upd (upd H' p (.tup vs)) D (.lst (xs ++ [.ref p])) b = some o := fun b o hb n h => by
    rw [upd_ne n, upd_ne (ne_of_none h hp)]
    exact h
  refine ⟨xs, by rw [upd_ne ne]; exact h1, dpLen h2, g.new, _, upd_same, dpApp (DpAll.same (frs_keep kk) _ _ h2) (.cons (.tup (SqT.of ?_) (DpAll.same (frs_keep kk) _ _ hd)) .nil)⟩
  rw [frs_new hp1, off_ne (Ne.symm ne), upd_ne (Ne.symm ne), upd_same]
section
variable {P : Program} {w : World} {K : PySem.W.Frag} {mg : Str → Option Value} {base : Heap}
end

/-! ### units -/
def sp_units (K : PySem.W.Frag) : Sp := fun vs H Q E => ∃ (s : Sy) (x y : V), vs = [.ref s.p, x, y] ∧ SyAt K H s ∧ WF s.v ∧ Obj' H x ∧ Obj' H y ∧ BySrc K s x y H E fun _ _ _ _ th => ∀ u f, th.tg.v = .src u f → ∀ p, H p = none → Q (.ref p) (upd H p (.tup [.int u, .bl f]))
section
variable {P : Program} {w : World} {K : PySem.W.Frag} {mg : Str → Option Value} {base : Heap}
theorem sc_units : FnScope ["self", "process", "number", "source"] ["self", "process", "number"] (defScope s_System_units) := ⟨rfl, rfl, rfl, by decide +kernel, rfl, by decide +kernel, by decide +kernel⟩
theorem ok_units (T : Tx K mg) : FnOk P w K mg base (L2.CX P w) 6 (mA "System" "units" K) (fdAt K (mA "System" "units" K)) ["self", "process", "number"] (sp_units K) := by
  refine FunD.ok T.f_System_units sc_units (fun vs H Q E h => ?_) (fun cdv A outer s H vs Q E hr h => ?_)
  · obtain ⟨s, x, y, rfl, _⟩ := h
    rfl
  · obtain ⟨S, x, y, rfl, hS, hw, hx, hy, q⟩ := h
    have hu := hu_of hr
    refine ⟨_, pss_cons (ps_set (i := 3) sc_units.nd rfl (Or.inl rfl) (pe_dget hu (pe_fld (pv 0) rfl) (pe_meth (pv 0) T.c_System T.m_System_source_at (ok_source_at T) hr (b_source_at T) .nil (passes_call (takes_of rfl rfl rfl rfl) (fun _ _ _ _ h => h)) (pa_cons (pv 1) (pa_cons (pv 2) pa_nil))) (fun _ _ => rfl)))
      (pss_one (ps_ret (pe_tup (pa_cons (pe_fld (pv 3) rfl) (pa_cons (pe_fld (pv 3) rfl) pa_nil))))), ?_⟩
    refine ⟨_, rfl, _, _, _, _, _, rfl, hS.ob, T.c_System, T.n_System_things, rfl, _, rfl, S.p, S.dx, _, rfl, hS.ob, rfl, _, rfl, _, rfl, S, x, y, rfl, hS, hw, hx, hy, ?_⟩
    rcases q with ⟨i, t, rfl, hl, q⟩ | ⟨hn, q⟩
    · refine .inl ⟨i, t, rfl, hl, ?_⟩
      rcases q with ⟨n, ser, rfl, hs, q⟩ | ⟨hn, q⟩
      · refine .inl ⟨n, ser, rfl, hs, fun th hth => ?_⟩
        obtain ⟨q1, q2⟩ := q th hth
        refine ⟨fun e => ?_, q2⟩
        obtain ⟨dx, u, f, et⟩ := src_of e
        have q3 := q1 e u f (by rw [et]; rfl)
        have g := DGet.k (k := Sum.inl ser) hS.gb
        rw [val_kv, hth] at g
        have hta := hS.gt _ (lk_mem hth)
        rw [show ((ser, th) : Int × Th).2.tg = .src dx u f from et] at hta
        refine ⟨_, _, rfl, g, _, rfl, _, _, _, _, _, rfl, hta, T.c_Source, T.n_Source_unread, rfl, _, rfl, _, _, _, _, _, rfl, hta, T.c_Source, T.n_Source_finished, rfl, (by show 2 ≤ sizeLine; decide), fun p np => q3 p np⟩
      · exact .inr ⟨hn, q⟩
    · exact .inr ⟨hn, q⟩
theorem b_units (T : Tx K mg) : Binds K (fdAt K (mA "System" "units" K)) ["self", "process", "number"] [] := FunD.bindsN T.f_System_units fun _ _ _ _ _ _ us hl => match us, hl with | [_, _, _], _ => rfl
end

/-! ### same -/
def sp_same (K : PySem.W.Frag) : Sp := fun vs H Q E => ∃ (s : Sy) (x y x2 y2 : V), vs = [.ref s.p, x, y, x2, y2] ∧ SyAt K H s ∧ Obj' H x ∧ Obj' H y ∧ Obj' H x2 ∧ Obj' H y2 ∧ ByProc K s x H E fun _ t => ByNum K t y H E fun _ ser => ByProc K s x2 H E fun _ t2 => ByNum K t2 y2 H E fun _ ser2 => Q (.bl (decide (ser = ser2))) H
section
variable {P : Program} {w : World} {K : PySem.W.Frag} {mg : Str → Option Value} {base : Heap}
theorem sc_same : FnScope ["self", "process", "number", "other", "other_number", "serial"] ["self", "process", "number", "other", "other_number"] (defScope s_System_same) := ⟨rfl, rfl, rfl, by decide +kernel, rfl, by decide +kernel, by decide +kernel⟩
theorem ok_same (T : Tx K mg) : FnOk P w K mg base (L2.CX P w) 6 (mA "System" "same" K) (fdAt K (mA "System" "same" K)) ["self", "process", "number", "other", "other_number"] (sp_same K) := by
  refine FunD.ok T.f_System_same sc_same (fun vs H Q E h => ?_) (fun cdv A outer s H vs Q E hr h => ?_)
  · obtain ⟨s, x, y, x2, y2, rfl, _⟩ := h
    rfl
  · obtain ⟨S, x, y, x2, y2, rfl, hS, hx, hy, hx2, hy2, q⟩ := h
    refine ⟨_, pss_cons (ps_set (i := 5) sc_same.nd rfl (Or.inl rfl) (pe_meth (pv 0) T.c_System T.m_System_serial_at (ok_serial_at T) (hr.mono (by decide)) (b_serial_at T) .nil (passes_call (takes_of rfl rfl rfl rfl) (fun _ _ _ _ h => h)) (pa_cons (pv 1) (pa_cons (pv 2) pa_nil))))
      (pss_one (ps_ret (pe_cmpR op_eq (pv 5) (pe_meth (pv 0) T.c_System T.m_System_serial_at (ok_serial_at T) (hr.mono (by decide)) (b_serial_at T) .nil (passes_call (takes_of rfl rfl rfl rfl) (fun _ _ _ _ h => h)) (pa_cons (pv 3) (pa_cons (pv 4) pa_nil))) (nomark _)))), ?_⟩
    refine ⟨_, rfl, S.p, S.dx, _, rfl, hS.ob, rfl, _, rfl, _, rfl, S, x, y, rfl, hS, hx, hy, ?_⟩
    rcases q with ⟨i, t, rfl, hl, q⟩ | ⟨hn, q⟩
    · refine .inl ⟨i, t, rfl, hl, ?_⟩
      rcases q with ⟨n, ser, rfl, hs, q⟩ | ⟨hn, q⟩
      · refine .inl ⟨n, ser, rfl, hs, ?_⟩
        refine ⟨_, rfl, _, rfl, S.p, S.dx, _, rfl, hS.ob, rfl, _, rfl, _, rfl, S, x2, y2, rfl, hS, hx2, hy2, ?_⟩
        rcases q with ⟨i2, t2, rfl, hl2, q⟩ | ⟨hn, q⟩
        · refine .inl ⟨i2, t2, rfl, hl2, ?_⟩
          rcases q with ⟨n2, ser2, rfl, hs2, q⟩ | ⟨hn, q⟩
          · refine .inl ⟨n2, ser2, rfl, hs2, ?_⟩
            refine ⟨rfl, ?_⟩
            show Q (.bl (decide (V.int ser = V.int ser2))) H
            have e : decide (V.int ser = V.int ser2) = decide (ser = ser2) := by
              by_cases c : ser = ser2
              · rw [decide_eq_true c, decide_eq_true (by rw [c])]
              · rw [decide_eq_false c, decide_eq_false (fun z => c (V.int.inj z))]
            rw [e]
            exact q
          · exact .inr ⟨hn, q⟩
        · exact .inr ⟨hn, q⟩
      · exact .inr ⟨hn, q⟩
    · exact .inr ⟨hn, q⟩
theorem b_same (T : Tx K mg) : Binds K (fdAt K (mA "System" "same" K)) ["self", "process", "number", "other", "other_number"] [] := FunD.bindsN T.f_System_same fun _ _ _ _ _ _ us hl => match us, hl with | [_, _, _, _, _], _ => rfl
end

/-! ### systems at the law's level -/
def sca : Val → Bool
  | .non => true
  | .bl _ => true
  | .int _ => true
  | .str _ => true
  | _ => false
theorem sca_obj {K : PySem.W.Frag} {ad : Nat → Addr} {b : Nat} {H H' : Hp} {x : Val} {u : V} (h : sca x = true) (r : VR K ad b H x u) : Obj' H' u := by
  cases r <;> first | exact trivial | cases h
def errV (f : Str) (x : Val) (c : Str) : List (Str × Val) := [(f, x), ("caption", .str c)]
def byP (v : Sv) (x : Val) (μ : Mu) (k : Int → List (Int × Int) → R Val) : R Val := if sca x = true then match x with
    | .int i => match lk v.tabs i with
      | some rows => k i rows
      | none => .er "NoProcess" (errV "process" x "NoProcess") μ
    | _ => .er "NoProcess" (errV "process" x "NoProcess") μ
  else .no
def byN (rows : List (Int × Int)) (y : Val) (μ : Mu) (k : Int → Int → R Val) : R Val := if sca y = true then match y with
    | .int i => match lk rows i with
      | some ser => k i ser
      | none => .er "NotOpen" (errV "number" y "NotOpen") μ
    | _ => .er "NotOpen" (errV "number" y "NotOpen") μ
  else .no
def onSrc (v : Sv) (ser : Int) (y : Val) (μ : Mu) (k : Int → Bool → R Val) : R Val := match lk v.ths ser with
  | some (.src u f) => k u f
  | some (.set _ _) => .er "NotASource" (errV "number" y "NotASource") μ
  | none => .no
section
variable {K : PySem.W.Frag} {E : XK} {w : Wt} {μ : Mu} {H : Hp} {n : Nat} {v : Sv} {Q : VK}
theorem raisedP (S : Sim K w μ H) {c : Str} {fs : List (Str × Val)} {us : List (Str × V)} (hp : Post K (relE K) E w μ.nx H Q (.er c fs μ)) (hk : us.map (·.1) = fs.map (·.1)) (r : VRs K w.ad μ.nx H (fs.map (·.2)) (us.map (·.2))) : Raised K H E c us := fun H' d e nd hd => by
  obtain ⟨S', g⟩ := S.same e
  exact hp w H' d us S' g hd hk (r.grow g)
theorem raised1 (S : Sim K w μ H) {c f cap : Str} {x : Val} {u : V} (hp : Post K (relE K) E w μ.nx H Q (.er c (errV f x cap) μ)) (r : VR K w.ad μ.nx H x u) : Raised K H E c [(f, u), ("caption", .str cap)] :=
  raisedP S hp rfl (.cons r (.cons (.str _) .nil))
theorem byP_ok (S : Sim K w μ H) (hob : μ.ob n = some (.sys v)) {x : Val} {u : V} (r : VR K w.ad μ.nx H x u) {k : Int → List (Int × Int) → R Val} (hp : Post K (relE K) E w μ.nx H Q (byP v x μ k)) {G : Int → Tb → Prop}
    (f : ∀ i t, lk (w.sy n).tabs i = some t → lk v.tabs i = some t.rows → Post K (relE K) E w μ.nx H Q (k i t.rows) → G i t) : Obj' H u ∧ ByProc K (w.sy n) u H E G := by
  obtain ⟨h1, h2, h3, h4⟩ := S.ok _ _ hob
  unfold byP at hp
  split at hp
  · rename_i hs
    refine ⟨sca_obj hs r, ?_⟩
    split at hp
    · rename_i i
      cases r
      split at hp
      · rename_i rows hr
        rw [← h3, Sy.tabs_v] at hr
        obtain ⟨t, e1, e2⟩ := Option.map_eq_some_iff.mp hr
        subst e2
        exact .inl ⟨i, t, rfl, e1, f i t e1 (by rw [← h3, Sy.tabs_v, e1]; rfl) hp⟩
      · rename_i hr
        rw [← h3, Sy.tabs_v] at hr
        exact .inr ⟨fun j e => by cases e; exact Option.map_eq_none_iff.mp hr, raised1 S hp (.int _)⟩
    · rename_i hni
      refine .inr ⟨fun i e => ?_, raised1 S hp r⟩
      subst e
      cases r
      exact (hni _ rfl).elim
  · exact hp.elim
theorem byN_ok (S : Sim K w μ H) {t : Tb} {y : Val} {u : V} (r : VR K w.ad μ.nx H y u) {k : Int → Int → R Val} (hp : Post K (relE K) E w μ.nx H Q (byN t.rows y μ k)) {G : Int → Int → Prop}
    (f : ∀ i ser, lk t.rows i = some ser → Post K (relE K) E w μ.nx H Q (k i ser) → G i ser) : ByNum K t u H E G := by
  unfold byN at hp
  split at hp
  · split at hp
    · rename_i i
      cases r
      split at hp
      · rename_i ser hr
        exact .inl ⟨_, ser, rfl, hr, f _ ser hr hp⟩
      · rename_i hr
        exact .inr ⟨fun j e => by cases e; exact hr, raised1 S hp (.int _)⟩
    · rename_i hni
      refine .inr ⟨fun i e => ?_, raised1 S hp r⟩
      subst e
      cases r
      exact (hni _ rfl).elim
  · exact hp.elim
theorem onSrc_ok (S : Sim K w μ H) (hob : μ.ob n = some (.sys v)) {ser : Int} {y : Val} {u : V} (r : VR K w.ad μ.nx H y u) {k : Int → Bool → R Val} (hp : Post K (relE K) E w μ.nx H Q (onSrc v ser y μ k)) {th : Th} (ht : lk (w.sy n).ths ser = some th) {G : Prop}
    (f : ∀ a b, th.tg.v = .src a b → lk v.ths ser = some (.src a b) → Post K (relE K) E w μ.nx H Q (k a b) → G) : (th.tg.v.isSet = false → G) ∧ (th.tg.v.isSet = true → Raised K H E "NotASource" (errN "NotASource" u)) := by
  obtain ⟨h1, h2, h3, h4⟩ := S.ok _ _ hob
  have e : lk v.ths ser = some th.tg.v := by rw [← h3, Sy.ths_v, ht]; rfl
  unfold onSrc at hp
  rw [e] at hp
  cases q : th.tg.v with
  | src a b =>
    rw [q] at hp e
    exact ⟨fun _ => f a b q e hp, fun z => by cases z⟩
  | set es row =>
    rw [q] at hp
    exact ⟨fun z => (by cases z), fun _ => raised1 S hp r⟩
end
/-! ### the calls -/
def newM (tv : Tv) : MSy := fun n v xs μ => match xs with
  | [x] => if 0 ≤ v.made ∧ v.made ≤ 1000000 then byP v x μ fun i rows => match lowFree (rows.map (·.1)) v.N with
      | some k => .ok (.int k) (μ.put n (.sys (v.place i k tv)))
      | none => .er "Full" (errV "process" x "Full") μ
    else .no
  | _ => .no
def cntOf (x : Val) (lo hi : Int) : Option Int := match x with
  | .int k => if lo ≤ k ∧ k ≤ hi then some k else none
  | _ => none
def arrM : MSy := fun n v xs μ => match xs with
  | [x, y, m] => if (sca x = true ∧ sca y = true ∧ sca m = true) ∧ v.made ≤ 1000000 then byP v x μ fun i rows => byN rows y μ fun k ser => onSrc v ser y μ fun u f => match cntOf m 1 1000000 with
      | none => .er "BadCount" (errV "count" m "BadCount") μ
      | some c => if f = true then .er "Finished" (errV "number" y "Finished") μ else .ok .non (μ.put n (.sys ((v.re ser (.src (u + c) f)).pend ser)))
    else .no
  | _ => .no
section
variable {K : PySem.W.Frag}
theorem cnt_betw {ad : Nat → Addr} {b : Nat} {H : Hp} {m : Val} {u : V} {lo hi : Int} (r : VR K ad b H m u) : (cntOf m lo hi = none → betw u lo hi = false) ∧ (∀ c, cntOf m lo hi = some c → m = .int c ∧ u = .int c ∧ lo ≤ c ∧ c ≤ hi) ∧ (cntOf m lo hi = none → ∀ c, u = .int c → lo ≤ c → c ≤ hi → False) := by
  unfold cntOf
  cases r with
  | int i =>
    simp only
    by_cases c : lo ≤ i ∧ i ≤ hi
    · rw [if_pos c]
      refine ⟨fun z => (by cases z), fun k z => ?_, fun z => (by cases z)⟩
      cases z
      exact ⟨rfl, rfl, c.1, c.2⟩
    · rw [if_neg c]
      refine ⟨fun _ => ?_, fun k z => (by cases z), fun _ k e h1 h2 => ?_⟩
      · unfold betw
        simp only
        rw [Bool.eq_false_iff]
        intro z
        apply c
        simpa using z
      · cases e
        exact c ⟨h1, h2⟩
  | _ => exact ⟨fun _ => rfl, fun k z => (by cases z), fun _ k e => (by cases e)⟩
theorem made_v {w : Wt} {μ : Mu} {H : Hp} {n : Nat} {v : Sv} (S : Sim K w μ H) (hob : μ.ob n = some (.sys v)) : (w.sy n).made = v.made ∧ (w.sy n).N = v.N ∧ (w.sy n).P = v.P := by
  obtain ⟨h1, h2, h3, h4⟩ := S.ok _ _ hob
  subst h3
  exact ⟨rfl, rfl, rfl⟩
theorem s_new {tv : Tv} (ht : tv.fresh) : PrimS K (sp_new K tv) (newM tv) := by
  intro E w μ H n v xs us Q S hob r hp
  obtain ⟨h1, h2, h3, h4⟩ := S.ok _ _ hob
  unfold newM at hp
  split at hp
  · rename_i x
    split at hp
    · rename_i hm
      cases r with
      | cons r1 r2 =>
        cases r2
        obtain ⟨e1, e2, e3⟩ := made_v S hob
        obtain ⟨o1, o2⟩ := byP_ok S hob r1 hp (G := fun i tb => (∀ k, lowFree (tb.rows.map (·.1)) (w.sy n).N = some k → ∀ H' s', SyAt K H' s' → s'.v = (w.sy n).v.place i k tv → Fr' (w.sy n) s' H H' → Q (.int k) H') ∧ (lowFree (tb.rows.map (·.1)) (w.sy n).N = none → Raised K H E "Full" (errF _))) (fun i t hl hv hk => by
          refine ⟨fun k hf H' s' S' ev fr => ?_, fun hf => ?_⟩
          · rw [e2] at hf
            rw [hf] at hk
            have wf : WF (v.place i k tv) := h4.place hv (lowFree_spec hf) ht hm.1
            obtain ⟨w', q1, q2, _⟩ := S.setS hob S' (by rw [ev, h3]) wf fr
            exact hk w' H' _ q1 (.int _) q2
          · rw [e2] at hf
            rw [hf] at hk
            exact raised1 S hk r1)
        exact ⟨w.sy n, _, by rw [h1], h2, o1, by rw [h3]; exact h4, by rw [e1]; exact hm, o2⟩
    · exact hp.elim
  · exact hp.elim
theorem betw_in {c lo hi : Int} (h1 : lo ≤ c) (h2 : c ≤ hi) : betw (.int c) lo hi = true := by
  unfold betw
  simp only
  simpa using ⟨h1, h2⟩
theorem s_arr : PrimS K (sp_arrive K) arrM := by
  intro E w μ H n v xs us Q S hob r hp
  obtain ⟨h1, h2, h3, h4⟩ := S.ok _ _ hob
  obtain ⟨e1, e2, e3⟩ := made_v S hob
  unfold arrM at hp
  split at hp
  · rename_i x y m
    split at hp
    · rename_i hm
      cases r with
      | cons r1 r2 =>
      cases r2 with
      | cons r2 r3 =>
      cases r3 with
      | cons r3 r4 =>
        cases r4
        refine ⟨w.sy n, _, _, _, by rw [h1], h2, by rw [h3]; exact h4, by rw [e1]; exact hm.2, sca_obj hm.1.1 r1, sca_obj hm.1.2.1 r2, sca_obj hm.1.2.2 r3, (byP_ok S hob r1 hp fun i t hl hv hk => byN_ok S r2 hk fun k ser hs hk => fun th hth => onSrc_ok S hob r2 hk hth fun u f hu hlu hk => ?_).2⟩
        obtain ⟨c1, c2, c3⟩ := cnt_betw (lo := 1) (hi := 1000000) r3
        cases hc : cntOf m 1 1000000 with
        | none =>
          rw [hc] at hk
          exact ⟨fun _ => raised1 S hk r3, fun k u f e l1 l2 => (c3 hc k e l1 l2).elim⟩
        | some c =>
          rw [hc] at hk
          obtain ⟨q1, rfl, q3, q4⟩ := c2 c hc
          refine ⟨fun z => ?_, fun k u' f' e l1 l2 hu' => ?_⟩
          · rw [betw_in q3 q4] at z
            cases z
          · cases e
            rw [hu] at hu'
            cases hu'
            refine ⟨fun hf => ?_, fun hf H' s' S' ev fr => ?_⟩
            · subst hf
              exact raised1 S hk r2
            · subst hf
              have wf : WF ((v.re ser (.src (u + c) false)).pend ser) := (h4.re (tv' := .src (u + c) false) hlu rfl (fun es row e => (nomatch e))).pend _
              obtain ⟨w', q1, q2, _⟩ := S.setS hob S' (by rw [ev, h3]) wf fr
              exact hk w' H' _ q1 .non q2
    · exact hp.elim
  · exact hp.elim
/-! ### new systems -/
def makM (xs : List Val) (μ : Mu) : R Val := match xs with
  | [.int a, .int b] => if (2 ≤ a ∧ a ≤ 6) ∧ 3 ≤ b ∧ b ≤ 8 then .ok (.loc μ.nx) (μ.new (.sys (newSv a b))) else .no
  | _ => .no
theorem s_make {E : XK} {w : Wt} {μ : Mu} {H : Hp} {xs : List Val} {us : List V} {Q : VK} (S : Sim K w μ H) (r : VRs K w.ad μ.nx H xs us) (hp : Post K (relE K) E w μ.nx H Q (makM xs μ)) (x dx : Addr) (nx : H x = none) (ndx : H dx = none) (ne : dx ≠ x) :
    sp_Sys_init K (.ref x :: us) (upd (upd H dx (.own x)) x (.ins (ga K "System") dx [])) (fun v H2 => v = .non ∧ Q (.ref x) H2) E := by
  unfold makM at hp
  split at hp
  · rename_i a b
    cases r with
    | cons r1 r2 =>
      cases r2 with
      | cons r2 r3 =>
        cases r3; cases r1; cases r2
        split at hp
        · rename_i hz
          refine ⟨x, dx, _, _, rfl, upd_same, trivial, trivial, fun z => ?_, fun _ z => ?_, fun a' b' ea eb l1 l2 l3 l4 H' s S' ep ev k f => ?_⟩
          · rw [betw_in hz.1.1 hz.1.2] at z; cases z
          · rw [betw_in hz.2.1 hz.2.2] at z; cases z
          · cases ea; cases eb
            have sm : Same H H' := fun c o h => k c o (by rw [upd_ne (ne_of_none h nx), upd_ne (ne_of_none h ndx)]; exact h) (ne_of_none h nx)
            obtain ⟨w', q1, q2, q3⟩ := S.newS sm S' ev (WF.new ⟨l1, l2⟩ ⟨l3, l4⟩) (fun c hc => by
              rcases f c hc with z | z
              · rw [z]; exact nx
              · by_cases c1 : c = x
                · rw [c1]; exact nx
                · rw [upd_ne c1] at z
                  by_cases c2 : c = dx
                  · rw [c2]; exact ndx
                  · rw [upd_ne c2] at z; exact z)
            refine ⟨rfl, hp w' H' _ q1 ?_ q2⟩
            rw [← ep, ← q3]
            exact VR.loc (Nat.lt_succ_self _)
        · exact hp.elim
  · exact hp.elim
end
section
variable {X : Cx} {E : XK} {x : Str} {p pos : Pos} {kws : List Keyword} {mk : MA}
/-- System(k = v, ..) -/
def mMakeK (f : List Val → Mu → R Val) (l : Nat) (g : List Val → List Val) (a : MA) : ME := fun ρ μ => (a ρ μ).bind fun zs μ => if zs.length = l then f (g zs) μ else .no
theorem pm_sysK (T : Tx X.K X.mg) (hr : Room 5 X.A) (hg : Gl X "System") (hx : Passes (L2.CX X.prog X.w) X E) {ks : List Str} {g : List Value → List Value → List Value} {gV : List V → List V → List V} {gM : List Val → List Val} (hb : KBn X.K (fdAt X.K (mA "System" "__init__" X.K)) ["self", "processes", "numbers"] 1 ks g gV)
    (hgM : ∀ ad b H a zs ws, VRs X.K ad b H zs ws → zs.length = ks.length → ∃ us', gV [.ref a] ws = .ref a :: us' ∧ VRs X.K ad b H (gM zs) us') (hkw : PMK X E kws mk)
    (hall : (backToKw pos (keywordEach kws X.env)).all (·.1.isSome) = true := by rfl) (hks : (backToKw pos (keywordEach kws X.env)).filterMap (·.1) = ks := by rfl)
    (hpl : ((backTo pos (starEach [] X.env)).any (·.1) || (backToKw pos (keywordEach kws X.env)).any (·.1.isNone)) = false := by rfl) : PM X E (.Call (.Name "System" p) [] kws pos) (mMakeK makM ks.length gM mk) :=
  PE.imp (pe_makeK0 T.k_System (ok_Sys_init T) hr hg T.g_System hb hx hkw hall hks (by decide) hpl) fun σ H Q ⟨w, ρ, μ, S, EN, hp⟩ => ⟨w, ρ, μ, S, EN, Post.bind hp fun zs μ1 w1 H1 ws S1 r1 g1 h1 => by
    split at h1
    · rename_i hl
      refine ⟨rfl, by rw [VRs.length r1]; exact hl, fun y dx nx ndx ne => ?_⟩
      obtain ⟨us', e1, e2⟩ := hgM _ _ _ y _ _ r1 hl
      rw [e1]
      exact s_make S1 e2 h1 y dx nx ndx ne
    · exact h1.elim⟩
end
section
variable {P : Program} {w : World} {K : PySem.W.Frag} {mg : Str → Option Value} {base : Heap}
end

/-! ### calls that go well -/
section
variable {μ : Mu} {x : Nat} {v : Sv} {p n c : Int} {rows : List (Int × Int)} {ser u : Int} {f : Bool} {es : List Ev} {row : List Int}
theorem cnt_ok {lo hi c : Int} (h1 : lo ≤ c) (h2 : c ≤ hi) : cntOf (.int c) lo hi = some c := by
  unfold cntOf
  simp only
  rw [if_pos ⟨h1, h2⟩]
theorem new_ok (tv : Tv) (hp : lk v.tabs p = some rows) (hm : 0 ≤ v.made ∧ v.made ≤ 1000000) {k : Int} (hk : lowFree (rows.map (·.1)) v.N = some k) : newM tv x v [.int p] μ = .ok (.int k) (μ.put x (.sys (v.place p k tv))) := by
  unfold newM byP
  simp only [sca, hm, and_self, if_true, hp, hk]
theorem arr_ok (hp : lk v.tabs p = some rows) (hn : lk rows n = some ser) (hs : lk v.ths ser = some (.src u false)) (hm : v.made ≤ 1000000) (h1 : 1 ≤ c) (h2 : c ≤ 1000000) : arrM x v [.int p, .int n, .int c] μ = .ok .non (μ.put x (.sys ((v.re ser (.src (u + c) false)).pend ser))) := by
  unfold arrM byP byN onSrc
  simp only [sca, hm, and_self, if_true, hp, hn, hs, cnt_ok h1 h2, Bool.false_eq_true, if_false]
end

/-! ### change, remove at the law's level -/
section
variable {K : PySem.W.Frag}
end
section
variable {μ : Mu} {x : Nat} {v : Sv} {p n m : Int} {rows : List (Int × Int)} {ser ser1 u : Int} {f : Bool} {es : List Ev} {row : List Int} {e : Ev}
end

section
variable {K : PySem.W.Frag}
end
section
variable {μ : Mu} {x : Nat} {v : Sv} {p n m : Int} {rows : List (Int × Int)} {ser ser1 u : Int} {f : Bool} {es : List Ev} {row : List Int} {e : Ev}
end

/-! ### finish, close, copy at the law's level -/
def cloM : MSy := fun n v xs μ => match xs with
  | [x, y] => if (sca x = true ∧ sca y = true) ∧ v.made ≤ 1000000 then byP v x μ fun i rows => byN rows y μ fun k ser => .ok .non (μ.put n (.sys (closeV v i k ser)))
    else .no
  | _ => .no
/-- what may be handed to copy as the other number -/
def obv (μ : Mu) : Val → Bool
  | .non => true
  | .bl _ => true
  | .int _ => true
  | .str _ => true
  | .tup _ => true
  | .loc n => (seqOf μ n).isSome
theorem obv_obj {K : PySem.W.Frag} {w : Wt} {μ : Mu} {H : Hp} (S : Sim K w μ H) {x : Val} {u : V} (h : obv μ x = true) (r : VR K w.ad μ.nx H x u) : ObjK K H u := by
  cases r with
  | non => exact .inl True.intro
  | bl _ => exact .inl True.intro
  | int _ => exact .inl True.intro
  | str _ => exact .inl True.intro
  | tup hq _ => exact .inr ⟨_, _, rfl, .inl hq⟩
  | loc hn =>
    unfold obv at h
    obtain ⟨vs, hv⟩ := Option.isSome_iff_exists.mp h
    obtain ⟨us, hq, _⟩ := seqOf_sq S hv
    exact .inr ⟨_, _, rfl, .inr hq⟩
def copM : MSy := fun n v xs μ => match xs with
  | [x, y, z] => if (sca x = true ∧ sca y = true ∧ obv μ z = true) ∧ v.made ≤ 1000000 then byP v x μ fun i rows => byN rows y μ fun k ser => match z with
      | .non => match lowFree (rows.map (·.1)) v.N with
        | none => .er "Full" (errV "process" x "Full") μ
        | some k => .ok (.int k) (μ.put n (.sys (v.addRow i k ser)))
      | z => match cntOf z 0 (v.N - 1) with
        | none => .er "NoNumber" (errV "number" z "NoNumber") μ
        | some k => .ok (.int k) (μ.put n (.sys (copyV v i k ser rows)))
    else .no
  | _ => .no
section
variable {K : PySem.W.Frag}
theorem s_clo : PrimS K (sp_close K) cloM := by
  intro E w μ H n v xs us Q S hob r hp
  obtain ⟨h1, h2, h3, h4⟩ := S.ok _ _ hob
  obtain ⟨e1, e2, e3⟩ := made_v S hob
  unfold cloM at hp
  split at hp
  · rename_i x y
    split at hp
    · rename_i hm
      cases r with
      | cons r1 r2 =>
      cases r2 with
      | cons r2 r3 =>
        cases r3
        refine ⟨w.sy n, _, _, by rw [h1], h2, by rw [h3]; exact h4, by rw [e1]; exact hm.2, sca_obj hm.1.1 r1, sca_obj hm.1.2 r2, (byP_ok S hob r1 hp fun i t hl hv hk => byN_ok S r2 hk fun k ser hs hk => fun H' s' S' ev te wf fr => ?_).2⟩
        obtain ⟨w', q1, q2, _⟩ := S.setS hob S' (by rw [ev, h3]) (by rw [← h3, ← ev]; exact wf) fr
        exact hk w' H' _ q1 .non q2
    · exact hp.elim
  · exact hp.elim
theorem s_cop : PrimS K (sp_copy K) copM := by
  intro E w μ H n v xs us Q S hob r hp
  obtain ⟨h1, h2, h3, h4⟩ := S.ok _ _ hob
  obtain ⟨e1, e2, e3⟩ := made_v S hob
  unfold copM at hp
  split at hp
  · rename_i x y z
    split at hp
    · rename_i hm
      cases r with
      | cons r1 r2 =>
      cases r2 with
      | cons r2 r3 =>
      cases r3 with
      | cons r3 r4 =>
        cases r4
        refine ⟨w.sy n, _, _, _, by rw [h1], h2, by rw [h3]; exact h4, by rw [e1]; exact hm.2, sca_obj hm.1.1 r1, sca_obj hm.1.2.1 r2, obv_obj S hm.1.2.2 r3, (byP_ok S hob r1 hp fun i t hl hv hk => byN_ok S r2 hk fun k ser hs hk => ?_).2⟩
        obtain ⟨c1, c2, c3⟩ := cnt_betw (lo := 0) (hi := v.N - 1) r3
        split at hk
        · cases r3
          refine ⟨fun _ => ⟨fun k hf H' s' S' ev wf fr => ?_, fun hf => ?_⟩, fun z => (z rfl).elim⟩
          · rw [e2] at hf
            rw [hf] at hk
            obtain ⟨w', q1, q2, _⟩ := S.setS hob S' (by rw [ev, h3]) (by rw [← h3, ← ev]; exact wf) fr
            exact hk w' H' _ q1 (.int _) q2
          · rw [e2] at hf
            rw [hf] at hk
            exact raised1 S hk r1
        · rename_i hnn
          refine ⟨fun z => ?_, fun _ => ?_⟩
          · subst z
            cases r3
            exact (hnn rfl).elim
          · rw [e2]
            split at hk
            · rename_i hc
              exact ⟨fun _ => raised1 S hk r3, fun k e l1 l2 => (c3 hc k e l1 l2).elim⟩
            · rename_i c hc
              obtain ⟨q1, rfl, q3, q4⟩ := c2 c hc
              refine ⟨fun z => ?_, fun k e l1 l2 H' s' S' ev wf fr => ?_⟩
              · rw [betw_in q3 q4] at z
                cases z
              · cases e
                obtain ⟨w', q1, q2, _⟩ := S.setS hob S' (by rw [ev, h3]) (by rw [← h3, ← ev]; exact wf) fr
                exact hk w' H' _ q1 (.int _) q2
    · exact hp.elim
  · exact hp.elim
end
section
variable {μ : Mu} {x : Nat} {v : Sv} {p n m k : Int} {rows : List (Int × Int)} {ser u : Int} {f : Bool}
theorem clo_ok (hp : lk v.tabs p = some rows) (hn : lk rows n = some ser) (hm : v.made ≤ 1000000) : cloM x v [.int p, .int n] μ = .ok .non (μ.put x (.sys (closeV v p n ser))) := by
  unfold cloM byP byN
  simp only [sca, hm, and_self, if_true, hp, hn]
theorem copTo_ok (hp : lk v.tabs p = some rows) (hn : lk rows n = some ser) (hm : v.made ≤ 1000000) (k0 : 0 ≤ k) (k1 : k ≤ v.N - 1) : copM x v [.int p, .int n, .int k] μ = .ok (.int k) (μ.put x (.sys (copyV v p k ser rows))) := by
  unfold copM byP byN
  simp only [sca, obv, hm, and_self, if_true, hp, hn, cnt_ok k0 k1]
end

/-! ### registrations, wait by keyword, change by keywords, sorted reports: at the law's level -/
section
variable {K : PySem.W.Frag}
variable {mg : Str → Option Value}
end
/-! ### sorted of reports -/
section
variable {X : Cx}
end
section
variable {K : PySem.W.Frag}
end

/-! ### System(processes=, numbers=), row_of by keywords -/
section
variable {K : PySem.W.Frag} {mg : Str → Option Value}
theorem b_SysNP (T : Tx K mg) : ∃ mv, KBn K (fdAt K (mA "System" "__init__" K)) ["self", "processes", "numbers"] 1 ["numbers", "processes"] (fun us ws => us ++ (ws.reverse ++ mv)) (fun vs zs => vs ++ (zs.reverse ++ [])) :=
  FunD.kbinds0 T.f_System___init__ 1 ["numbers", "processes"] [] (fun a b c => a ++ (c.reverse ++ b)) (fun z => nomatch z) (fun q hq => nomatch hq) (fun r1 r2 r3 => r1.append (r3.reverse.append r2)) fun D doc pm an cdv ct us mv ws l1 l2 l3 => match us, mv, ws, l1, l2, l3 with | [_], [], [_, _], _, _, _ => rfl
end

/-! ### units, at the law's level -/
def uniM : MSy := fun _ v xs μ => match xs with
  | [x, y] => if sca x = true ∧ sca y = true then byP v x μ fun _ rows => byN rows y μ fun _ ser => onSrc v ser y μ fun u f => .ok (.tup [.int u, .bl f]) μ
    else .no
  | _ => .no
section
variable {K : PySem.W.Frag}
theorem s_uni : PrimS K (sp_units K) uniM := by
  intro E w μ H n v xs us Q S hob r hp
  obtain ⟨h1, h2, h3, h4⟩ := S.ok _ _ hob
  unfold uniM at hp
  split at hp
  · rename_i x y
    split at hp
    · rename_i hm
      cases r with
      | cons r1 r2 =>
      cases r2 with
      | cons r2 r3 =>
        cases r3
        refine ⟨w.sy n, _, _, by rw [h1], h2, by rw [h3]; exact h4, sca_obj hm.1 r1, sca_obj hm.2 r2, (byP_ok S hob r1 hp fun i t hl hv hk => byN_ok S r2 hk fun k ser hs hk => fun th hth => onSrc_ok S hob r2 hk hth fun u f hu hlu hk => fun u' f' hu' p np => ?_).2⟩
        rw [hu] at hu'
        cases hu'
        obtain ⟨S2, g2, r2'⟩ := S.newT np (.cons (.int u) (.cons (.bl f) .nil))
        exact hk w _ _ S2 r2' g2
    · exact hp.elim
  · exact hp.elim
end
section
variable {μ : Mu} {x : Nat} {v : Sv} {p n : Int} {rows : List (Int × Int)} {ser u : Int} {f : Bool}
theorem uni_ok (hp : lk v.tabs p = some rows) (hn : lk rows n = some ser) (hs : lk v.ths ser = some (.src u f)) : uniM x v [.int p, .int n] μ = .ok (.tup [.int u, .bl f]) μ := by
  unfold uniM byP byN onSrc
  simp only [sca, and_self, if_true, hp, hn, hs]
end

/-! ### fork, at the law's level -/
section
variable {K : PySem.W.Frag}
end
section
variable {μ : Mu} {x : Nat} {v : Sv} {p c : Int} {rows : List (Int × Int)}
end

/-! ### calls by keywords -/
section
variable {K : PySem.W.Frag} {mg : Str → Option Value}
end

/-! ### same, at the law's level -/
def samM : MSy := fun _ v xs μ => match xs with
  | [x, y, x2, y2] => if (sca x = true ∧ sca y = true) ∧ sca x2 = true ∧ sca y2 = true then byP v x μ fun _ rows => byN rows y μ fun _ ser => byP v x2 μ fun _ rows2 => byN rows2 y2 μ fun _ ser2 => .ok (.bl (decide (ser = ser2))) μ
    else .no
  | _ => .no
section
variable {K : PySem.W.Frag}
theorem s_sam : PrimS K (sp_same K) samM := by
  intro E w μ H n v xs us Q S hob r hp
  obtain ⟨h1, h2, h3, h4⟩ := S.ok _ _ hob
  unfold samM at hp
  split at hp
  · rename_i x y x2 y2
    split at hp
    · rename_i hm
      cases r with
      | cons r1 r2 =>
      cases r2 with
      | cons r2 r3 =>
      cases r3 with
      | cons r3 r4 =>
      cases r4 with
      | cons r4 r5 =>
        cases r5
        refine ⟨w.sy n, _, _, _, _, by rw [h1], h2, sca_obj hm.1.1 r1, sca_obj hm.1.2 r2, sca_obj hm.2.1 r3, sca_obj hm.2.2 r4, (byP_ok S hob r1 hp fun i t hl hv hk => byN_ok S r2 hk fun k ser hs hk => (byP_ok S hob r3 hk fun i2 t2 hl2 hv2 hk => byN_ok S r4 hk fun k2 ser2 hs2 hk => ?_).2).2⟩
        exact hk w H _ S (.bl _) .refl
    · exact hp.elim
  · exact hp.elim
end
section
variable {μ : Mu} {x : Nat} {v : Sv} {p n p2 n2 : Int} {rows rows2 : List (Int × Int)} {ser ser2 : Int}
theorem sam_ok (hp : lk v.tabs p = some rows) (hn : lk rows n = some ser) (hp2 : lk v.tabs p2 = some rows2) (hn2 : lk rows2 n2 = some ser2) : samM x v [.int p, .int n, .int p2, .int n2] μ = .ok (.bl (decide (ser = ser2))) μ := by
  unfold samM byP byN
  simp only [sca, and_self, if_true, hp, hn, hp2, hn2]
end
/-! ### numbers, at the law's level -/
def numsV (v : Sv) (rows : List (Int × Int)) : List Val := (srtI (rows.map (·.1))).map fun n => .tup [.int n, .str (kindAt v rows n)]
theorem ofDs_nums (v : Sv) (rows : List (Int × Int)) : ofDs (numsD v rows) = numsV v rows ∧ noLs (numsD v rows) = true := by
  unfold numsD numsV
  generalize srtI (rows.map (·.1)) = l
  induction l with
  | nil => exact ⟨rfl, rfl⟩
  | cons a l ih =>
    refine ⟨?_, ?_⟩
    · rw [List.map_cons, List.map_cons, ofDs, ih.1]
      rfl
    · rw [List.map_cons, noLs, ih.2]
      rfl
def numsM : MSy := fun _ v xs μ => match xs with
  | [x] => if sca x = true then byP v x μ fun _ rows => .ok (.loc μ.nx) (μ.new (.lst (numsV v rows)))
    else .no
  | _ => .no
section
variable {K : PySem.W.Frag}
theorem s_nums : PrimS K (sp_numbers K) numsM := by
  intro E w μ H n v xs us Q S hob r hp
  obtain ⟨h1, h2, h3, h4⟩ := S.ok _ _ hob
  unfold numsM at hp
  split at hp
  · rename_i x
    split at hp
    · rename_i hm
      cases r with
      | cons r1 r2 =>
        cases r2
        refine ⟨w.sy n, _, by rw [h1], h2, sca_obj hm r1, by rw [h3]; exact h4, (byP_ok S hob r1 hp fun i t hl hv hk => fun H' p nd np hs => ?_).2⟩
        rw [h3] at hs
        obtain ⟨xs, hp1, hp2⟩ := hs
        obtain ⟨S1, g1⟩ := S.same nd.same
        obtain ⟨d1, d2⟩ := ofDs_nums v t.rows
        have vr := vrs_dp (ad := w.ad) (b := μ.nx) (H' := H') (Same.refl _) _ _ hp2 d2
        rw [d1] at vr
        obtain ⟨w4, S4, g4, e4⟩ := S1.takeL hp1 (fun m z => by
          obtain ⟨o, ho, _⟩ := S.ftm z
          rw [np] at ho
          cases ho) vr
        exact hk w4 _ _ S4 (by rw [← e4]; exact VR.loc (Nat.lt_succ_self _)) (g1.trans g4)
    · exact hp.elim
  · exact hp.elim
end
section
variable {μ : Mu} {x : Nat} {v : Sv} {p : Int} {rows : List (Int × Int)}
theorem nums_ok (hp : lk v.tabs p = some rows) : numsM x v [.int p] μ = .ok (.loc μ.nx) (μ.new (.lst (numsV v rows))) := by
  unfold numsM byP
  simp only [sca, if_true, hp]
end
section
variable {K : PySem.W.Frag} {mg : Str → Option Value}
end

/-! ### calls by keywords in another order -/
theorem VRs.rev {K : PySem.W.Frag} {ad : Nat → Addr} {b : Nat} {H : Hp} : ∀ {vs : List Val} {us : List V}, VRs K ad b H vs us → VRs K ad b H vs.reverse us.reverse
  | _, _, .nil => .nil
  | _, _, .cons h r => by
    rw [List.reverse_cons, List.reverse_cons]
    exact (VRs.rev r).app (.cons h .nil)
section
variable {K : PySem.W.Frag} {mg : Str → Option Value}
end

def m__law_bag_1 : MS :=
    sSet 3 (mOp modM (mFn intM (mCons (mOp addM (mOp addM (mOp addM (mOp mulM (mV 3) (mC (.int 44497))) (mOp modM (mFn intM (mCons (mV 5) (mNil))) (mC (.int 2147483549)))) (mOp mulM (mC (.int 71)) (mV 4))) (mC (.int 9))) (mNil))) (mC (.int 2147483549)))
def m__law_bag : MS :=
    sSeq (sSet 2 (mIf (mTest (mOp ltM (mV 1) (mFn lenM (mCons (mV 0) (mNil))))) (mOp getM (mV 0) (mV 1)) (mC (.int 0))))
    (sSeq (sSet 3 (mOp addM (mOp mulM (mC (.int 5009)) (mV 1)) (mC (.int 103))))
    (sSeq (sFor (iEnm (mCons (mSl (mV 0) (mP0) (mP (mC (.int 40)))) (mNil))) (tgT [4, 5]) (m__law_bag_1))
    (sRet (mLst (mCons (mIf (mTest (mOp geM (mFn absM (mCons (mV 2) (mNil))) (mOp powM (mC (.int 10)) (mC (.int 18))))) (mFn absM (mCons (mV 2) (mNil))) (mC (.int 0))) (mCons (mV 3) (mNil)))))))
def d__law_bag : List Val → Mu → R Val := runM 2 6 m__law_bag
section
variable {P : Program} {w : World} {K : PySem.W.Frag} {mg : Str → Option Value} {base : Heap}
theorem sm__law_bag : FnScope ["_law_script", "_law_at", "_law_cell", "_law_blend", "_law_k", "_law_each"] ["_law_script", "_law_at"] (defScope s__law_bag) := ⟨rfl, rfl, rfl, by decide +kernel, rfl, by decide +kernel, by decide +kernel⟩
theorem bm__law_bag (T : Tx K mg) : Binds K (fdAt K (gA "_law_bag" K)) ["_law_script", "_law_at"] [] := FunD.bindsN T.f__law_bag fun _ _ _ _ _ _ us hl => match us, hl with | [_, _], _ => rfl
theorem okm__law_bag (T : Tx K mg) : FnG P w K mg base CX0 1 (gA "_law_bag" K) (fdAt K (gA "_law_bag" K)) ["_law_script", "_law_at"] (spM K 2 d__law_bag) := by
  refine okM T.f__law_bag sm__law_bag rfl rfl fun cdv A outer s H hg hr => ?_
  have hu := hr.units
  have hu1 := hu_of hr
  have hu2 := hr.units1
  exact pmss_cons (pms_set (i := 2) sm__law_bag.nd rfl (by first | exact Or.inl rfl | exact Or.inr rfl) (pm_ifExp (pmt_cmp c_lt (pm_var (pv 1)) (pm_callB call_len p_len (by rfl) T.free_len PySem.boot_len (pma_cons (pm_var (pv 0)) (pma_nil)))) (pm_ix (pm_var (pv 0)) (pm_var (pv 1))) (pm_int)))
      (pmss_cons (pms_set (i := 3) sm__law_bag.nd rfl (by first | exact Or.inl rfl | exact Or.inr rfl) (pm_bin b_add (pm_bin b_mul (pm_int) (pm_var (pv 1))) (pm_int)))
      (pmss_cons (pms_for PassesOwn.never rfl (pmi_enm (by rfl) T.free_enumerate (pma_cons (pm_slice (pm_var (pv 0)) (pmo_none) (pmo_some (pm_int))) (pma_nil))) (pmg_tup rfl (pmgs_cons (i := 4) sm__law_bag.nd rfl (by first | exact Or.inl rfl | exact Or.inr rfl) (pmgs_cons (i := 5) sm__law_bag.nd rfl (by first | exact Or.inl rfl | exact Or.inr rfl) (pmgs_nil)))) (pmss_one (pms_set (i := 3) sm__law_bag.nd rfl (by first | exact Or.inl rfl | exact Or.inr rfl) (pm_bin b_mod (pm_callTy call_int1 p_int (by rfl) T.free_int (by decide +kernel) (pma_cons (pm_bin b_add (pm_bin b_add (pm_bin b_add (pm_bin b_mul (pm_var (pv 3)) (pm_int)) (pm_bin b_mod (pm_callTy call_int1 p_int (by rfl) T.free_int (by decide +kernel) (pma_cons (pm_var (pv 5)) (pma_nil))) (pm_int))) (pm_bin b_mul (pm_int) (pm_var (pv 4)))) (pm_int)) (pma_nil))) (pm_int)))))
      (pmss_one (pms_ret (pm_lst (pma_cons (pm_ifExp (pmt_cmp c_ge (pm_callB call_abs p_abs (by rfl) T.free_abs (by decide +kernel) (pma_cons (pm_var (pv 2)) (pma_nil))) (pm_bin b_pow (pm_int) (pm_int))) (pm_callB call_abs p_abs (by rfl) T.free_abs (by decide +kernel) (pma_cons (pm_var (pv 2)) (pma_nil))) (pm_int)) (pma_cons (pm_var (pv 3)) (pma_nil))))))))
end
def m__law_take : MS :=
    sSeq (sIf (mTest (mOp gtM (mOp getM (mV 0) (mC (.int 0))) (mC (.int 0)))) (sSeq (sSet 2 (mOp modM (mFn intM (mCons (mOp getM (mV 0) (mC (.int 0))) (mNil))) (mV 1)))
    (sSeq (sSto stoM (mV 0) (mC (.int 0)) (mOp fdivM (mOp getM (mV 0) (mC (.int 0))) (mV 1)))
    (sRet (mV 2)))) (sNil))
    (sSeq (sSto stoM (mV 0) (mC (.int 1)) (mOp modM (mFn intM (mCons (mOp addM (mOp mulM (mOp getM (mV 0) (mC (.int 1))) (mC (.int 38177))) (mC (.int 4001))) (mNil))) (mC (.int 2147483587))))
    (sRet (mOp modM (mOp fdivM (mOp modM (mFn intM (mCons (mOp mulM (mOp fdivM (mOp getM (mV 0) (mC (.int 1))) (mC (.int 11))) (mC (.int 52817))) (mNil))) (mC (.int 2147483629))) (mC (.int 32))) (mV 1))))
def d__law_take : List Val → Mu → R Val := runM 2 3 m__law_take
section
variable {P : Program} {w : World} {K : PySem.W.Frag} {mg : Str → Option Value} {base : Heap}
theorem sm__law_take : FnScope ["_law_bag_here", "_law_many", "_law_digit"] ["_law_bag_here", "_law_many"] (defScope s__law_take) := ⟨rfl, rfl, rfl, by decide +kernel, rfl, by decide +kernel, by decide +kernel⟩
theorem bm__law_take (T : Tx K mg) : Binds K (fdAt K (gA "_law_take" K)) ["_law_bag_here", "_law_many"] [] := FunD.bindsN T.f__law_take fun _ _ _ _ _ _ us hl => match us, hl with | [_, _], _ => rfl
theorem okm__law_take (T : Tx K mg) : FnG P w K mg base CX0 1 (gA "_law_take" K) (fdAt K (gA "_law_take" K)) ["_law_bag_here", "_law_many"] (spM K 2 d__law_take) := by
  refine okM T.f__law_take sm__law_take rfl rfl fun cdv A outer s H hg hr => ?_
  have hu := hr.units
  have hu1 := hu_of hr
  have hu2 := hr.units1
  exact pmss_cons (pms_if (pmt_cmp c_gt (pm_ix (pm_var (pv 0)) (pm_int)) (pm_int)) (pmss_cons (pms_set (i := 2) sm__law_take.nd rfl (by first | exact Or.inl rfl | exact Or.inr rfl) (pm_bin b_mod (pm_callTy call_int1 p_int (by rfl) T.free_int (by decide +kernel) (pma_cons (pm_ix (pm_var (pv 0)) (pm_int)) (pma_nil))) (pm_var (pv 1))))
      (pmss_cons (pms_sto (pm_bin b_fdiv (pm_ix (pm_var (pv 0)) (pm_int)) (pm_var (pv 1))) (pm_var (pv 0)) (pm_int))
      (pmss_one (pms_ret (pm_var (pv 2)))))) (pmss_nil))
      (pmss_cons (pms_sto (pm_bin b_mod (pm_callTy call_int1 p_int (by rfl) T.free_int (by decide +kernel) (pma_cons (pm_bin b_add (pm_bin b_mul (pm_ix (pm_var (pv 0)) (pm_int)) (pm_int)) (pm_int)) (pma_nil))) (pm_int)) (pm_var (pv 0)) (pm_int))
      (pmss_one (pms_ret (pm_bin b_mod (pm_bin b_fdiv (pm_bin b_mod (pm_callTy call_int1 p_int (by rfl) T.free_int (by decide +kernel) (pma_cons (pm_bin b_mul (pm_bin b_fdiv (pm_ix (pm_var (pv 0)) (pm_int)) (pm_int)) (pm_int)) (pma_nil))) (pm_int)) (pm_int)) (pm_var (pv 1))))))
end
def m__law_of : MS :=
    sRet (mOp getM (mV 1) (mCall 2 d__law_take (mCons (mV 0) (mCons (mFn lenM (mCons (mV 1) (mNil))) (mNil)))))
def d__law_of : List Val → Mu → R Val := runM 2 2 m__law_of
section
variable {P : Program} {w : World} {K : PySem.W.Frag} {mg : Str → Option Value} {base : Heap}
theorem sm__law_of : FnScope ["_law_bag_here", "_law_some"] ["_law_bag_here", "_law_some"] (defScope s__law_of) := ⟨rfl, rfl, rfl, by decide +kernel, rfl, by decide +kernel, by decide +kernel⟩
theorem bm__law_of (T : Tx K mg) : Binds K (fdAt K (gA "_law_of" K)) ["_law_bag_here", "_law_some"] [] := FunD.bindsN T.f__law_of fun _ _ _ _ _ _ us hl => match us, hl with | [_, _], _ => rfl
theorem okm__law_of (T : Tx K mg) : FnG P w K mg base CX0 2 (gA "_law_of" K) (fdAt K (gA "_law_of" K)) ["_law_bag_here", "_law_some"] (spM K 2 d__law_of) := by
  refine okM T.f__law_of sm__law_of rfl rfl fun cdv A outer s H hg hr => ?_
  have hu := hr.units
  have hu1 := hu_of hr
  have hu2 := hr.units1
  exact pmss_one (pms_ret (pm_ix (pm_var (pv 1)) (pm_call (okm__law_take T) hg (hr.mono (by decide)) (by rfl) T.g__law_take T.f__law_take.kp (bm__law_take T) (pma_cons (pm_var (pv 0)) (pma_cons (pm_callB call_len p_len (by rfl) T.free_len PySem.boot_len (pma_cons (pm_var (pv 1)) (pma_nil))) (pma_nil))))))
end
def hs__law_outcome : Ohs := [("NoNumber", [.tag "no number", .fld "number", .isi]), ("NotOpen", [.tag "not open", .fld "number", .isi])]
section
variable {P : Program} {w : World} {K : PySem.W.Frag} {mg : Str → Option Value} {base : Heap}
theorem sm__law_outcome : FnScope ["_law_deed", "e"] ["_law_deed"] (defScope s__law_outcome) := ⟨rfl, rfl, rfl, by decide +kernel, rfl, by decide +kernel, by decide +kernel⟩
theorem bm__law_outcome (T : Tx K mg) : Binds K (fdAt K (gA "_law_outcome" K)) ["_law_deed"] [] := FunD.bindsN T.f__law_outcome fun _ _ _ _ _ _ us hl => match us, hl with | [_], _ => rfl
theorem og__law_outcome {X : Cx} (T : Tx X.K X.mg) (cdv : Value) {q : Str} : GivesTo X ["_law_deed", "e"] "_law_outcome" (defScope s__law_outcome) (gA "_law_outcome" X.K) cdv (defBody s__law_outcome) "_law_deed" q (TTo X.K hs__law_outcome) := by
  refine out_gives (i := 1) (n := "e") sm__law_outcome.nd rfl rfl (fun _ => rfl) (fun s H => .cons ⟨rfl, by decide, .inl T.g_NoNumber⟩ (fun a oe cls d pn hz hf => pss_one (ps_ret (pe_lst (pa_cons (pe_str) (pa_cons (pe_xf T.x_NoNumber.xf (T.x_NoNumber.no "number" (by decide)) hz hf (pv 1)) (pa_cons (pe_callB (id := "isinstance") (call_isXK X.K hz hf) (by rfl) T.free_isinstance (by decide +kernel) (pa_cons (pv 1) (pa_cons (pe_bltn (v := .ty "LookupError") (by rfl) T.free_LookupError (by decide +kernel) rfl) pa_nil))) (pa_nil))))))) (.cons ⟨rfl, by decide, .inl T.g_NotOpen⟩ (fun a oe cls d pn hz hf => pss_one (ps_ret (pe_lst (pa_cons (pe_str) (pa_cons (pe_xf T.x_NotOpen.xf (T.x_NotOpen.no "number" (by decide)) hz hf (pv 1)) (pa_cons (pe_callB (id := "isinstance") (call_isXK X.K hz hf) (by rfl) T.free_isinstance (by decide +kernel) (pa_cons (pv 1) (pa_cons (pe_bltn (v := .ty "LookupError") (by rfl) T.free_LookupError (by decide +kernel) rfl) pa_nil))) (pa_nil))))))) (.nil))) ?_ (by decide)
  rintro cls d H Q σ ⟨c, its, dd, us, vs, hm, rfl, rfl, hd, hv, q⟩ hl
  have hi : ∀ a : Addr, (σ.set 1 (some (.ref a)))[1]? = some (some (.ref a)) := fun a => by rw [List.getElem?_set_self hl]
  unfold hs__law_outcome at hm
  simp only [List.mem_cons, List.not_mem_nil, or_false, Prod.mk.injEq] at hm
  rcases hm with ⟨rfl, rfl⟩ | ⟨rfl, rfl⟩
  · obtain ⟨v0, vs0, rfl, h0, hv⟩ := itsV_cons hv; obtain ⟨v1, vs1, rfl, h1, hv⟩ := itsV_cons hv; obtain ⟨v2, vs2, rfl, h2, hv⟩ := itsV_cons hv; cases hv
    cases h0
    cases h2
    exact ⟨true, T.e_NoNumber_NoNumber, fun _ a na => ⟨_, hi a, rfl, rfl, dd, _, _, rfl, hd, h1, _, hi a, "NoNumber", _, _, _, _, _, _, .type "LookupError", true, rfl, T.x_NoNumber, T.o_NoNumber, rfl, (fun u hu => hu), T.q_NoNumber_LookupError, ⟨dd, _, rfl, hd⟩, (by show 3 ≤ sizeLine; decide), fun p np => q p np⟩, (fun z => nomatch z)⟩
  · obtain ⟨v0, vs0, rfl, h0, hv⟩ := itsV_cons hv; obtain ⟨v1, vs1, rfl, h1, hv⟩ := itsV_cons hv; obtain ⟨v2, vs2, rfl, h2, hv⟩ := itsV_cons hv; cases hv
    cases h0
    cases h2
    exact ⟨false, T.e_NotOpen_NoNumber, (fun z => nomatch z), fun _ => ⟨true, T.e_NotOpen_NotOpen, fun _ a na => ⟨_, hi a, rfl, rfl, dd, _, _, rfl, hd, h1, _, hi a, "NotOpen", _, _, _, _, _, _, .type "LookupError", true, rfl, T.x_NotOpen, T.o_NotOpen, rfl, (fun u hu => hu), T.q_NotOpen_LookupError, ⟨dd, _, rfl, hd⟩, (by show 3 ≤ sizeLine; decide), fun p np => q p np⟩, (fun z => nomatch z)⟩⟩
end
def m__law_due_1 : MS :=
    sIf (mTest (mOp ninM (mV 2) (mV 0))) (sRet (mLst (mCons (mC (.str "not open")) (mCons (mV 2) (mCons (mC (.bl true)) (mNil)))))) (sNil)
def m__law_due_2 : MS :=
    sIf (mOr (mTest (mUn (isiM true) (mV 3))) (mOr (mNot (mTest (mUn (isiM false) (mV 3)))) (mNot (mTest (mChain leM ltM (mC (.int 0)) (mV 3) (mV 1)))))) (sRet (mLst (mCons (mC (.str "no number")) (mCons (mV 3) (mCons (mC (.bl true)) (mNil)))))) (sNil)
def m__law_due : MS :=
    sSeq (m__law_due_1)
    (sSeq (m__law_due_2)
    (sSeq (sSto dstoM (mV 0) (mV 3) (mOp dgetM (mV 0) (mV 2)))
    (sRet (mV 3))))
def d__law_due : List Val → Mu → R Val := runM 4 4 m__law_due
section
variable {P : Program} {w : World} {K : PySem.W.Frag} {mg : Str → Option Value} {base : Heap}
theorem sm__law_due : FnScope ["_law_table", "_law_size", "_law_n", "_law_to"] ["_law_table", "_law_size", "_law_n", "_law_to"] (defScope s__law_due) := ⟨rfl, rfl, rfl, by decide +kernel, rfl, by decide +kernel, by decide +kernel⟩
theorem bm__law_due (T : Tx K mg) : Binds K (fdAt K (gA "_law_due" K)) ["_law_table", "_law_size", "_law_n", "_law_to"] [] := FunD.bindsN T.f__law_due fun _ _ _ _ _ _ us hl => match us, hl with | [_, _, _, _], _ => rfl
theorem okm__law_due (T : Tx K mg) : FnG P w K mg base CX0 1 (gA "_law_due" K) (fdAt K (gA "_law_due" K)) ["_law_table", "_law_size", "_law_n", "_law_to"] (spM K 4 d__law_due) := by
  refine okM T.f__law_due sm__law_due rfl rfl fun cdv A outer s H hg hr => ?_
  have hu := hr.units
  have hu1 := hu_of hr
  have hu2 := hr.units1
  exact pmss_cons (pms_if (pmt_cmp (c_notIn hu2) (pm_var (pv 2)) (pm_var (pv 0))) (pmss_one (pms_ret (pm_lst (pma_cons (pm_str) (pma_cons (pm_var (pv 2)) (pma_cons (pm_bl) (pma_nil))))))) (pmss_nil))
      (pmss_cons (pms_if (PMW.t (pmw_or (pmt_val (pm_isi (bo := true) (by rfl) T.free_isinstance (by rfl) T.free_bool (by decide +kernel) (pm_var (pv 3)))) (pmw_or (pmt_not (pmt_val (pm_isi (bo := false) (by rfl) T.free_isinstance (by rfl) T.free_int (by decide +kernel) (pm_var (pv 3))))) (pmw_or1 (pmt_not (pmt_chain c_le c_lt (pm_int) (pm_var (pv 3)) (pm_var (pv 1)))))))) (pmss_one (pms_ret (pm_lst (pma_cons (pm_str) (pma_cons (pm_var (pv 3)) (pma_cons (pm_bl) (pma_nil))))))) (pmss_nil))
      (pmss_cons (pms_dsto hu1 (pm_dget hu1 (pm_var (pv 0)) (pm_var (pv 2))) (pm_var (pv 0)) (pm_var (pv 3)))
      (pmss_one (pms_ret (pm_var (pv 3))))))
end
def m__law_shows_1 : MS :=
    sIf (mTest (mOp neM (mLc (iSeq (mMeth (numsM) ([]) (mV 0) (mCons (mC (.int 0)) (mNil)))) [3, 4] (tgT [3, 4]) (mYes) (mV 3)) (mFn sortDM (mCons (mV 1) (mNil))))) (sRet (mC (.bl false))) (sNil)
def m__law_shows_2 : MS :=
    sIf (mTest (mOp neM (mMeth (uniM) ([]) (mV 0) (mCons (mC (.int 0)) (mCons (mV 3) (mNil)))) (mTup (mCons (mOp dgetM (mV 2) (mOp dgetM (mV 1) (mV 3))) (mCons (mC (.bl false)) (mNil)))))) (sRet (mC (.bl false))) (sNil)
def m__law_shows_3 : MS :=
    sIf (mTest (mOp neM (mMeth (samM) ([]) (mV 0) (mCons (mC (.int 0)) (mCons (mV 3) (mCons (mC (.int 0)) (mCons (mV 5) (mNil)))))) (mOp eqM (mOp dgetM (mV 1) (mV 3)) (mOp dgetM (mV 1) (mV 5))))) (sRet (mC (.bl false))) (sNil)
def m__law_shows_4 : MS :=
    sSeq (m__law_shows_2)
    (sLk 1 (sFor (iKey 1) (tgN 5) (m__law_shows_3)))
def m__law_shows : MS :=
    sSeq (m__law_shows_1)
    (sSeq (sLk 1 (sFor (iKey 1) (tgN 3) (m__law_shows_4)))
    (sRet (mC (.bl true))))
def d__law_shows : List Val → Mu → R Val := runM 3 6 m__law_shows
section
variable {P : Program} {w : World} {K : PySem.W.Frag} {mg : Str → Option Value} {base : Heap}
theorem sm__law_shows : FnScope ["_law_box", "_law_table", "_law_units", "_law_n", "_law_kind", "_law_m"] ["_law_box", "_law_table", "_law_units"] (defScope s__law_shows) := ⟨rfl, rfl, rfl, by decide +kernel, rfl, by decide +kernel, by decide +kernel⟩
theorem bm__law_shows (T : Tx K mg) : Binds K (fdAt K (gA "_law_shows" K)) ["_law_box", "_law_table", "_law_units"] [] := FunD.bindsN T.f__law_shows fun _ _ _ _ _ _ us hl => match us, hl with | [_, _, _], _ => rfl
theorem okm__law_shows (T : Tx K mg) : FnG P w K mg base CX0 7 (gA "_law_shows" K) (fdAt K (gA "_law_shows" K)) ["_law_box", "_law_table", "_law_units"] (spM K 3 d__law_shows) := by
  refine okM T.f__law_shows sm__law_shows rfl rfl fun cdv A outer s H hg hr => ?_
  have hu := hr.units
  have hu1 := hu_of hr
  have hu2 := hr.units1
  exact pmss_cons (pms_if (pmt_cmp (c_ne hu) (pm_lc (own := [("_law_n", 3), ("_law_kind", 4)]) rfl sm__law_shows.nd (pmi_seq (pm_meth (dM := []) (pm_var (pv 0)) T.c_System T.m_System_numbers (ok_numbers T) (hr.mono (by decide)) (b_numbers T) .nil passL s_nums (fun _ _ _ => .nil) (pma_cons (pm_int) (pma_nil)))) (blkOk_by (N := ["_law_box", "_law_table", "_law_units", "_law_n", "_law_kind", "_law_m"]) (sc := defScope s__law_shows) (by decide +kernel)) (fun _ _ _ _ _ => pmg_tup rfl (pmgs_cons (i := 3) sm__law_shows.nd rfl (by first | exact Or.inl rfl | exact Or.inr rfl) (pmgs_cons (i := 4) sm__law_shows.nd rfl (by first | exact Or.inl rfl | exact Or.inr rfl) (pmgs_nil)))) (fun _ _ _ _ _ => pmts_nil) (fun _ _ _ _ _ => pm_var (pv 3))) (pm_callB (call_sortedDI rfl) p_sortD (by rfl) T.free_sorted (by decide +kernel) (pma_cons (pm_var (pv 1)) (pma_nil)))) (pmss_one (pms_ret (pm_bl))) (pmss_nil))
      (pmss_cons (pms_lk (i := 1) (pms_for PassesOwn.never rfl (pmi_key (pv 1)) (pmg_name (i := 3) sm__law_shows.nd rfl (by first | exact Or.inl rfl | exact Or.inr rfl)) (pmss_cons (pms_if (pmt_cmp (c_ne hu) (pm_meth (dM := []) (pm_var (pv 0)) T.c_System T.m_System_units (ok_units T) (hr.mono (by decide)) (b_units T) .nil passL s_uni (fun _ _ _ => .nil) (pma_cons (pm_int) (pma_cons (pm_var (pv 3)) (pma_nil)))) (pm_tup (pma_cons (pm_dget hu1 (pm_var (pv 2)) (pm_dget hu1 (pm_var (pv 1)) (pm_var (pv 3)))) (pma_cons (pm_bl) (pma_nil))))) (pmss_one (pms_ret (pm_bl))) (pmss_nil))
      (pmss_one (pms_lk (i := 1) (pms_for PassesOwn.never rfl (pmi_key (pv 1)) (pmg_name (i := 5) sm__law_shows.nd rfl (by first | exact Or.inl rfl | exact Or.inr rfl)) (pmss_one (pms_if (pmt_cmp (c_ne hu) (pm_meth (dM := []) (pm_var (pv 0)) T.c_System T.m_System_same (ok_same T) (hr.mono (by decide)) (b_same T) .nil passL s_sam (fun _ _ _ => .nil) (pma_cons (pm_int) (pma_cons (pm_var (pv 3)) (pma_cons (pm_int) (pma_cons (pm_var (pv 5)) (pma_nil)))))) (pm_cmp (c_eq hu) (pm_dget hu1 (pm_var (pv 1)) (pm_var (pv 3))) (pm_dget hu1 (pm_var (pv 1)) (pm_var (pv 5))))) (pmss_one (pms_ret (pm_bl))) (pmss_nil)))))))))
      (pmss_one (pms_ret (pm_bl))))
end

def m_law_1 : MS :=
    sSet 3 (mOp addM (mC (.int 3)) (mCall 2 d__law_take (mCons (mV 2) (mCons (mC (.int 6)) (mNil)))))
def m_law_2 : MS :=
    sAsg (tgT [4, 5, 6]) (mTup (mCons (mMakeK makM 2 (fun zs => zs.reverse ++ []) (mCons (mV 3) (mCons (mC (.int 2)) (mNil)))) (mCons (mDct0) (mCons (mDct0) (mNil)))))
def m_law_3 : MS :=
    sDst2 (mTup (mCons (mV 7) (mCons (mCall 2 d__law_take (mCons (mV 2) (mCons (mC (.int 4)) (mNil)))) (mNil)))) (mV 5) (mV 8) (mV 6) (mV 7)
def m_law_4 : MS :=
    sIf (mTest (mOp gtM (mOp dgetM (mV 6) (mV 7)) (mC (.int 0)))) (sExpr (mMeth (arrM) ([]) (mV 4) (mCons (mC (.int 0)) (mCons (mV 8) (mCons (mOp dgetM (mV 6) (mV 7)) (mNil)))))) (sNil)
def m_law_5 : MS :=
    sIf (mAnd (mTest (mOp eqM (mCall 2 d__law_take (mCons (mV 2) (mCons (mC (.int 5)) (mNil)))) (mC (.int 0)))) (mTest (mOp ltM (mFn lenDM (mCons (mV 5) (mNil))) (mV 3)))) (sSeq (sSet 8 (mMeth (newM (.src 0 false)) ([]) (mV 4) (mCons (mC (.int 0)) (mNil))))
    (sSeq (m_law_3)
    (m_law_4))) (sNil)
def m_law_6 : MS :=
    sAsg (tgT [8, 9]) (mTup (mCons (mCall 2 d__law_take (mCons (mV 2) (mCons (mOp addM (mV 3) (mC (.int 1))) (mNil)))) (mCons (mOp subM (mCall 2 d__law_take (mCons (mV 2) (mCons (mOp addM (mV 3) (mC (.int 2))) (mNil)))) (mC (.int 1))) (mNil))))
def m_law_7 : MS :=
    sSet 9 (mCall 2 d__law_of (mCons (mV 2) (mCons (mLst (mCons (mV 9) (mCons (mV 9) (mCons (mV 9) (mCons (mC .non) (mCons (mC (.bl true)) (mCons (mC (.str "1")) (mCons (mTup (mCons (mC (.int 1)) (mNil))) (mCons (mLst (mCons (mC (.int 0)) (mNil))) (mCons (mOp powM (mC (.int 10)) (mC (.int 19))) (mNil))))))))))) (mNil))))
def m_law_8 : MS :=
    sSet 10 (mOut hs__law_outcome (mMeth (copM) ([]) (mV 4) (mCons (mC (.int 0)) (mCons (mV 8) (mCons (mV 9) (mNil))))))
def m_law_9 : MS :=
    sIf (mTest (mOp neSM (mFn reprM (mCons (mV 10) (mNil))) (mFn reprM (mCons (mCall 4 d__law_due (mCons (mV 5) (mCons (mV 3) (mCons (mV 8) (mCons (mV 9) (mNil)))))) (mNil))))) (sRet (mC (.bl false))) (sNil)
def m_law_10 : MS :=
    sSet 8 (mCall 2 d__law_of (mCons (mV 2) (mCons (mFn sortDM (mCons (mV 5) (mNil))) (mNil))))
def m_law_11 : MS :=
    sIf (mAnd (mTest (mOp eqM (mCall 2 d__law_take (mCons (mV 2) (mCons (mC (.int 6)) (mNil)))) (mC (.int 0)))) (mTest (mOp neD0M (mV 5) (mDct0)))) (sSeq (m_law_10)
    (sSeq (sExpr (mDm popDM (mV 5) (mV 8)))
    (sExpr (mMeth (cloM) ([]) (mV 4) (mCons (mC (.int 0)) (mCons (mV 8) (mNil))))))) (sNil)
def m_law_12 : MS :=
    sIf (mNot (mTest (mCall 3 d__law_shows (mCons (mV 4) (mCons (mV 5) (mCons (mV 6) (mNil))))))) (sRet (mC (.bl false))) (sNil)
def m_law_13 : MS :=
    sSeq (m_law_5)
    (sSeq (m_law_6)
    (sSeq (m_law_7)
    (sSeq (sIf (mTest (mOp isntM (mV 9) (mC .non))) (sSeq (m_law_8)
    (m_law_9)) (sNil))
    (sSeq (m_law_11)
    (m_law_12)))))
def m_law_14 : MS :=
    sSeq (sSet 2 (mCall 2 d__law_bag (mCons (mV 0) (mCons (mV 1) (mNil)))))
    (sSeq (m_law_1)
    (sSeq (m_law_2)
    (sFor (iRng1 (mCons (mC (.int 30)) (mNil))) (tgN 7) (m_law_13))))
def m_law_15 : MS :=
    sFor (iRng1 (mCons (mFn maxM (mCons (mC (.int 1)) (mCons (mFn minM (mCons (mC (.int 4)) (mCons (mFn lenM (mCons (mV 0) (mNil))) (mNil)))) (mNil)))) (mNil))) (tgN 1) (m_law_14)
def m_law : MS :=
    sSeq (m_law_15)
    (sRet (mC (.bl true)))
def d_law : List Val → Mu → R Val := runM 1 11 m_law
section
variable {P : Program} {w : World} {K : PySem.W.Frag} {mg : Str → Option Value} {base : Heap}
theorem sm_law : FnScope ["_law_script", "_law_at", "_law_bag_here", "_law_size", "_law_box", "_law_table", "_law_units", "_law_turn", "_law_n", "_law_to", "_law_found"] ["_law_script"] (defScope s_law) := ⟨rfl, rfl, rfl, by decide +kernel, rfl, by decide +kernel, by decide +kernel⟩
theorem okm_law (T : Tx K mg) (B : TBk K mg base) : FnG P w K mg base CX0 13 (gA "law" K) (fdAt K (gA "law" K)) ["_law_script"] (spM K 1 d_law) := by
  refine okMc T.f_law sm_law rfl rfl fun cdv A outer s H hcd hg hr => ?_
  have hu := hr.units
  have hu1 := hu_of hr
  have hu2 := hr.units1
  exact pmss_cons (pms_for PassesOwn.never rfl (pmi_rng1 (by rfl) T.free_range (pma_cons (pm_callB (call_max2 rfl) p_max (by rfl) T.free_max (by decide +kernel) (pma_cons (pm_int) (pma_cons (pm_callB (call_min2 rfl) p_min (by rfl) T.free_min (by decide +kernel) (pma_cons (pm_int) (pma_cons (pm_callB call_len p_len (by rfl) T.free_len PySem.boot_len (pma_cons (pm_var (pv 0)) (pma_nil))) (pma_nil)))) (pma_nil)))) (pma_nil))) (pmg_name (i := 1) sm_law.nd rfl (by first | exact Or.inl rfl | exact Or.inr rfl)) (pmss_cons (pms_set (i := 2) sm_law.nd rfl (by first | exact Or.inl rfl | exact Or.inr rfl) (pm_call (okm__law_bag T) hg (hr.mono (by decide)) (by rfl) T.g__law_bag T.f__law_bag.kp (bm__law_bag T) (pma_cons (pm_var (pv 0)) (pma_cons (pm_var (pv 1)) (pma_nil)))))
      (pmss_cons (pms_set (i := 3) sm_law.nd rfl (by first | exact Or.inl rfl | exact Or.inr rfl) (pm_bin b_add (pm_int) (pm_call (okm__law_take T) hg (hr.mono (by decide)) (by rfl) T.g__law_take T.f__law_take.kp (bm__law_take T) (pma_cons (pm_var (pv 2)) (pma_cons (pm_int) (pma_nil))))))
      (pmss_cons (pms_asg (pm_tup (pma_cons (pm_sysK T (hr.mono (by decide)) (by rfl) passL (ks := ["numbers", "processes"]) (gM := fun zs => zs.reverse ++ []) (b_SysNP T).choose_spec (fun ad b H a zs ws r _ => ⟨_, rfl, r.rev.app .nil⟩) (pmk_cons (pm_var (pv 3)) (pmk_cons (pm_int) (pmk_nil)))) (pma_cons (pm_dct0) (pma_cons (pm_dct0) (pma_nil))))) (pmg_tup rfl (pmgs_cons (i := 4) sm_law.nd rfl (by first | exact Or.inl rfl | exact Or.inr rfl) (pmgs_cons (i := 5) sm_law.nd rfl (by first | exact Or.inl rfl | exact Or.inr rfl) (pmgs_cons (i := 6) sm_law.nd rfl (by first | exact Or.inl rfl | exact Or.inr rfl) (pmgs_nil))))))
      (pmss_one (pms_for PassesOwn.never rfl (pmi_rng1 (by rfl) T.free_range (pma_cons (pm_int) (pma_nil))) (pmg_name (i := 7) sm_law.nd rfl (by first | exact Or.inl rfl | exact Or.inr rfl)) (pmss_cons (pms_if (PMW.t (pmw_and (pmt_cmp (c_eq hu) (pm_call (okm__law_take T) hg (hr.mono (by decide)) (by rfl) T.g__law_take T.f__law_take.kp (bm__law_take T) (pma_cons (pm_var (pv 2)) (pma_cons (pm_int) (pma_nil)))) (pm_int)) (pmw_and1 (pmt_cmp c_lt (pm_callB call_lenDR p_lenD (by rfl) T.free_len PySem.boot_len (pma_cons (pm_var (pv 5)) (pma_nil))) (pm_var (pv 3)))))) (pmss_cons (pms_set (i := 8) sm_law.nd rfl (by first | exact Or.inl rfl | exact Or.inr rfl) (pm_meth (dM := []) (pm_var (pv 4)) T.c_System T.m_System_new_source (ok_new_source T) (hr.mono (by decide)) (b_new_source T) .nil passL (s_new (tv := .src 0 false) (show (0 : Int) ≤ 0 by decide)) (fun _ _ _ => .nil) (pma_cons (pm_int) (pma_nil))))
      (pmss_cons (pms_dst2 rfl hu1 (pm_tup (pma_cons (pm_var (pv 7)) (pma_cons (pm_call (okm__law_take T) hg (hr.mono (by decide)) (by rfl) T.g__law_take T.f__law_take.kp (bm__law_take T) (pma_cons (pm_var (pv 2)) (pma_cons (pm_int) (pma_nil)))) (pma_nil)))) (pm_var (pv 5)) (pm_var (pv 8)) (pm_var (pv 6)) (pm_var (pv 7)))
      (pmss_one (pms_if (pmt_cmp c_gt (pm_dget hu1 (pm_var (pv 6)) (pm_var (pv 7))) (pm_int)) (pmss_one (pms_expr (pm_meth (dM := []) (pm_var (pv 4)) T.c_System T.m_System_arrive (ok_arrive T) (hr.mono (by decide)) (b_arrive T).choose_spec.2 (b_arrive T).choose_spec.1 passL s_arr (fun _ _ _ => .nil) (pma_cons (pm_int) (pma_cons (pm_var (pv 8)) (pma_cons (pm_dget hu1 (pm_var (pv 6)) (pm_var (pv 7))) (pma_nil))))))) (pmss_nil))))) (pmss_nil))
      (pmss_cons (pms_asg (pm_tup (pma_cons (pm_call (okm__law_take T) hg (hr.mono (by decide)) (by rfl) T.g__law_take T.f__law_take.kp (bm__law_take T) (pma_cons (pm_var (pv 2)) (pma_cons (pm_bin b_add (pm_var (pv 3)) (pm_int)) (pma_nil)))) (pma_cons (pm_bin b_sub (pm_call (okm__law_take T) hg (hr.mono (by decide)) (by rfl) T.g__law_take T.f__law_take.kp (bm__law_take T) (pma_cons (pm_var (pv 2)) (pma_cons (pm_bin b_add (pm_var (pv 3)) (pm_int)) (pma_nil)))) (pm_int)) (pma_nil)))) (pmg_tup rfl (pmgs_cons (i := 8) sm_law.nd rfl (by first | exact Or.inl rfl | exact Or.inr rfl) (pmgs_cons (i := 9) sm_law.nd rfl (by first | exact Or.inl rfl | exact Or.inr rfl) (pmgs_nil)))))
      (pmss_cons (pms_set (i := 9) sm_law.nd rfl (by first | exact Or.inl rfl | exact Or.inr rfl) (pm_call (okm__law_of T) hg (hr.mono (by decide)) (by rfl) T.g__law_of T.f__law_of.kp (bm__law_of T) (pma_cons (pm_var (pv 2)) (pma_cons (pm_lst (pma_cons (pm_var (pv 9)) (pma_cons (pm_var (pv 9)) (pma_cons (pm_var (pv 9)) (pma_cons (pm_non) (pma_cons (pm_bl) (pma_cons (pm_str) (pma_cons (pm_tup (pma_cons (pm_int) (pma_nil))) (pma_cons (pm_lst (pma_cons (pm_int) (pma_nil))) (pma_cons (pm_bin b_pow (pm_int) (pm_int)) (pma_nil))))))))))) (pma_nil)))))
      (pmss_cons (pms_if (pmt_cmp c_isnt (pm_var (pv 9)) (pm_non)) (pmss_cons (pms_set (i := 10) sm_law.nd rfl (by first | exact Or.inl rfl | exact Or.inr rfl) (pm_lam (k := 10) T.f__law_outcome (bm__law_outcome T) (by rfl) T.g__law_outcome sm__law_outcome rfl (Or.inl rfl) (fun cdv => og__law_outcome T cdv) (B "law" (by decide)) hcd (tb_mem (by decide)) (tb_one (by decide)) (hr.mono (by decide)) (lamS_by (sc := defScope s_law) (by decide +kernel)) (fun A outer s H E f c' hr => pm_meth (dM := []) (pm_var (pv 4)) T.c_System T.m_System_copy (ok_copy T) (hr.mono (by decide)) (b_copyTo T).choose_spec.2 (b_copyTo T).choose_spec.1 (passes_call (takes_of rfl rfl rfl rfl) (fun _ _ _ _ h => h)) s_cop (fun _ _ _ => .nil) (pma_cons (pm_int) (pma_cons (pm_var (pv 8)) (pma_cons (pm_var (pv 9)) (pma_nil)))))))
      (pmss_one (pms_if (pmt_cmp c_neS (pm_callB (call_repr hg (hu_repr hr)) p_repr (by rfl) T.free_repr (by decide +kernel) (pma_cons (pm_var (pv 10)) (pma_nil))) (pm_callB (call_repr hg (hu_repr hr)) p_repr (by rfl) T.free_repr (by decide +kernel) (pma_cons (pm_call (okm__law_due T) hg (hr.mono (by decide)) (by rfl) T.g__law_due T.f__law_due.kp (bm__law_due T) (pma_cons (pm_var (pv 5)) (pma_cons (pm_var (pv 3)) (pma_cons (pm_var (pv 8)) (pma_cons (pm_var (pv 9)) (pma_nil)))))) (pma_nil)))) (pmss_one (pms_ret (pm_bl))) (pmss_nil)))) (pmss_nil))
      (pmss_cons (pms_if (PMW.t (pmw_and (pmt_cmp (c_eq hu) (pm_call (okm__law_take T) hg (hr.mono (by decide)) (by rfl) T.g__law_take T.f__law_take.kp (bm__law_take T) (pma_cons (pm_var (pv 2)) (pma_cons (pm_int) (pma_nil)))) (pm_int)) (pmw_and1 (pmt_cmp (c_neD0 (Nat.lt_of_succ_lt hu1)) (pm_var (pv 5)) (pm_dct0))))) (pmss_cons (pms_set (i := 8) sm_law.nd rfl (by first | exact Or.inl rfl | exact Or.inr rfl) (pm_call (okm__law_of T) hg (hr.mono (by decide)) (by rfl) T.g__law_of T.f__law_of.kp (bm__law_of T) (pma_cons (pm_var (pv 2)) (pma_cons (pm_callB (call_sortedDI rfl) p_sortD (by rfl) T.free_sorted (by decide +kernel) (pma_cons (pm_var (pv 5)) (pma_nil))) (pma_nil)))))
      (pmss_cons (pms_expr (pm_dpop (pm_var (pv 5)) (pm_var (pv 8))))
      (pmss_one (pms_expr (pm_meth (dM := []) (pm_var (pv 4)) T.c_System T.m_System_close (ok_close T) (hr.mono (by decide)) (b_close T) .nil passL s_clo (fun _ _ _ => .nil) (pma_cons (pm_int) (pma_cons (pm_var (pv 8)) (pma_nil)))))))) (pmss_nil))
      (pmss_one (pms_if (pmt_not (pmt_val (pm_call (okm__law_shows T) hg (hr.mono (by decide)) (by rfl) T.g__law_shows T.f__law_shows.kp (bm__law_shows T) (pma_cons (pm_var (pv 4)) (pma_cons (pm_var (pv 5)) (pma_cons (pm_var (pv 6)) (pma_nil))))))) (pmss_one (pms_ret (pm_bl))) (pmss_nil))))))))))))))
      (pmss_one (pms_ret (pm_bl)))
end

/-! ### draws, plainly -/
theorem take_eq {μ : Mu} {b : Nat} (hb : Bag μ b) {n : Int} (h0 : 0 < n) (h1 : n < 1073741824) : ∃ k μ', d__law_take [.loc b, .int n] μ = .ok (.int k) μ' ∧ 0 ≤ k ∧ k < n ∧ Kee [b] μ μ' ∧ Bag μ' b ∧ μ'.nx = μ.nx := by
  obtain ⟨hlt, c, m, hb⟩ := hb
  have i0 : ∀ {x y : Val}, atI [x, y] 0 = some x := rfl
  have i1 : ∀ {x y : Val}, atI [x, y] 1 = some y := rfl
  have j0 : ixN 2 0 = some 0 := rfl
  have j1 : ixN 2 1 = some 1 := rfl
  unfold d__law_take runM m__law_take
  by_cases c0 : 0 < c
  · simp only [mChain, isiM, sDst2, neD0M, Wn.R.bind_ok, Wn.R.bind_no, Wn.R.cut_ok, Wn.R.cut_no, sThen_nx, sThen_rt, sThen_bk, sThen_ct, mC, mV, mNil, mCons, mTup, mLst, mOp, mUn, mFn, mMt, boolM, mTest, mAnd, mOr, mNot, mIf, mBl, mAndV, mOrV, mNotV, mAndT, mOrT, truM, List.isEmpty_cons, List.isEmpty_nil, addM, subM, mulM, modM, fdivM, powM, negM, ltM, leM, gtM, geM, cmpI, isM', isntM, isNon, getM, dgetM, slM, mSl, mP, mP0, lenM, listM, tupleM, minM, maxM, absM, intM, sortedM, mBm, lstOf, appM, popM, extM, idxM, remLM, sNil, sSeq, sSet, sExpr, sRet, sRetN, sIf, sBrk, sCnt, sPar, sPar3, sAsg, tgN, tgT, unp, stoM, dstoM, sSto, Wk.items, iSeq, iRng1, iRng2, iEnm, mCall, mMeth, sysOf, onSys, mMethK, mMake, mMakeK, makM, mYes, mListR1, mListR2, intBM, startV, seqOf, keyOf, List.getElem?_cons_zero, List.getElem?_cons_succ, List.getElem?_nil, List.set_cons_zero, List.set_cons_succ, List.map_cons, List.map_nil, List.length_cons, List.length_nil, List.cons_append, List.nil_append, List.append_nil, List.replicate, Nat.reduceAdd, Nat.reduceSub, Nat.reduceLeDiff, Nat.reduceLT, Nat.reduceEqDiff, Int.reduceLT, Int.reduceLE, Int.reduceNeg, Int.reducePow, ite_true, ite_false, if_true, if_false, reduceIte, Bool.false_eq_true, Bool.true_eq_false, Bool.not_true, Bool.not_false, and_self, and_true, true_and, Mu.put_same, Mu.new_same, Mu.put_nx, Mu.new_nx, Nat.zero_add, Nat.le_refl, Goes_nx, Gets_ok, Rets_nx, Rets_rt, CMul, CDiv, CPow, or_true, true_or, or_self, not_true, not_false_iff, mDm, dctV, popDM, getDM, mDisp, mPrs, kvOf, decide_false, decide_true, Int.reduceToNat, Nat.reducePow, Int.reduceAdd, Int.reduceSub, Int.reduceMul, hb, i0, j0, decide_eq_true c0, h0, h1]
    exact ⟨_, _, rfl, Int.emod_nonneg _ (by omega), Int.emod_lt_of_pos _ h0, Kee.put (by simp), ⟨hlt, _, _, Mu.put_same ..⟩, rfl⟩
  · simp only [mChain, isiM, sDst2, neD0M, Wn.R.bind_ok, Wn.R.bind_no, Wn.R.cut_ok, Wn.R.cut_no, sThen_nx, sThen_rt, sThen_bk, sThen_ct, mC, mV, mNil, mCons, mTup, mLst, mOp, mUn, mFn, mMt, boolM, mTest, mAnd, mOr, mNot, mIf, mBl, mAndV, mOrV, mNotV, mAndT, mOrT, truM, List.isEmpty_cons, List.isEmpty_nil, addM, subM, mulM, modM, fdivM, powM, negM, ltM, leM, gtM, geM, cmpI, isM', isntM, isNon, getM, dgetM, slM, mSl, mP, mP0, lenM, listM, tupleM, minM, maxM, absM, intM, sortedM, mBm, lstOf, appM, popM, extM, idxM, remLM, sNil, sSeq, sSet, sExpr, sRet, sRetN, sIf, sBrk, sCnt, sPar, sPar3, sAsg, tgN, tgT, unp, stoM, dstoM, sSto, Wk.items, iSeq, iRng1, iRng2, iEnm, mCall, mMeth, sysOf, onSys, mMethK, mMake, mMakeK, makM, mYes, mListR1, mListR2, intBM, startV, seqOf, keyOf, List.getElem?_cons_zero, List.getElem?_cons_succ, List.getElem?_nil, List.set_cons_zero, List.set_cons_succ, List.map_cons, List.map_nil, List.length_cons, List.length_nil, List.cons_append, List.nil_append, List.append_nil, List.replicate, Nat.reduceAdd, Nat.reduceSub, Nat.reduceLeDiff, Nat.reduceLT, Nat.reduceEqDiff, Int.reduceLT, Int.reduceLE, Int.reduceNeg, Int.reducePow, ite_true, ite_false, if_true, if_false, reduceIte, Bool.false_eq_true, Bool.true_eq_false, Bool.not_true, Bool.not_false, and_self, and_true, true_and, Mu.put_same, Mu.new_same, Mu.put_nx, Mu.new_nx, Nat.zero_add, Nat.le_refl, Goes_nx, Gets_ok, Rets_nx, Rets_rt, CMul, CDiv, CPow, or_true, true_or, or_self, not_true, not_false_iff, mDm, dctV, popDM, getDM, mDisp, mPrs, kvOf, decide_false, decide_true, Int.reduceToNat, Nat.reducePow, Int.reduceAdd, Int.reduceSub, Int.reduceMul, hb, i0, i1, j1, decide_eq_false c0, h0, h1]
    refine ⟨_, _, rfl, Int.emod_nonneg _ (by omega), Int.emod_lt_of_pos _ h0, Kee.put (by simp), ⟨hlt, _, _, Mu.put_same ..⟩, rfl⟩
theorem of_eq {μ : Mu} {b l : Nat} (hb : Bag μ b) {xs : List Val} (hl : seqOf μ l = some xs) (hll : l < μ.nx) (ne : l ≠ b) (h0 : 0 < xs.length) (h1 : xs.length < 1073741824) : ∃ x μ', d__law_of [.loc b, .loc l] μ = .ok x μ' ∧ x ∈ xs ∧ Kee [b] μ μ' ∧ Bag μ' b ∧ μ'.nx = μ.nx := by
  obtain ⟨k, μ', e, k0, k1, kp, bg, nx⟩ := take_eq hb (n := (xs.length : Nat)) (by omega) (by omega)
  have hl' : seqOf μ' l = some xs := by
    unfold seqOf at hl ⊢
    rw [kp.ob l hll (by simpa using ne)]
    exact hl
  have hlt : k.toNat < xs.length := by omega
  have ha : atI xs k = some xs[k.toNat] := by
    have z := atI_nat (List.getElem?_eq_getElem hlt)
    rw [show ((k.toNat : Nat) : Int) = k by omega] at z
    exact z
  refine ⟨xs[k.toNat], μ', ?_, List.getElem_mem hlt, kp, bg, nx⟩
  unfold seqOf at hl hl'
  unfold d__law_of runM m__law_of
  simp only [mChain, isiM, sDst2, neD0M, Wn.R.bind_ok, Wn.R.bind_no, Wn.R.cut_ok, Wn.R.cut_no, sThen_nx, sThen_rt, sThen_bk, sThen_ct, mC, mV, mNil, mCons, mTup, mLst, mOp, mUn, mFn, mMt, boolM, mTest, mAnd, mOr, mNot, mIf, mBl, mAndV, mOrV, mNotV, mAndT, mOrT, truM, List.isEmpty_cons, List.isEmpty_nil, addM, subM, mulM, modM, fdivM, powM, negM, ltM, leM, gtM, geM, cmpI, isM', isntM, isNon, getM, dgetM, slM, mSl, mP, mP0, lenM, listM, tupleM, minM, maxM, absM, intM, sortedM, mBm, lstOf, appM, popM, extM, idxM, remLM, sNil, sSeq, sSet, sExpr, sRet, sRetN, sIf, sBrk, sCnt, sPar, sPar3, sAsg, tgN, tgT, unp, stoM, dstoM, sSto, Wk.items, iSeq, iRng1, iRng2, iEnm, mCall, mMeth, sysOf, onSys, mMethK, mMake, mMakeK, makM, mYes, mListR1, mListR2, intBM, startV, seqOf, keyOf, List.getElem?_cons_zero, List.getElem?_cons_succ, List.getElem?_nil, List.set_cons_zero, List.set_cons_succ, List.map_cons, List.map_nil, List.length_cons, List.length_nil, List.cons_append, List.nil_append, List.append_nil, List.replicate, Nat.reduceAdd, Nat.reduceSub, Nat.reduceLeDiff, Nat.reduceLT, Nat.reduceEqDiff, Int.reduceLT, Int.reduceLE, Int.reduceNeg, Int.reducePow, ite_true, ite_false, if_true, if_false, reduceIte, Bool.false_eq_true, Bool.true_eq_false, Bool.not_true, Bool.not_false, and_self, and_true, true_and, Mu.put_same, Mu.new_same, Mu.put_nx, Mu.new_nx, Nat.zero_add, Nat.le_refl, Goes_nx, Gets_ok, Rets_nx, Rets_rt, CMul, CDiv, CPow, or_true, true_or, or_self, not_true, not_false_iff, mDm, dctV, popDM, getDM, mDisp, mPrs, kvOf, decide_false, decide_true, Int.reduceToNat, Nat.reducePow, Int.reduceAdd, Int.reduceSub, Int.reduceMul, hl, e, hl', ha]

theorem seqOf_keep {S : List Nat} {μ μ' : Mu} (k : Kee S μ μ') {n : Nat} (hn : n < μ.nx) (q : n ∉ S) : seqOf μ' n = seqOf μ n := by
  unfold seqOf
  rw [k.ob n hn q]
theorem cut_ints (ns : List Int) (lo hi : Option Int) : cutG (ns.map Val.int) lo hi = (cutG ns lo hi).map Val.int := by
  unfold cutG
  rw [List.length_map, List.map_take, List.map_drop]
theorem enm_ints_get {l : List Int} {i : Nat} {v : Val} (h : (enmM (l.map Val.int))[i]? = some v) : ∃ y, v = .tup [.int (i : Nat), .int y] := by
  rw [enmM_get, List.getElem?_map] at h
  cases e : l[i]? with
  | none => rw [e] at h; cases h
  | some y => rw [e] at h; cases h; exact ⟨y, rfl⟩
theorem bag_eq {μ : Mu} {s : Nat} {ns : List Int} {i : Int} (hs : seqOf μ s = some (ns.map Val.int)) (hl : s < μ.nx) (hi : 0 ≤ i) : ∃ p μ', d__law_bag [.loc s, .int i] μ = .ok (.loc p) μ' ∧ Kee [] μ μ' ∧ Bag μ' p ∧ μ.nx ≤ p := by
  have hs0 := hs
  unfold seqOf at hs
  suffices h : Gets (d__law_bag [.loc s, .int i] μ) fun v μ' => ∃ p, v = .loc p ∧ Kee [] μ μ' ∧ Bag μ' p ∧ μ.nx ≤ p by
    obtain ⟨v, μ', e, p, rfl, q⟩ := h.ex
    exact ⟨p, μ', e, q⟩
  refine Gets.run rfl ?_
  have rest : ∀ cell blend : Int, Rets (sSeq (sFor (iEnm (mCons (mSl (mV 0) mP0 (mP (mC (.int 40)))) mNil)) (tgT [4, 5]) m__law_bag_1) (sRet (mLst (mCons (mIf (mTest (mOp geM (mFn absM (mCons (mV 2) mNil)) (mOp powM (mC (.int 10)) (mC (.int 18))))) (mFn absM (mCons (mV 2) mNil)) (mC (.int 0))) (mCons (mV 3) mNil)))) [some (.loc s), some (.int i), some (.int cell), some (.int blend), none, none] μ) fun v μ' => ∃ p, v = .loc p ∧ Kee [] μ μ' ∧ Bag μ' p ∧ μ.nx ≤ p := by
    intro cell blend
    unfold sSeq
    refine Rets.then ?_
    refine sFor_goes (k := .enm μ.nx) (μ1 := μ.new (.lst (cutG (ns.map Val.int) none (some 40)))) (vs := enmM ((cutG ns none (some 40)).map Val.int)) ?_ ?_ (fun _ ρ μ' => (∃ b v4 v5, ρ = [some (.loc s), some (.int i), some (.int cell), some (.int b), v4, v5]) ∧ μ' = μ.new (.lst (cutG (ns.map Val.int) none (some 40)))) ⟨⟨_, _, _, rfl⟩, rfl⟩ ?_ ?_ ?_
    · simp only [mChain, isiM, sDst2, neD0M, Wn.R.bind_ok, Wn.R.bind_no, Wn.R.cut_ok, Wn.R.cut_no, sThen_nx, sThen_rt, sThen_bk, sThen_ct, mC, mV, mNil, mCons, mTup, mLst, mOp, mUn, mFn, mMt, boolM, mTest, mAnd, mOr, mNot, mIf, mBl, mAndV, mOrV, mNotV, mAndT, mOrT, truM, List.isEmpty_cons, List.isEmpty_nil, addM, subM, mulM, modM, fdivM, powM, negM, ltM, leM, gtM, geM, cmpI, isM', isntM, isNon, getM, dgetM, slM, mSl, mP, mP0, lenM, listM, tupleM, minM, maxM, absM, intM, sortedM, mBm, lstOf, appM, popM, extM, idxM, remLM, sNil, sSeq, sSet, sExpr, sRet, sRetN, sIf, sBrk, sCnt, sPar, sPar3, sAsg, tgN, tgT, unp, stoM, dstoM, sSto, Wk.items, iSeq, iRng1, iRng2, iEnm, mCall, mMeth, sysOf, onSys, mMethK, mMake, mMakeK, makM, mYes, mListR1, mListR2, intBM, startV, seqOf, keyOf, List.getElem?_cons_zero, List.getElem?_cons_succ, List.getElem?_nil, List.set_cons_zero, List.set_cons_succ, List.map_cons, List.map_nil, List.length_cons, List.length_nil, List.cons_append, List.nil_append, List.append_nil, List.replicate, Nat.reduceAdd, Nat.reduceSub, Nat.reduceLeDiff, Nat.reduceLT, Nat.reduceEqDiff, Int.reduceLT, Int.reduceLE, Int.reduceNeg, Int.reducePow, ite_true, ite_false, if_true, if_false, reduceIte, Bool.false_eq_true, Bool.true_eq_false, Bool.not_true, Bool.not_false, and_self, and_true, true_and, Mu.put_same, Mu.new_same, Mu.put_nx, Mu.new_nx, Nat.zero_add, Nat.le_refl, Goes_nx, Gets_ok, Rets_nx, Rets_rt, CMul, CDiv, CPow, or_true, true_or, or_self, not_true, not_false_iff, mDm, dctV, popDM, getDM, mDisp, mPrs, kvOf, decide_false, decide_true, Int.reduceToNat, Nat.reducePow, Int.reduceAdd, Int.reduceSub, Int.reduceMul, hs]
    · simp only [mChain, isiM, sDst2, neD0M, Wn.R.bind_ok, Wn.R.bind_no, Wn.R.cut_ok, Wn.R.cut_no, sThen_nx, sThen_rt, sThen_bk, sThen_ct, mC, mV, mNil, mCons, mTup, mLst, mOp, mUn, mFn, mMt, boolM, mTest, mAnd, mOr, mNot, mIf, mBl, mAndV, mOrV, mNotV, mAndT, mOrT, truM, List.isEmpty_cons, List.isEmpty_nil, addM, subM, mulM, modM, fdivM, powM, negM, ltM, leM, gtM, geM, cmpI, isM', isntM, isNon, getM, dgetM, slM, mSl, mP, mP0, lenM, listM, tupleM, minM, maxM, absM, intM, sortedM, mBm, lstOf, appM, popM, extM, idxM, remLM, sNil, sSeq, sSet, sExpr, sRet, sRetN, sIf, sBrk, sCnt, sPar, sPar3, sAsg, tgN, tgT, unp, stoM, dstoM, sSto, Wk.items, iSeq, iRng1, iRng2, iEnm, mCall, mMeth, sysOf, onSys, mMethK, mMake, mMakeK, makM, mYes, mListR1, mListR2, intBM, startV, seqOf, keyOf, List.getElem?_cons_zero, List.getElem?_cons_succ, List.getElem?_nil, List.set_cons_zero, List.set_cons_succ, List.map_cons, List.map_nil, List.length_cons, List.length_nil, List.cons_append, List.nil_append, List.append_nil, List.replicate, Nat.reduceAdd, Nat.reduceSub, Nat.reduceLeDiff, Nat.reduceLT, Nat.reduceEqDiff, Int.reduceLT, Int.reduceLE, Int.reduceNeg, Int.reducePow, ite_true, ite_false, if_true, if_false, reduceIte, Bool.false_eq_true, Bool.true_eq_false, Bool.not_true, Bool.not_false, and_self, and_true, true_and, Mu.put_same, Mu.new_same, Mu.put_nx, Mu.new_nx, Nat.zero_add, Nat.le_refl, Goes_nx, Gets_ok, Rets_nx, Rets_rt, CMul, CDiv, CPow, or_true, true_or, or_self, not_true, not_false_iff, mDm, dctV, popDM, getDM, mDisp, mPrs, kvOf, decide_false, decide_true, Int.reduceToNat, Nat.reducePow, Int.reduceAdd, Int.reduceSub, Int.reduceMul, cut_ints]
      rfl
    · rintro j ρ μ' _ ⟨_, rfl⟩
      simp only [mChain, isiM, sDst2, neD0M, Wn.R.bind_ok, Wn.R.bind_no, Wn.R.cut_ok, Wn.R.cut_no, sThen_nx, sThen_rt, sThen_bk, sThen_ct, mC, mV, mNil, mCons, mTup, mLst, mOp, mUn, mFn, mMt, boolM, mTest, mAnd, mOr, mNot, mIf, mBl, mAndV, mOrV, mNotV, mAndT, mOrT, truM, List.isEmpty_cons, List.isEmpty_nil, addM, subM, mulM, modM, fdivM, powM, negM, ltM, leM, gtM, geM, cmpI, isM', isntM, isNon, getM, dgetM, slM, mSl, mP, mP0, lenM, listM, tupleM, minM, maxM, absM, intM, sortedM, mBm, lstOf, appM, popM, extM, idxM, remLM, sNil, sSeq, sSet, sExpr, sRet, sRetN, sIf, sBrk, sCnt, sPar, sPar3, sAsg, tgN, tgT, unp, stoM, dstoM, sSto, Wk.items, iSeq, iRng1, iRng2, iEnm, mCall, mMeth, sysOf, onSys, mMethK, mMake, mMakeK, makM, mYes, mListR1, mListR2, intBM, startV, seqOf, keyOf, List.getElem?_cons_zero, List.getElem?_cons_succ, List.getElem?_nil, List.set_cons_zero, List.set_cons_succ, List.map_cons, List.map_nil, List.length_cons, List.length_nil, List.cons_append, List.nil_append, List.append_nil, List.replicate, Nat.reduceAdd, Nat.reduceSub, Nat.reduceLeDiff, Nat.reduceLT, Nat.reduceEqDiff, Int.reduceLT, Int.reduceLE, Int.reduceNeg, Int.reducePow, ite_true, ite_false, if_true, if_false, reduceIte, Bool.false_eq_true, Bool.true_eq_false, Bool.not_true, Bool.not_false, and_self, and_true, true_and, Mu.put_same, Mu.new_same, Mu.put_nx, Mu.new_nx, Nat.zero_add, Nat.le_refl, Goes_nx, Gets_ok, Rets_nx, Rets_rt, CMul, CDiv, CPow, or_true, true_or, or_self, not_true, not_false_iff, mDm, dctV, popDM, getDM, mDisp, mPrs, kvOf, decide_false, decide_true, Int.reduceToNat, Nat.reducePow, Int.reduceAdd, Int.reduceSub, Int.reduceMul, cut_ints]
      rfl
    · rintro j v ρ μ' hv ⟨⟨b, v4, v5, rfl⟩, rfl⟩
      obtain ⟨y, rfl⟩ := enm_ints_get hv
      refine ⟨_, rfl, ?_⟩
      unfold m__law_bag_1
      simp only [mChain, isiM, sDst2, neD0M, Wn.R.bind_ok, Wn.R.bind_no, Wn.R.cut_ok, Wn.R.cut_no, sThen_nx, sThen_rt, sThen_bk, sThen_ct, mC, mV, mNil, mCons, mTup, mLst, mOp, mUn, mFn, mMt, boolM, mTest, mAnd, mOr, mNot, mIf, mBl, mAndV, mOrV, mNotV, mAndT, mOrT, truM, List.isEmpty_cons, List.isEmpty_nil, addM, subM, mulM, modM, fdivM, powM, negM, ltM, leM, gtM, geM, cmpI, isM', isntM, isNon, getM, dgetM, slM, mSl, mP, mP0, lenM, listM, tupleM, minM, maxM, absM, intM, sortedM, mBm, lstOf, appM, popM, extM, idxM, remLM, sNil, sSeq, sSet, sExpr, sRet, sRetN, sIf, sBrk, sCnt, sPar, sPar3, sAsg, tgN, tgT, unp, stoM, dstoM, sSto, Wk.items, iSeq, iRng1, iRng2, iEnm, mCall, mMeth, sysOf, onSys, mMethK, mMake, mMakeK, makM, mYes, mListR1, mListR2, intBM, startV, seqOf, keyOf, List.getElem?_cons_zero, List.getElem?_cons_succ, List.getElem?_nil, List.set_cons_zero, List.set_cons_succ, List.map_cons, List.map_nil, List.length_cons, List.length_nil, List.cons_append, List.nil_append, List.append_nil, List.replicate, Nat.reduceAdd, Nat.reduceSub, Nat.reduceLeDiff, Nat.reduceLT, Nat.reduceEqDiff, Int.reduceLT, Int.reduceLE, Int.reduceNeg, Int.reducePow, ite_true, ite_false, if_true, if_false, reduceIte, Bool.false_eq_true, Bool.true_eq_false, Bool.not_true, Bool.not_false, and_self, and_true, true_and, Mu.put_same, Mu.new_same, Mu.put_nx, Mu.new_nx, Nat.zero_add, Nat.le_refl, Goes_nx, Gets_ok, Rets_nx, Rets_rt, CMul, CDiv, CPow, or_true, true_or, or_self, not_true, not_false_iff, mDm, dctV, popDM, getDM, mDisp, mPrs, kvOf, decide_false, decide_true, Int.reduceToNat, Nat.reducePow, Int.reduceAdd, Int.reduceSub, Int.reduceMul]
      exact ⟨_, _, _, rfl⟩
    · rintro ρ μ' ⟨⟨b, v4, v5, rfl⟩, rfl⟩
      have fin : ∀ z : Int, ∃ p, Val.loc (μ.nx + 1) = .loc p ∧ Kee [] μ ((μ.new (.lst (cutG (ns.map Val.int) none (some 40)))).new (.lst [.int z, .int b])) ∧ Bag ((μ.new (.lst (cutG (ns.map Val.int) none (some 40)))).new (.lst [.int z, .int b])) p ∧ μ.nx ≤ p := fun z =>
        ⟨_, rfl, Kee.new.trans Kee.new, ⟨Nat.lt_succ_self _, _, _, Mu.new_same ..⟩, Nat.le_succ _⟩
      generalize hd : decide ((1000000000000000000 : Int) ≤ if cell < 0 then -cell else cell) = dd
      cases dd with
      | true =>
        simp only [mChain, isiM, sDst2, neD0M, Wn.R.bind_ok, Wn.R.bind_no, Wn.R.cut_ok, Wn.R.cut_no, sThen_nx, sThen_rt, sThen_bk, sThen_ct, mC, mV, mNil, mCons, mTup, mLst, mOp, mUn, mFn, mMt, boolM, mTest, mAnd, mOr, mNot, mIf, mBl, mAndV, mOrV, mNotV, mAndT, mOrT, truM, List.isEmpty_cons, List.isEmpty_nil, addM, subM, mulM, modM, fdivM, powM, negM, ltM, leM, gtM, geM, cmpI, isM', isntM, isNon, getM, dgetM, slM, mSl, mP, mP0, lenM, listM, tupleM, minM, maxM, absM, intM, sortedM, mBm, lstOf, appM, popM, extM, idxM, remLM, sNil, sSeq, sSet, sExpr, sRet, sRetN, sIf, sBrk, sCnt, sPar, sPar3, sAsg, tgN, tgT, unp, stoM, dstoM, sSto, Wk.items, iSeq, iRng1, iRng2, iEnm, mCall, mMeth, sysOf, onSys, mMethK, mMake, mMakeK, makM, mYes, mListR1, mListR2, intBM, startV, seqOf, keyOf, List.getElem?_cons_zero, List.getElem?_cons_succ, List.getElem?_nil, List.set_cons_zero, List.set_cons_succ, List.map_cons, List.map_nil, List.length_cons, List.length_nil, List.cons_append, List.nil_append, List.append_nil, List.replicate, Nat.reduceAdd, Nat.reduceSub, Nat.reduceLeDiff, Nat.reduceLT, Nat.reduceEqDiff, Int.reduceLT, Int.reduceLE, Int.reduceNeg, Int.reducePow, ite_true, ite_false, if_true, if_false, reduceIte, Bool.false_eq_true, Bool.true_eq_false, Bool.not_true, Bool.not_false, and_self, and_true, true_and, Mu.put_same, Mu.new_same, Mu.put_nx, Mu.new_nx, Nat.zero_add, Nat.le_refl, Goes_nx, Gets_ok, Rets_nx, Rets_rt, CMul, CDiv, CPow, or_true, true_or, or_self, not_true, not_false_iff, mDm, dctV, popDM, getDM, mDisp, mPrs, kvOf, decide_false, decide_true, Int.reduceToNat, Nat.reducePow, Int.reduceAdd, Int.reduceSub, Int.reduceMul, hd, show Int.natAbs 10 = 10 from rfl]
        exact fin _
      | false =>
        simp only [mChain, isiM, sDst2, neD0M, Wn.R.bind_ok, Wn.R.bind_no, Wn.R.cut_ok, Wn.R.cut_no, sThen_nx, sThen_rt, sThen_bk, sThen_ct, mC, mV, mNil, mCons, mTup, mLst, mOp, mUn, mFn, mMt, boolM, mTest, mAnd, mOr, mNot, mIf, mBl, mAndV, mOrV, mNotV, mAndT, mOrT, truM, List.isEmpty_cons, List.isEmpty_nil, addM, subM, mulM, modM, fdivM, powM, negM, ltM, leM, gtM, geM, cmpI, isM', isntM, isNon, getM, dgetM, slM, mSl, mP, mP0, lenM, listM, tupleM, minM, maxM, absM, intM, sortedM, mBm, lstOf, appM, popM, extM, idxM, remLM, sNil, sSeq, sSet, sExpr, sRet, sRetN, sIf, sBrk, sCnt, sPar, sPar3, sAsg, tgN, tgT, unp, stoM, dstoM, sSto, Wk.items, iSeq, iRng1, iRng2, iEnm, mCall, mMeth, sysOf, onSys, mMethK, mMake, mMakeK, makM, mYes, mListR1, mListR2, intBM, startV, seqOf, keyOf, List.getElem?_cons_zero, List.getElem?_cons_succ, List.getElem?_nil, List.set_cons_zero, List.set_cons_succ, List.map_cons, List.map_nil, List.length_cons, List.length_nil, List.cons_append, List.nil_append, List.append_nil, List.replicate, Nat.reduceAdd, Nat.reduceSub, Nat.reduceLeDiff, Nat.reduceLT, Nat.reduceEqDiff, Int.reduceLT, Int.reduceLE, Int.reduceNeg, Int.reducePow, ite_true, ite_false, if_true, if_false, reduceIte, Bool.false_eq_true, Bool.true_eq_false, Bool.not_true, Bool.not_false, and_self, and_true, true_and, Mu.put_same, Mu.new_same, Mu.put_nx, Mu.new_nx, Nat.zero_add, Nat.le_refl, Goes_nx, Gets_ok, Rets_nx, Rets_rt, CMul, CDiv, CPow, or_true, true_or, or_self, not_true, not_false_iff, mDm, dctV, popDM, getDM, mDisp, mPrs, kvOf, decide_false, decide_true, Int.reduceToNat, Nat.reducePow, Int.reduceAdd, Int.reduceSub, Int.reduceMul, hd, show Int.natAbs 10 = 10 from rfl]
        exact fin _
  by_cases c : i < (ns.length : Int)
  · have ha : atI (ns.map Val.int) i = some (.int ns[i.toNat]) := by
      have hlt : i.toNat < ns.length := by omega
      have z := atI_nat (xs := ns.map Val.int) (j := i.toNat) (v := .int ns[i.toNat]) (by rw [List.getElem?_map, List.getElem?_eq_getElem hlt]; rfl)
      rw [show ((i.toNat : Nat) : Int) = i by omega] at z
      exact z
    unfold m__law_bag
    simp only [mChain, isiM, sDst2, neD0M, Wn.R.bind_ok, Wn.R.bind_no, Wn.R.cut_ok, Wn.R.cut_no, sThen_nx, sThen_rt, sThen_bk, sThen_ct, mC, mV, mNil, mCons, mTup, mLst, mOp, mUn, mFn, mMt, boolM, mTest, mAnd, mOr, mNot, mIf, mBl, mAndV, mOrV, mNotV, mAndT, mOrT, truM, List.isEmpty_cons, List.isEmpty_nil, addM, subM, mulM, modM, fdivM, powM, negM, ltM, leM, gtM, geM, cmpI, isM', isntM, isNon, getM, dgetM, slM, mSl, mP, mP0, lenM, listM, tupleM, minM, maxM, absM, intM, sortedM, mBm, lstOf, appM, popM, extM, idxM, remLM, sNil, sSeq, sSet, sExpr, sRet, sRetN, sIf, sBrk, sCnt, sPar, sPar3, sAsg, tgN, tgT, unp, stoM, dstoM, sSto, Wk.items, iSeq, iRng1, iRng2, iEnm, mCall, mMeth, sysOf, onSys, mMethK, mMake, mMakeK, makM, mYes, mListR1, mListR2, intBM, startV, seqOf, keyOf, List.getElem?_cons_zero, List.getElem?_cons_succ, List.getElem?_nil, List.set_cons_zero, List.set_cons_succ, List.map_cons, List.map_nil, List.length_cons, List.length_nil, List.cons_append, List.nil_append, List.append_nil, List.replicate, Nat.reduceAdd, Nat.reduceSub, Nat.reduceLeDiff, Nat.reduceLT, Nat.reduceEqDiff, Int.reduceLT, Int.reduceLE, Int.reduceNeg, Int.reducePow, ite_true, ite_false, if_true, if_false, reduceIte, Bool.false_eq_true, Bool.true_eq_false, Bool.not_true, Bool.not_false, and_self, and_true, true_and, Mu.put_same, Mu.new_same, Mu.put_nx, Mu.new_nx, Nat.zero_add, Nat.le_refl, Goes_nx, Gets_ok, Rets_nx, Rets_rt, CMul, CDiv, CPow, or_true, true_or, or_self, not_true, not_false_iff, mDm, dctV, popDM, getDM, mDisp, mPrs, kvOf, decide_false, decide_true, Int.reduceToNat, Nat.reducePow, Int.reduceAdd, Int.reduceSub, Int.reduceMul, hs, List.length_map, decide_eq_true c, ha]
    exact rest _ _
  · unfold m__law_bag
    simp only [mChain, isiM, sDst2, neD0M, Wn.R.bind_ok, Wn.R.bind_no, Wn.R.cut_ok, Wn.R.cut_no, sThen_nx, sThen_rt, sThen_bk, sThen_ct, mC, mV, mNil, mCons, mTup, mLst, mOp, mUn, mFn, mMt, boolM, mTest, mAnd, mOr, mNot, mIf, mBl, mAndV, mOrV, mNotV, mAndT, mOrT, truM, List.isEmpty_cons, List.isEmpty_nil, addM, subM, mulM, modM, fdivM, powM, negM, ltM, leM, gtM, geM, cmpI, isM', isntM, isNon, getM, dgetM, slM, mSl, mP, mP0, lenM, listM, tupleM, minM, maxM, absM, intM, sortedM, mBm, lstOf, appM, popM, extM, idxM, remLM, sNil, sSeq, sSet, sExpr, sRet, sRetN, sIf, sBrk, sCnt, sPar, sPar3, sAsg, tgN, tgT, unp, stoM, dstoM, sSto, Wk.items, iSeq, iRng1, iRng2, iEnm, mCall, mMeth, sysOf, onSys, mMethK, mMake, mMakeK, makM, mYes, mListR1, mListR2, intBM, startV, seqOf, keyOf, List.getElem?_cons_zero, List.getElem?_cons_succ, List.getElem?_nil, List.set_cons_zero, List.set_cons_succ, List.map_cons, List.map_nil, List.length_cons, List.length_nil, List.cons_append, List.nil_append, List.append_nil, List.replicate, Nat.reduceAdd, Nat.reduceSub, Nat.reduceLeDiff, Nat.reduceLT, Nat.reduceEqDiff, Int.reduceLT, Int.reduceLE, Int.reduceNeg, Int.reducePow, ite_true, ite_false, if_true, if_false, reduceIte, Bool.false_eq_true, Bool.true_eq_false, Bool.not_true, Bool.not_false, and_self, and_true, true_and, Mu.put_same, Mu.new_same, Mu.put_nx, Mu.new_nx, Nat.zero_add, Nat.le_refl, Goes_nx, Gets_ok, Rets_nx, Rets_rt, CMul, CDiv, CPow, or_true, true_or, or_self, not_true, not_false_iff, mDm, dctV, popDM, getDM, mDisp, mPrs, kvOf, decide_false, decide_true, Int.reduceToNat, Nat.reducePow, Int.reduceAdd, Int.reduceSub, Int.reduceMul, hs, List.length_map, decide_eq_false c]
    exact rest _ _

/-! ### data, plainly -/
theorem allO_ints (k : Nat) (μ : Mu) (l : List Int) : allO ((l.map Val.int).map (toD k μ)) = some (l.map PyData.int) := by
  rw [allO_some (f := toD k μ) (g := fun v => match v with | .int i => PyData.int i | _ => .none)]
  · rw [List.map_map]
    rfl
  · intro x hx
    obtain ⟨i, _, rfl⟩ := List.mem_map.mp hx
    cases k <;> rfl
theorem dat_ints {μ : Mu} {n : Nat} {l : List Int} (h : seqOf μ n = some (l.map Val.int)) : datM μ (.loc n) = some (.list (l.map PyData.int)) := by
  unfold datM
  rw [toD, h]
  simp only
  rw [allO_ints]
  rfl
theorem eqvAll_same : ∀ {ds : List PyData}, PyData.canLayAll0 ds = true → PyData.eqvAll ds ds = true := fun {ds} h => by
  have := SeqAt.eqv_refl (.list ds) (by rw [PyData.canLay0]; exact h)
  rw [PyData.eqv] at this
  exact this
theorem lay_ints : ∀ l : List Int, PyData.canLayAll0 (l.map PyData.int) = true
  | [] => rfl
  | _ :: l => lay_ints l
theorem eqv_ints (l : List Int) : PyData.eqv (.list (l.map PyData.int)) (.list (l.map PyData.int)) = true := by rw [PyData.eqv]; exact eqvAll_same (lay_ints l)
theorem seqOf_lst {μ : Mu} {n : Nat} {vs : List Val} (h : μ.ob n = some (.lst vs)) : seqOf μ n = some vs := by
  unfold seqOf
  rw [h]
theorem re_lk {v : Sv} {n k : Int} {tv tv' : Tv} (h : lk v.ths n = some tv) : lk (v.re n tv').ths k = if k = n then some tv' else lk v.ths k := by
  show lk (upAt v.ths n fun _ => tv') k = _
  rw [upAt_lk]
  split
  · rename_i e
    rw [e, h]
    rfl
  · rfl
theorem pend_lk (v : Sv) (ser n : Int) : lk (v.pend ser).ths n = (lk v.ths n).map fun t => t.pend ser := lk_mapK (fun _ t => Tv.pend ser t) n v.ths
theorem Kee.over {S T : List Nat} {μ μ1 μ2 : Mu} (a : Kee S μ μ1) (b : Kee T μ1 μ2) (h : ∀ n ∈ T, μ.nx ≤ n ∨ n ∈ S) : Kee S μ μ2 := ⟨Nat.le_trans a.le b.le, fun n l q => (b.ob n (Nat.lt_of_lt_of_le l a.le) fun z => (h n z).elim (fun y => absurd l (Nat.not_lt.mpr y)) q).trans (a.ob n l q)⟩
theorem dat_int (μ : Mu) (i : Int) : datM μ (.int i) = some (.int i) := rfl
theorem eqv_int (i j : Int) : PyData.eqv (.int i) (.int j) = (i == j) := rfl
theorem lk_snoc {α : Type} {l : List (Int × α)} {n k : Int} {x : α} (h : lk l n = none) : lk (l ++ [(n, x)]) k = if k = n then some x else lk l k := by
  rw [lk_app]
  by_cases c : k = n
  · subst c
    rw [h, if_pos rfl]
    show (none : Option α).or (if k = k then some x else lk [] k) = some x
    rw [if_pos rfl]
    rfl
  · rw [if_neg c]
    have : lk [(n, x)] k = none := by
      show (if n = k then some x else lk [] k) = none
      rw [if_neg (Ne.symm c)]
      rfl
    rw [this, Option.or_none]
structure Fill (j : Nat) (v : Sv) : Prop where
  n8 : v.N = 8
  made : v.made = (j : Int) + 1
  rows : ∃ rows, lk v.tabs 0 = some rows ∧ (∀ n : Nat, n ≤ j → lk rows (n : Int) = some (n : Int)) ∧ ∀ n : Int, n ∈ rows.map (·.1) ↔ 0 ≤ n ∧ n ≤ j
  set_ : lk v.ths 0 = some (.set [] [])
  src : ∀ l : Nat, l < j → lk v.ths ((l : Int) + 1) = some (.src 0 false)
  new : lk v.ths ((j : Int) + 1) = none ∧ ∀ n : Int, (j : Int) < n → lk v.ths n = none
theorem Fill.low {j : Nat} {v : Sv} (h : Fill j v) (hj : j < 7) {rows : List (Int × Int)} (hr : lk v.tabs 0 = some rows) : lowFree (rows.map (·.1)) v.N = some ((j : Int) + 1) := by
  obtain ⟨rows', h1, h2, h3⟩ := h.rows
  rw [hr] at h1
  cases h1
  rw [h.n8]
  exact lowFree_some (k := j + 1) (by omega) (fun i hi => (h3 _).mpr ⟨by omega, by omega⟩) (fun z => by have := (h3 _).mp z; omega)
theorem Fill.next {j : Nat} {v : Sv} (h : Fill j v) : Fill (j + 1) (v.place 0 ((j : Int) + 1) (.src 0 false)) := by
  obtain ⟨rows, h1, h2, h3⟩ := h.rows
  have hn : lk rows ((j : Int) + 1) = none := lk_none.mpr fun z => by have := (h3 _).mp z; omega
  have ht : lk (v.place 0 ((j : Int) + 1) (.src 0 false)).tabs 0 = some (rows ++ [((j : Int) + 1, (j : Int) + 1)]) := by
    show lk (upAt v.tabs 0 (· ++ [((j : Int) + 1, v.made)])) 0 = _
    rw [upAt_lk, if_pos rfl, h1, h.made]
    rfl
  have hths : ∀ n, lk (v.place 0 ((j : Int) + 1) (.src 0 false)).ths n = if n = (j : Int) + 1 then some (.src 0 false) else lk v.ths n := fun n => by
    show lk (v.ths ++ [(v.made, .src 0 false)]) n = _
    rw [h.made, lk_snoc h.new.1]
  refine ⟨h.n8, ?_, ⟨_, ht, fun n hn' => ?_, fun n => ?_⟩, ?_, fun l hl => ?_, ?_, fun n hn' => ?_⟩
  · show v.made + 1 = _
    rw [h.made]
    omega
  · rw [lk_snoc hn]
    by_cases c : n = j + 1
    · rw [if_pos (by omega)]
      congr 1
      omega
    · rw [if_neg (by omega)]
      exact h2 n (by omega)
  · rw [List.map_append, List.mem_append, h3]
    simp only [List.map_cons, List.map_nil, List.mem_singleton]
    omega
  · rw [hths, if_neg (by omega)]
    exact h.set_
  · rw [hths]
    by_cases c : l = j
    · subst c
      rw [if_pos rfl]
    · rw [if_neg (by omega)]
      exact h.src l (by omega)
  · rw [hths, if_neg (by omega)]
    exact h.new.2 _ (by omega)
  · rw [hths, if_neg (by omega)]
    exact h.new.2 _ (by omega)

/-! ### steps, one by one -/
section
variable {ρ ρ' : Rho} {μ μ1 μ2 : Mu} {v a b : Val}
theorem if_yes {c : MT} {A B : MS} (h : c ρ μ = .ok true μ1) : sIf c A B ρ μ = A ρ μ1 := by unfold sIf; rw [h]; rfl
theorem if_no {c : MT} {A B : MS} (h : c ρ μ = .ok false μ1) : sIf c A B ρ μ = B ρ μ1 := by unfold sIf; rw [h]; rfl
theorem seq_nx {A B : MS} (h : A ρ μ = .ok (.nx ρ') μ1) : sSeq A B ρ μ = B ρ' μ1 := by unfold sSeq; rw [h]; rfl
theorem out_ok {hs : Ohs} {m : ME} (h : m ρ μ = .ok v μ1) : mOut hs m ρ μ = .ok v μ1 := by unfold mOut; rw [h]
end
theorem log_le {n : Nat} (h : n < 10 ^ 12) : n.log2 < 40 := by
  by_cases c : n = 0
  · rw [c]; decide
  · exact (Nat.log2_lt c).mpr (Nat.lt_of_lt_of_le h (by decide))
theorem wt_int {i : Int} (h : i.natAbs < 10 ^ 12) : PyData.weight (.int i) ≤ 41 := by
  have := log_le h
  show (if i == 0 then 0 else i.natAbs.log2 + 1) ≤ 41
  split <;> omega
theorem rep_int {i : Int} (h : i.natAbs < 10 ^ 12) : repOk (.int i) := rep_small (decide_eq_true h) (by simp [PyData.depth]) (by have := wt_int h; omega)
theorem rep_fin {z : Str} {i : Int} (hz : PyData.strOk z = true) (hl : z.cps.size ≤ 100) (h : i.natAbs < 10 ^ 12) : repOk (.list [.str z, .int i, .bool true]) := by
  refine rep_small ?_ (by simp [PyData.depth, PyData.depthAll]) ?_
  · show (PyData.strOk z && (decide (i.natAbs < 10 ^ 12) && (true && true))) = true
    rw [hz, decide_eq_true h]
    rfl
  · have := wt_int h
    show (z.cps.size + 1 + (PyData.weight (.int i) + 1 + (0 + 1 + 0))) ≤ 1000000
    omega
theorem dat_fin {μ : Mu} {a : Nat} {z : Str} {i : Int} {c : Bool} (hz : PyData.strOk z = true) (h : μ.ob a = some (.lst [.str z, .int i, .bl c])) : datM μ (.loc a) = some (.list [.str z, .int i, .bool c]) := by
  unfold datM
  rw [toD, seqOf_lst h]
  have e : toD 7 μ (.str z) = some (.str z) := by
    show (if PyData.strOk z = true then some (PyData.str z) else none) = _
    rw [if_pos hz]
  show (allO [toD 7 μ (.str z), some (.int i), some (.bool c)]).map PyData.list = _
  rw [e]
  rfl
def Low (n0 : Nat) (μ μ' : Mu) : Prop := μ.nx ≤ μ'.nx ∧ ∀ n, n < n0 → μ'.ob n = μ.ob n
theorem Low.refl (n0 : Nat) (μ : Mu) : Low n0 μ μ := ⟨Nat.le_refl _, fun _ _ => rfl⟩
theorem Low.trans {n0 : Nat} {μ μ1 μ2 : Mu} (a : Low n0 μ μ1) (b : Low n0 μ1 μ2) : Low n0 μ μ2 := ⟨Nat.le_trans a.1 b.1, fun n h => (b.2 n h).trans (a.2 n h)⟩
theorem Kee.low {S : List Nat} {n0 : Nat} {μ μ' : Mu} (kp : Kee S μ μ') (h0 : n0 ≤ μ.nx) (hS : ∀ n ∈ S, n0 ≤ n) : Low n0 μ μ' := ⟨kp.le, fun n h => kp.ob n (by omega) fun z => by have := hS n z; omega⟩
theorem Low.kee {μ μ' : Mu} (h : Low μ.nx μ μ') : Kee [] μ μ' := ⟨h.1, fun n hn _ => h.2 n hn⟩
theorem Goes.unlk {n : Nat} {r : R Fl} {kvs : List (Key × Val)} {P : Rho → Mu → Prop} (h : Goes r fun ρ μ => μ.ob n = some (.rod kvs) ∧ P ρ (μ.put n (.dct kvs))) : Goes (unlk n r) P := by
  obtain ⟨ρ, μ, rfl, h1, h2⟩ := h.ex
  unfold Wn.unlk
  simp only [h1]
  exact h2
theorem key_items {μ : Mu} {t : Nat} {ks : List (Key × Val)} (h : μ.ob t = some (.rod ks)) : (Wk.key t).items μ = some (ks.map fun p => keyV p.1) := by
  unfold Wk.items
  simp only [h]
def up {α : Type} (g : Nat → α) (j : Nat) (x : α) : Nat → α := fun i => if i = j then x else g i
theorem test2 {f : Val → Val → Mu → R Val} {A B : ME} {ρ : Rho} {μ μ1 μ2 μ3 : Mu} {a b : Val} {c : Bool} (hA : A ρ μ = .ok a μ1) (hB : B ρ μ1 = .ok b μ2) (hf : f a b μ2 = .ok (.bl c) μ3) : mTest (mOp f A B) ρ μ = .ok c μ3 := by
  unfold mTest mOp
  rw [hA, R.bind_ok, hB, R.bind_ok, hf]
  rfl
/-! ### tables and dicts, plainly -/
theorem kGet_put (kvs : List (Key × Val)) (k k' : Key) (v : Val) : kGet (kPut kvs k v) k' = if k' = k then some v else kGet kvs k' := by
  unfold kPut
  by_cases c : (kvs.any fun p => decide (p.1 = k)) = true
  · rw [if_pos c]
    induction kvs with
    | nil => cases c
    | cons p l ih =>
      rw [List.map_cons]
      by_cases e : p.1 = k
      · rw [if_pos e]
        by_cases e' : k' = k
        · rw [if_pos e', kGet_pos (show ((p.1, v) : Key × Val).1 = k' from e.trans e'.symm)]
        · rw [if_neg e', kGet_neg (show ¬ ((p.1, v) : Key × Val).1 = k' from fun z => e' (z.symm.trans e)), kGet_neg (show ¬ p.1 = k' from fun z => e' (z.symm.trans e))]
          by_cases d : (l.any fun p => decide (p.1 = k)) = true
          · rw [ih d, if_neg e']
          · have : (l.map fun p => if p.1 = k then (p.1, v) else p) = l := by
              have h : ∀ q ∈ l, ¬ q.1 = k := fun q hq z => d (List.any_eq_true.mpr ⟨q, hq, decide_eq_true z⟩)
              clear ih c d
              induction l with
              | nil => rfl
              | cons q l ih2 => rw [List.map_cons, if_neg (h q List.mem_cons_self), ih2 fun r hr => h r (List.mem_cons_of_mem _ hr)]
            rw [this]
      · rw [if_neg e]
        have d : (l.any fun p => decide (p.1 = k)) = true := by
          rw [List.any_cons, decide_eq_false e, Bool.false_or] at c
          exact c
        by_cases e' : p.1 = k'
        · rw [kGet_pos e', kGet_pos e', if_neg (fun z => e (e'.trans z))]
        · rw [kGet_neg e', kGet_neg e', ih d]
  · rw [if_neg c]
    have h : ∀ q ∈ kvs, ¬ q.1 = k := fun q hq z => c (List.any_eq_true.mpr ⟨q, hq, decide_eq_true z⟩)
    clear c
    induction kvs with
    | nil =>
      rw [List.nil_append]
      by_cases e : k' = k
      · rw [if_pos e, kGet_pos e.symm]
      · rw [if_neg e, kGet_neg (Ne.symm e)]
    | cons p l ih =>
      rw [List.cons_append]
      by_cases e : p.1 = k'
      · rw [kGet_pos e, kGet_pos e, if_neg (fun z => h p List.mem_cons_self (e.trans z))]
      · rw [kGet_neg e, kGet_neg e, ih fun r hr => h r (List.mem_cons_of_mem _ hr)]
theorem kGet_drop (kvs : List (Key × Val)) (k k' : Key) : kGet (kDrop kvs k) k' = if k' = k then none else kGet kvs k' := by
  unfold kDrop
  induction kvs with
  | nil => split <;> rfl
  | cons p l ih =>
    by_cases e : p.1 = k
    · rw [List.filter_cons_of_neg (by simp [e]), ih]
      split
      · rfl
      · rename_i d
        rw [kGet_neg (fun z => d (z.symm.trans e))]
    · rw [List.filter_cons_of_pos (by simp [e])]
      by_cases e' : p.1 = k'
      · rw [kGet_pos e', kGet_pos e', if_neg (fun z => e (e'.trans z))]
      · rw [kGet_neg e', kGet_neg e', ih]
theorem kGet_mem {kvs : List (Key × Val)} {k : Key} : k ∈ kvs.map (·.1) ↔ (kGet kvs k).isSome = true := by
  induction kvs with
  | nil => simp [kGet]
  | cons p l ih =>
    rw [List.map_cons, List.mem_cons]
    by_cases e : p.1 = k
    · rw [kGet_pos e]
      simp [e]
    · rw [kGet_neg e, ← ih]
      constructor
      · rintro (z | z)
        · exact (e z.symm).elim
        · exact z
      · exact .inr
theorem kPut_old {kvs : List (Key × Val)} {k : Key} {v : Val} (h : k ∈ kvs.map (·.1)) : (kPut kvs k v).map (·.1) = kvs.map (·.1) := by
  have c : (kvs.any fun p => decide (p.1 = k)) = true := by
    obtain ⟨q, hq, e⟩ := List.mem_map.mp h
    exact List.any_eq_true.mpr ⟨q, hq, decide_eq_true e⟩
  unfold kPut
  rw [if_pos c, List.map_map]
  refine List.map_congr_left fun q _ => ?_
  show (if q.1 = k then (q.1, v) else q).1 = q.1
  split <;> rfl
theorem kPut_new {kvs : List (Key × Val)} {k : Key} {v : Val} (h : k ∉ kvs.map (·.1)) : (kPut kvs k v).map (·.1) = kvs.map (·.1) ++ [k] := by
  have c : ¬ (kvs.any fun p => decide (p.1 = k)) = true := fun z => by
    obtain ⟨q, hq, e⟩ := List.any_eq_true.mp z
    exact h (List.mem_map.mpr ⟨q, hq, of_decide_eq_true e⟩)
  unfold kPut
  rw [if_neg c, List.map_append]
  rfl
/-- a dict tells of each number of a table what its serial stands for -/
structure DR (kvs : List (Key × Val)) (rows : List (Int × Int)) (g : Int → Val) : Prop where
  nd : (kvs.map (·.1)).Nodup
  int : ∃ l : List Int, kvs.map (·.1) = l.map Sum.inl
  get : ∀ n : Int, kGet kvs (.inl n) = (lk rows n).map g
theorem DR.nil (g : Int → Val) : DR [] [] g := ⟨List.nodup_nil, ⟨[], rfl⟩, fun _ => rfl⟩
theorem intK_of : ∀ {kvs : List (Key × Val)} {l : List Int}, kvs.map (·.1) = l.map Sum.inl → intK kvs = some l
  | [], [], _ => rfl
  | (k, v) :: r, i :: l, h => by
    simp only [List.map_cons, List.cons.injEq] at h
    obtain ⟨h1, h2⟩ := h
    subst h1
    rw [intK, intK_of h2]
  | [], _ :: _, h => by simp at h
  | _ :: _, [], h => by simp at h
section
variable {kvs : List (Key × Val)} {rows rows' : List (Int × Int)} {g g' : Int → Val}
theorem DR.put (h : DR kvs rows g) {k ser : Int} (hr : ∀ n, lk rows' n = if n = k then some ser else lk rows n) : DR (kPut kvs (.inl k) (g ser)) rows' g := by
  obtain ⟨l, hl⟩ := h.int
  refine ⟨?_, ?_, fun n => ?_⟩
  · by_cases c : (Sum.inl k : Key) ∈ kvs.map (·.1)
    · rw [kPut_old c]
      exact h.nd
    · rw [kPut_new c]
      exact List.nodup_append.mpr ⟨h.nd, by simp, fun a ha b hb => by
        rw [List.mem_singleton.mp hb]
        exact fun z => c (z ▸ ha)⟩
  · by_cases c : (Sum.inl k : Key) ∈ kvs.map (·.1)
    · rw [kPut_old c]
      exact ⟨l, hl⟩
    · rw [kPut_new c]
      exact ⟨l ++ [k], by rw [hl, List.map_append]; rfl⟩
  · rw [kGet_put, hr]
    by_cases c : n = k
    · rw [if_pos (by rw [c]), if_pos c]
      rfl
    · rw [if_neg (fun z => c (Sum.inl.inj z)), if_neg c]
      exact h.get n
theorem DR.drop (h : DR kvs rows g) {k : Int} (hr : ∀ n, lk rows' n = if n = k then none else lk rows n) : DR (kDrop kvs (.inl k)) rows' g := by
  obtain ⟨l, hl⟩ := h.int
  have sub : ((kDrop kvs (.inl k)).map (·.1)).Sublist (kvs.map (·.1)) := List.Sublist.map _ List.filter_sublist
  refine ⟨h.nd.sublist sub, ?_, fun n => ?_⟩
  · refine ⟨l.filter fun i => decide (i ≠ k), ?_⟩
    unfold kDrop
    clear sub h
    induction kvs generalizing l with
    | nil =>
      cases l with
      | nil => rfl
      | cons i l => simp at hl
    | cons p r ih =>
      cases l with
      | nil => simp at hl
      | cons i l =>
        simp only [List.map_cons, List.cons.injEq] at hl
        by_cases c : i = k
        · rw [List.filter_cons_of_neg (by simp [hl.1, c]), List.filter_cons_of_neg (by simp [c])]
          exact ih l hl.2
        · rw [List.filter_cons_of_pos (by simp [hl.1, c]), List.filter_cons_of_pos (by simp [c]), List.map_cons, List.map_cons, ih l hl.2, hl.1]
  · rw [kGet_drop, hr]
    by_cases c : n = k
    · rw [if_pos (by rw [c]), if_pos c]
      rfl
    · rw [if_neg (fun z => c (Sum.inl.inj z)), if_neg c]
      exact h.get n
theorem DR.congr (h : DR kvs rows g) (e : ∀ n ser, lk rows n = some ser → g ser = g' ser) : DR kvs rows g' := by
  refine ⟨h.nd, h.int, fun n => ?_⟩
  rw [h.get n]
  cases c : lk rows n with
  | none => rfl
  | some ser => exact congrArg some (e n ser c)
theorem DR.keys (h : DR kvs rows g) : ∃ l : List Int, intK kvs = some l ∧ kvs.map (·.1) = l.map Sum.inl ∧ l.Nodup ∧ ∀ n, n ∈ l ↔ n ∈ rows.map (·.1) := by
  obtain ⟨l, hl⟩ := h.int
  refine ⟨l, intK_of hl, hl, ?_, fun n => ?_⟩
  · have := h.nd
    rw [hl] at this
    exact (List.pairwise_map.mp this).imp fun h z => h (by rw [z])
  · have e1 : n ∈ l ↔ (Sum.inl n : Key) ∈ kvs.map (·.1) := by
      rw [hl]
      constructor
      · exact fun z => List.mem_map.mpr ⟨n, z, rfl⟩
      · intro z
        obtain ⟨i, hi, e⟩ := List.mem_map.mp z
        cases e
        exact hi
    rw [e1, kGet_mem, h.get n]
    cases c : lk rows n with
    | none => simp [lk_none.mp c]
    | some ser =>
      have : n ∈ rows.map (·.1) := List.mem_map.mpr ⟨_, lk_mem c, rfl⟩
      simp [this]
theorem DR.perm (h : DR kvs rows g) (nd : (rows.map (·.1)).Nodup) : ∃ l : List Int, intK kvs = some l ∧ kvs.map (·.1) = l.map Sum.inl ∧ l.Perm (rows.map (·.1)) := by
  obtain ⟨l, h1, h2, h3, h4⟩ := h.keys
  exact ⟨l, h1, h2, (List.perm_ext_iff_of_nodup h3 nd).mpr h4⟩
theorem DR.len (h : DR kvs rows g) (nd : (rows.map (·.1)).Nodup) : kvs.length = rows.length := by
  obtain ⟨l, _, h2, h3⟩ := h.perm nd
  have e1 := congrArg List.length h2
  have e2 := h3.length_eq
  simp only [List.length_map] at e1 e2
  omega
end
theorem srtI_perm_eq {l m : List Int} (h : l.Perm m) : srtI l = srtI m := srtI_eq ((srtI_perm l).trans h) (srtI_pw l)
theorem sortD_ok {μ : Mu} {t : Nat} {kvs : List (Key × Val)} {rows : List (Int × Int)} {g : Int → Val} (ht : dctOf μ t = some kvs) (h : DR kvs rows g) (nd : (rows.map (·.1)).Nodup) (hz : rows.length < 64) : sortDM [.loc t] μ = .ok (.loc μ.nx) (μ.new (.lst ((srtI (rows.map (·.1))).map Val.int))) := by
  obtain ⟨l, h1, h2, h3⟩ := h.perm nd
  have e2 := h3.length_eq
  rw [List.length_map] at e2
  unfold sortDM
  simp only [ht, h1]
  rw [if_pos (by omega), srtI_perm_eq h3]

/-! ### systems of one process, plainly -/
structure S1 (z : Int) (v : Sv) (rows : List (Int × Int)) : Prop where
  wf : WF v
  nz : v.N = z
  tab : v.tabs = [(0, rows)]
  md : 0 ≤ v.made
theorem S1.new {P z : Int} (h1 : 2 ≤ P ∧ P ≤ 6) (h2 : 3 ≤ z ∧ z ≤ 8) : S1 z (newSv P z) [] := ⟨WF.new h1 h2, rfl, rfl, Int.le_refl _⟩
theorem upAt_one {α : Type} (x : α) (f : α → α) : upAt [((0 : Int), x)] 0 f = [(0, f x)] := rfl
section
variable {z : Int} {v : Sv} {rows : List (Int × Int)}
theorem S1.lk0 (h : S1 z v rows) : lk v.tabs 0 = some rows := by rw [h.tab]; rfl
theorem S1.nd (h : S1 z v rows) : (rows.map (·.1)).Nodup := h.wf.ndn (0, rows) (by rw [h.tab]; simp)
theorem S1.rn (h : S1 z v rows) {n : Int} (hn : n ∈ rows.map (·.1)) : 0 ≤ n ∧ n < z := by
  obtain ⟨r, hr, rfl⟩ := List.mem_map.mp hn
  have := h.wf.rn (0, rows) (by rw [h.tab]; simp) r hr
  rw [h.nz] at this
  exact this
theorem S1.len (h : S1 z v rows) : rows.length ≤ 8 := h.wf.rows8 (t := (0, rows)) (by rw [h.tab]; simp)
theorem S1.ser (h : S1 z v rows) {n ser : Int} (hn : lk rows n = some ser) : (∃ tv, lk v.ths ser = some tv) ∧ 0 ≤ ser ∧ ser < v.made := by
  have m := h.wf.th (0, rows) (by rw [h.tab]; simp) _ (lk_mem hn)
  obtain ⟨tv, htv⟩ := lk_some_of m
  exact ⟨⟨tv, htv⟩, h.wf.rs _ (lk_mem htv)⟩
theorem S1.fresh (h : S1 z v rows) : lk v.ths v.made = none := lk_none.mpr fun c => by
  obtain ⟨t, ht, e⟩ := List.mem_map.mp c
  have := h.wf.rs t ht
  omega
theorem S1.place (h : S1 z v rows) {k : Int} {tv : Tv} (hk : lowFree (rows.map (·.1)) v.N = some k) (ht : tv.fresh) : S1 z (v.place 0 k tv) (rows ++ [(k, v.made)]) ∧ lk rows k = none := by
  obtain ⟨k1, k2, k3⟩ := lowFree_spec hk
  refine ⟨⟨h.wf.place h.lk0 ⟨k1, k2, k3⟩ ht h.md, h.nz, ?_, ?_⟩, lk_none.mpr k3⟩
  · show upAt v.tabs 0 (· ++ [(k, v.made)]) = _
    rw [h.tab, upAt_one]
  · show 0 ≤ v.made + 1
    have := h.md
    omega
theorem S1.addRow (h : S1 z v rows) {k n ser : Int} (hk : 0 ≤ k ∧ k < z) (hf : lk rows k = none) (hn : lk rows n = some ser) : S1 z (v.addRow 0 k ser) (rows ++ [(k, ser)]) := by
  obtain ⟨⟨tv, htv⟩, _⟩ := h.ser hn
  refine ⟨h.wf.addRow h.lk0 ⟨hk.1, by rw [h.nz]; exact hk.2, lk_none.mp hf⟩ (List.mem_map.mpr ⟨_, lk_mem htv, rfl⟩), h.nz, ?_, h.md⟩
  show upAt v.tabs 0 (· ++ [(k, ser)]) = _
  rw [h.tab, upAt_one]
theorem fgt_kin (ser : Int) (t : Tv) : (fgtT ser t).kind = t.kind := by cases t <;> rfl
/-- a number closed: what the others stand for stays -/
theorem S1.close (h : S1 z v rows) {n ser : Int} (hn : lk rows n = some ser) : S1 z (closeV v 0 n ser) (dr rows n) ∧ (closeV v 0 n ser).made = v.made ∧
    ∀ m s, lk (dr rows n) m = some s → (lk (closeV v 0 n ser).ths s).map Tv.kind = (lk v.ths s).map Tv.kind ∧ ∀ u f, lk v.ths s = some (.src u f) → lk (closeV v 0 n ser).ths s = some (.src u f) := by
  have hc : (v.cut 0 n).tabs = [(0, dr rows n)] := by
    show upAt v.tabs 0 (fun r => dr r n) = _
    rw [h.tab, upAt_one]
  have w0 := h.wf.cut0 0 n
  have wf := h.wf.close h.lk0 hn
  by_cases c : holds (v.cut 0 n).tabs ser = []
  · have e : closeV v 0 n ser = ((v.cut 0 n).gone ser).fgt ser := if_pos c
    rw [e] at wf ⊢
    refine ⟨⟨wf, h.nz, hc, h.md⟩, rfl, fun m s hm => ?_⟩
    have ne : s ≠ ser := fun z => by
      subst z
      exact holds_of w0 ⟨(0, dr rows n), by rw [hc]; simp, _, lk_mem hm, rfl⟩ c
    have el : lk (((v.cut 0 n).gone ser).fgt ser).ths s = (lk v.ths s).map (fgtT ser) := by
      show lk ((dr v.ths ser).map fun t => (t.1, fgtT ser t.2)) s = _
      rw [lk_mapK (fun _ t => fgtT ser t), lk_dr, if_neg ne]
    rw [el]
    refine ⟨?_, fun u f hs => by rw [hs]; rfl⟩
    cases lk v.ths s with
    | none => rfl
    | some t => exact congrArg some (fgt_kin ser t)
  · have e : closeV v 0 n ser = v.cut 0 n := if_neg c
    rw [e] at wf ⊢
    exact ⟨⟨wf, h.nz, hc, h.md⟩, rfl, fun m s hm => ⟨rfl, fun u f hs => hs⟩⟩
end
/-! ### k01, plainly -/
def updI (T : Int → Int) (a c : Int) : Int → Int := fun i => if i = a then c else T i
def kS (v : Sv) (ser : Int) : Str := match lk v.ths ser with
  | some t => t.kind
  | none => ""
theorem kS_eq {v v' : Sv} {s : Int} (h : (lk v'.ths s).map Tv.kind = (lk v.ths s).map Tv.kind) : kS v' s = kS v s := by
  unfold kS
  cases a : lk v.ths s with
  | none =>
    rw [a] at h
    cases b : lk v'.ths s with
    | none => rfl
    | some t => rw [b] at h; cases h
  | some t =>
    rw [a] at h
    cases b : lk v'.ths s with
    | none => rw [b] at h; cases h
    | some t' => rw [b] at h; exact Option.some.inj h
def g01 (v : Sv) (T : Int → Int) (ser : Int) : Val := .tup [.int (T ser), .str (kS v ser)]
structure K01 (z c : Int) (v : Sv) (rows : List (Int × Int)) (T : Int → Int) : Prop extends S1 z v rows where
  inj : ∀ a b, 0 ≤ a → a < v.made → 0 ≤ b → b < v.made → T a = T b → a = b
  bd : ∀ a, 0 ≤ a → a < v.made → 0 ≤ T a ∧ T a < c
  mc : v.made ≤ c
section
variable {z c : Int} {v : Sv} {rows : List (Int × Int)} {T : Int → Int} {kvs : List (Key × Val)}
theorem K01.more (h : K01 z c v rows T) : K01 z (c + 1) v rows T := ⟨h.toS1, h.inj, fun a h0 h1 => by have := h.bd a h0 h1; omega, by have := h.mc; omega⟩
theorem K01.place (h : K01 z c v rows T) (c0 : 0 ≤ c) {k : Int} {tv : Tv} (hk : lowFree (rows.map (·.1)) v.N = some k) (ht : tv.fresh) (d : DR kvs rows (g01 v T)) :
    K01 z (c + 1) (v.place 0 k tv) (rows ++ [(k, v.made)]) (updI T v.made c) ∧ DR (kPut kvs (.inl k) (.tup [.int c, .str tv.kind])) (rows ++ [(k, v.made)]) (g01 (v.place 0 k tv) (updI T v.made c)) := by
  obtain ⟨s1, s2⟩ := h.toS1.place hk ht
  have hm : (v.place 0 k tv).made = v.made + 1 := rfl
  have hths : ∀ n, lk (v.place 0 k tv).ths n = if n = v.made then some tv else lk v.ths n := fun n => lk_snoc h.toS1.fresh
  refine ⟨⟨s1, fun a b a0 a1 b0 b1 e => ?_, fun a a0 a1 => ?_, ?_⟩, ?_⟩
  · rw [hm] at a1 b1
    unfold updI at e
    by_cases ea : a = v.made
    · by_cases eb : b = v.made
      · omega
      · rw [if_pos ea, if_neg eb] at e
        have := h.bd b b0 (by omega)
        omega
    · by_cases eb : b = v.made
      · rw [if_neg ea, if_pos eb] at e
        have := h.bd a a0 (by omega)
        omega
      · rw [if_neg ea, if_neg eb] at e
        exact h.inj a b a0 (by omega) b0 (by omega) e
  · rw [hm] at a1
    unfold updI
    split
    · omega
    · have := h.bd a a0 (by omega)
      omega
  · rw [hm]
    have := h.mc
    omega
  · have d1 : DR kvs rows (g01 (v.place 0 k tv) (updI T v.made c)) := d.congr fun n ser hn => by
      obtain ⟨_, b0, b1⟩ := h.toS1.ser hn
      unfold g01 updI
      rw [if_neg (by omega), kS_eq (v' := v.place 0 k tv) (v := v) (by rw [hths, if_neg (by omega)])]
    have e : g01 (v.place 0 k tv) (updI T v.made c) v.made = .tup [.int c, .str tv.kind] := by
      unfold g01 updI kS
      rw [if_pos rfl, hths, if_pos rfl]
    have := d1.put (rows' := rows ++ [(k, v.made)]) (k := k) (ser := v.made) fun n => lk_snoc s2
    rw [e] at this
    exact this
theorem K01.addRow (h : K01 z c v rows T) {k n ser : Int} (hk : lowFree (rows.map (·.1)) v.N = some k) (hn : lk rows n = some ser) (d : DR kvs rows (g01 v T)) :
    K01 z c (v.addRow 0 k ser) (rows ++ [(k, ser)]) T ∧ DR (kPut kvs (.inl k) (g01 v T ser)) (rows ++ [(k, ser)]) (g01 (v.addRow 0 k ser) T) := by
  obtain ⟨k1, k2, k3⟩ := lowFree_spec hk
  rw [h.nz] at k2
  have s2 : lk rows k = none := lk_none.mpr k3
  exact ⟨⟨h.toS1.addRow ⟨k1, k2⟩ s2 hn, h.inj, h.bd, h.mc⟩, d.put (rows' := rows ++ [(k, ser)]) (k := k) (ser := ser) fun n => lk_snoc s2⟩
theorem K01.close (h : K01 z c v rows T) {n ser : Int} (hn : lk rows n = some ser) (d : DR kvs rows (g01 v T)) :
    K01 z c (closeV v 0 n ser) (dr rows n) T ∧ DR (kDrop kvs (.inl n)) (dr rows n) (g01 (closeV v 0 n ser) T) := by
  obtain ⟨s1, s2, s3⟩ := h.toS1.close hn
  refine ⟨⟨s1, by rw [s2]; exact h.inj, by rw [s2]; exact h.bd, by rw [s2]; exact h.mc⟩, ?_⟩
  have d1 := d.drop (rows' := dr rows n) (k := n) fun m => lk_dr rows
  refine d1.congr fun m s hm => ?_
  unfold g01
  rw [kS_eq (s3 m s hm).1]
end

/-! ### k02, plainly -/
theorem sub_len : ∀ {l m : List Int}, l.Nodup → (∀ x ∈ l, x ∈ m) → l.length ≤ m.length
  | [], _, _, _ => Nat.zero_le _
  | x :: l, m, nd, h => by
    obtain ⟨n1, n2⟩ := List.nodup_cons.mp nd
    have hx := h x List.mem_cons_self
    have := sub_len (m := m.erase x) n2 fun y hy => (List.mem_erase_of_ne (fun z : y = x => n1 (z ▸ hy))).mpr (h y (List.mem_cons_of_mem _ hy))
    rw [List.length_erase_of_mem hx] at this
    have : 0 < m.length := List.length_pos_of_mem hx
    rw [List.length_cons]
    omega
theorem low_some {used : List Int} {n : Int} (h : (used.length : Int) < n) : ∃ k, lowFree used n = some k := by
  cases e : lowFree used n with
  | some k => exact ⟨k, rfl⟩
  | none =>
    exfalso
    unfold lowFree at e
    rw [List.find?_eq_none] at e
    have := sub_len (l := (List.range n.toNat).map fun (k : Nat) => (k : Int)) (m := used) (List.pairwise_map.mpr (List.nodup_range.imp fun h z => h (by omega))) (fun x hx => by simpa using e x hx)
    rw [List.length_map, List.length_range] at this
    omega
theorem updI_two (T : Int → Int) (a c d : Int) : updI (updI T a c) a d = updI T a d := by
  funext i
  unfold updI
  split <;> rfl
theorem updI_same (T : Int → Int) (a c : Int) : updI T a c a = c := if_pos rfl
theorem updI_ne (T : Int → Int) {a i : Int} (c : Int) (h : i ≠ a) : updI T a c i = T i := if_neg h
def g02 (T : Int → Int) (ser : Int) : Val := .int (T ser)
structure K02 (z c : Int) (v : Sv) (rows : List (Int × Int)) (T U : Int → Int) : Prop extends S1 z v rows where
  inj : ∀ a b, 0 ≤ a → a < v.made → 0 ≤ b → b < v.made → T a = T b → a = b
  bd : ∀ a, 0 ≤ a → a < v.made → 0 ≤ T a ∧ T a < c
  mc : v.made ≤ c
  src : ∀ n ser, lk rows n = some ser → lk v.ths ser = some (.src (U ser) false)
structure UR (uks : List (Key × Val)) (made c : Int) (T U : Int → Int) : Prop where
  get : ∀ a, 0 ≤ a → a < made → kGet uks (.inl (T a)) = some (.int (U a))
  len : (uks.length : Int) ≤ c
section
variable {z c : Int} {v : Sv} {rows : List (Int × Int)} {T U : Int → Int} {kvs uks : List (Key × Val)}
theorem K02.more (h : K02 z c v rows T U) : K02 z (c + 1) v rows T U := ⟨h.toS1, h.inj, fun a h0 h1 => by have := h.bd a h0 h1; omega, by have := h.mc; omega, h.src⟩
theorem UR.more {made : Int} (h : UR uks made c T U) : UR uks made (c + 1) T U := ⟨h.get, by have := h.len; omega⟩
theorem K02.place (h : K02 z c v rows T U) (c0 : 0 ≤ c) {k : Int} (hk : lowFree (rows.map (·.1)) v.N = some k) :
    K02 z (c + 1) (v.place 0 k (.src 0 false)) (rows ++ [(k, v.made)]) (updI T v.made c) (updI U v.made 0) ∧ lk rows k = none := by
  obtain ⟨s1, s2⟩ := h.toS1.place (tv := .src 0 false) hk (show (0 : Int) ≤ 0 by decide)
  have hm : (v.place 0 k (.src 0 false)).made = v.made + 1 := rfl
  have hths : ∀ n, lk (v.place 0 k (.src 0 false)).ths n = if n = v.made then some (.src 0 false) else lk v.ths n := fun n => lk_snoc h.toS1.fresh
  refine ⟨⟨s1, fun a b a0 a1 b0 b1 e => ?_, fun a a0 a1 => ?_, ?_, fun n ser hn => ?_⟩, s2⟩
  · rw [hm] at a1 b1
    unfold updI at e
    by_cases ea : a = v.made
    · by_cases eb : b = v.made
      · omega
      · rw [if_pos ea, if_neg eb] at e
        have := h.bd b b0 (by omega)
        omega
    · by_cases eb : b = v.made
      · rw [if_neg ea, if_pos eb] at e
        have := h.bd a a0 (by omega)
        omega
      · rw [if_neg ea, if_neg eb] at e
        exact h.inj a b a0 (by omega) b0 (by omega) e
  · rw [hm] at a1
    unfold updI
    split
    · omega
    · have := h.bd a a0 (by omega)
      omega
  · rw [hm]
    have := h.mc
    omega
  · rw [lk_snoc s2] at hn
    rw [hths]
    by_cases e : n = k
    · rw [if_pos e] at hn
      cases hn
      rw [if_pos rfl, updI_same]
    · rw [if_neg e] at hn
      obtain ⟨_, b0, b1⟩ := h.toS1.ser hn
      rw [if_neg (by omega), updI_ne _ _ (by omega)]
      exact h.src n ser hn
theorem K02.arr (h : K02 z c v rows T U) {k ser u : Int} (hs : lk rows k = some ser) (u0 : 0 ≤ u) : K02 z c ((v.re ser (.src u false)).pend ser) rows T (updI U ser u) := by
  have wf : WF ((v.re ser (.src u false)).pend ser) := (h.toS1.wf.re (tv' := .src u false) (h.src k ser hs) rfl (fun es row e => (nomatch e))).pend _
  refine ⟨⟨wf, h.nz, h.tab, h.md⟩, h.inj, h.bd, h.mc, fun n s hn => ?_⟩
  rw [pend_lk, re_lk (h.src k ser hs)]
  by_cases e : s = ser
  · subst e
    rw [if_pos rfl, updI_same]
    rfl
  · rw [if_neg e, updI_ne _ _ e, h.src n s hn]
    rfl
theorem K02.close (h : K02 z c v rows T U) {n ser : Int} (hn : lk rows n = some ser) : K02 z c (closeV v 0 n ser) (dr rows n) T U ∧ (closeV v 0 n ser).made = v.made := by
  obtain ⟨s1, s2, s3⟩ := h.toS1.close hn
  refine ⟨⟨s1, by rw [s2]; exact h.inj, by rw [s2]; exact h.bd, by rw [s2]; exact h.mc, fun m s hm => (s3 m s hm).2 _ _ (h.src m s ?_)⟩, s2⟩
  rw [lk_dr] at hm
  split at hm
  · cases hm
  · exact hm
theorem K02.copy (h : K02 z c v rows T U) {k n ser : Int} (hk : 0 ≤ k ∧ k < z) (hn : lk rows n = some ser) :
    ∃ rows', K02 z c (copyV v 0 k ser rows) rows' T U ∧ (copyV v 0 k ser rows).made = v.made ∧ ∀ m, lk rows' m = if m = k then some ser else lk rows m := by
  unfold copyV
  cases e : lk rows k with
  | none =>
    refine ⟨_, ⟨h.toS1.addRow hk e hn, h.inj, h.bd, h.mc, fun m s hm => ?_⟩, rfl, fun m => lk_snoc e⟩
    rw [lk_snoc e] at hm
    split at hm
    · cases hm
      exact h.src n ser hn
    · exact h.src m s hm
  | some old =>
    simp only
    by_cases c1 : old = ser
    · subst c1
      rw [if_pos rfl]
      refine ⟨rows, h, rfl, fun m => ?_⟩
      split
      · rename_i q
        rw [q, e]
      · rfl
    · rw [if_neg c1]
      obtain ⟨h1, m1⟩ := h.close e
      have nk : n ≠ k := fun z => by
        rw [z, e] at hn
        exact c1 (Option.some.inj hn)
      have e1 : lk (dr rows k) k = none := by rw [lk_dr, if_pos rfl]
      have n1 : lk (dr rows k) n = some ser := by rw [lk_dr, if_neg nk, hn]
      refine ⟨_, ⟨h1.toS1.addRow hk e1 n1, h1.inj, h1.bd, h1.mc, fun m s hm => ?_⟩, m1, fun m => ?_⟩
      · rw [lk_snoc e1] at hm
        split at hm
        · cases hm
          exact h1.src n ser n1
        · exact h1.src m s hm
      · rw [lk_snoc e1, lk_dr]
        split <;> rfl
theorem UR.put {made w : Int} (h : UR uks made c T U) (bd : ∀ a, 0 ≤ a → a < made → 0 ≤ T a ∧ T a < c) : UR (kPut uks (.inl c) (.int w)) (made + 1) (c + 1) (updI T made c) (updI U made w) := by
  refine ⟨fun a a0 a1 => ?_, ?_⟩
  · rw [kGet_put]
    by_cases e : a = made
    · rw [e, updI_same, updI_same, if_pos rfl]
    · rw [updI_ne _ _ e, updI_ne _ _ e]
      have := bd a a0 (by omega)
      rw [if_neg (fun z => by have := Sum.inl.inj z; omega)]
      exact h.get a a0 (by omega)
  · have := h.len
    unfold kPut
    split
    · rw [List.length_map]
      omega
    · rw [List.length_append]
      show ((uks.length + 1 : Nat) : Int) ≤ _
      omega
end
structure M02 (μ : Mu) (b x t u : Nat) (z : Nat) (c : Int) (v : Sv) (rows : List (Int × Int)) (T U : Int → Int) : Prop where
  bg : Bag μ b
  hx : μ.ob x = some (.sys v)
  K : K02 (z : Int) c v rows T U
  dt : ∃ kvs, μ.ob t = some (.dct kvs) ∧ DR kvs rows (g02 T)
  du : ∃ uks, μ.ob u = some (.dct uks) ∧ UR uks v.made c T U
  xl : x < μ.nx
  tl : t < μ.nx
  ul : u < μ.nx
  ne : b ≠ x ∧ b ≠ t ∧ b ≠ u ∧ x ≠ t ∧ x ≠ u ∧ t ≠ u
section
variable {μ μ' : Mu} {b x t u : Nat} {z : Nat} {c : Int} {v : Sv} {rows : List (Int × Int)} {T U : Int → Int}
theorem M02.keep (h : M02 μ b x t u z c v rows T U) {S : List Nat} (kp : Kee S μ μ') (bg : Bag μ' b) (nx : x ∉ S) (nt : t ∉ S) (nu : u ∉ S) : M02 μ' b x t u z c v rows T U := by
  obtain ⟨kvs, d1, d2⟩ := h.dt
  obtain ⟨uks, u1, u2⟩ := h.du
  exact ⟨bg, (kp.ob _ h.xl nx).trans h.hx, h.K, ⟨kvs, (kp.ob _ h.tl nt).trans d1, d2⟩, ⟨uks, (kp.ob _ h.ul nu).trans u1, u2⟩, kp.lt h.xl, kp.lt h.tl, kp.lt h.ul, h.ne⟩
theorem M02.draw (h : M02 μ b x t u z c v rows T U) (kp : Kee [b] μ μ') (bg : Bag μ' b) : M02 μ' b x t u z c v rows T U := h.keep kp bg (by simp [Ne.symm h.ne.1]) (by simp [Ne.symm h.ne.2.1]) (by simp [Ne.symm h.ne.2.2.1])
theorem M02.any (h : M02 μ b x t u z c v rows T U) (kp : Kee [] μ μ') : M02 μ' b x t u z c v rows T U := h.keep kp (h.bg.keep kp (by simp)) (by simp) (by simp) (by simp)
theorem M02.more (h : M02 μ b x t u z c v rows T U) : M02 μ b x t u z (c + 1) v rows T U := by
  obtain ⟨uks, u1, u2⟩ := h.du
  exact ⟨h.bg, h.hx, h.K.more, h.dt, ⟨uks, u1, u2.more⟩, h.xl, h.tl, h.ul, h.ne⟩
/-- the system and the table are changed -/
theorem M02.set (h : M02 μ b x t u z c v rows T U) (kp : Kee [x, t] μ μ') {v' : Sv} {rows' : List (Int × Int)} {kvs' : List (Key × Val)} (hx : μ'.ob x = some (.sys v')) (K : K02 (z : Int) c v' rows' T U) (ht : μ'.ob t = some (.dct kvs')) (d : DR kvs' rows' (g02 T)) (hm : v'.made = v.made) : M02 μ' b x t u z c v' rows' T U := by
  obtain ⟨uks, u1, u2⟩ := h.du
  obtain ⟨n1, n2, n3, n4, n5, n6⟩ := h.ne
  exact ⟨h.bg.keep kp (by simp [n1, n2]), hx, K, ⟨kvs', ht, d⟩, ⟨uks, (kp.ob _ h.ul (by simp [Ne.symm n5, Ne.symm n6])).trans u1, by rw [hm]; exact u2⟩, kp.lt h.xl, kp.lt h.tl, kp.lt h.ul, h.ne⟩
end

/-! ### k02: a source is made -/
def r02 (s : Nat) (v1 : Option Val) (b z x t u : Nat) (c : Int) (v8 v9 v10 : Option Val) : Rho := [some (.loc s), v1, some (.loc b), some (.int (z : Int)), some (.loc x), some (.loc t), some (.loc u), some (.int c), v8, v9, v10]
section
variable {μ : Mu} {s b x t u : Nat} {z : Nat} {c : Int} {v : Sv} {rows : List (Int × Int)} {T U : Int → Int} {v1 v8 v9 v10 : Option Val}
theorem DR.len0 {kvs : List (Key × Val)} {g : Int → Val} (h : DR kvs rows g) (K : K02 (z : Int) c v rows T U) : kvs.length = rows.length := h.len K.toS1.nd
theorem add_eq (h : M02 μ b x t u z c v rows T U) (z8 : z ≤ 8) (c0 : 0 ≤ c) (c1 : c ≤ 1000) : Goes (m_law_5 (r02 s v1 b z x t u c v8 v9 v10) μ) fun ρ' μ' => (∃ v8, ρ' = r02 s v1 b z x t u c v8 v9 v10) ∧ (∃ v' rows' T' U', M02 μ' b x t u z (c + 1) v' rows' T' U') ∧ Kee [b, x, t, u] μ μ' := by
  obtain ⟨y, μ1, e1, y0, y1, k1, b1, n1⟩ := take_eq h.bg (n := 5) (by decide) (by decide)
  have h1 := h.draw k1 b1
  have kb : Kee [b, x, t, u] μ μ1 := k1.mono (by simp)
  obtain ⟨kvs, od, d⟩ := h1.dt
  obtain ⟨uks, ou, dur⟩ := h1.du
  obtain ⟨n_bx, n_bt, n_bu, n_xt, n_xu, n_tu⟩ := h.ne
  have hl := d.len0 h.K
  have h8 := h.K.toS1.len
  have ox := h1.hx
  have K := h1.K
  have Tt : mAnd (mTest (mOp eqM (mCall 2 d__law_take (mCons (mV 2) (mCons (mC (.int 5)) (mNil)))) (mC (.int 0)))) (mTest (mOp ltM (mFn lenDM (mCons (mV 5) (mNil))) (mV 3))) (r02 s v1 b z x t u c v8 v9 v10) μ = .ok ((y == 0) && decide ((rows.length : Int) < (z : Int))) μ1 := by
    unfold r02
    cases hy : (y == 0) with
    | false => simp only [mChain, isiM, sDst2, neD0M, Wn.R.bind_ok, Wn.R.bind_no, Wn.R.cut_ok, Wn.R.cut_no, sThen_nx, sThen_rt, sThen_bk, sThen_ct, mC, mV, mNil, mCons, mTup, mLst, mOp, mUn, mFn, mMt, boolM, mTest, mAnd, mOr, mNot, mIf, mBl, mAndV, mOrV, mNotV, mAndT, mOrT, truM, List.isEmpty_cons, List.isEmpty_nil, addM, subM, mulM, modM, fdivM, powM, negM, ltM, leM, gtM, geM, cmpI, isM', isntM, isNon, getM, dgetM, slM, mSl, mP, mP0, lenM, listM, tupleM, minM, maxM, absM, intM, sortedM, mBm, lstOf, appM, popM, extM, idxM, remLM, sNil, sSeq, sSet, sExpr, sRet, sRetN, sIf, sBrk, sCnt, sPar, sPar3, sAsg, tgN, tgT, unp, stoM, dstoM, sSto, Wk.items, iSeq, iRng1, iRng2, iEnm, mCall, mMeth, sysOf, onSys, mMethK, mMake, mMakeK, makM, mYes, mListR1, mListR2, intBM, startV, seqOf, keyOf, List.getElem?_cons_zero, List.getElem?_cons_succ, List.getElem?_nil, List.set_cons_zero, List.set_cons_succ, List.map_cons, List.map_nil, List.length_cons, List.length_nil, List.cons_append, List.nil_append, List.append_nil, List.replicate, Nat.reduceAdd, Nat.reduceSub, Nat.reduceLeDiff, Nat.reduceLT, Nat.reduceEqDiff, Int.reduceLT, Int.reduceLE, Int.reduceNeg, Int.reducePow, ite_true, ite_false, if_true, if_false, reduceIte, Bool.false_eq_true, Bool.true_eq_false, Bool.not_true, Bool.not_false, and_self, and_true, true_and, Mu.put_same, Mu.new_same, Mu.put_nx, Mu.new_nx, Nat.zero_add, Nat.le_refl, Goes_nx, Gets_ok, Rets_nx, Rets_rt, CMul, CDiv, CPow, or_true, true_or, or_self, not_true, not_false_iff, mDm, dctV, popDM, getDM, mDisp, mPrs, kvOf, decide_false, decide_true, Int.reduceToNat, Nat.reducePow, Int.reduceAdd, Int.reduceSub, Int.reduceMul, e1, eqM, dat_int, eqv_int, hy, Bool.false_and]
    | true => simp only [mChain, isiM, sDst2, neD0M, Wn.R.bind_ok, Wn.R.bind_no, Wn.R.cut_ok, Wn.R.cut_no, sThen_nx, sThen_rt, sThen_bk, sThen_ct, mC, mV, mNil, mCons, mTup, mLst, mOp, mUn, mFn, mMt, boolM, mTest, mAnd, mOr, mNot, mIf, mBl, mAndV, mOrV, mNotV, mAndT, mOrT, truM, List.isEmpty_cons, List.isEmpty_nil, addM, subM, mulM, modM, fdivM, powM, negM, ltM, leM, gtM, geM, cmpI, isM', isntM, isNon, getM, dgetM, slM, mSl, mP, mP0, lenM, listM, tupleM, minM, maxM, absM, intM, sortedM, mBm, lstOf, appM, popM, extM, idxM, remLM, sNil, sSeq, sSet, sExpr, sRet, sRetN, sIf, sBrk, sCnt, sPar, sPar3, sAsg, tgN, tgT, unp, stoM, dstoM, sSto, Wk.items, iSeq, iRng1, iRng2, iEnm, mCall, mMeth, sysOf, onSys, mMethK, mMake, mMakeK, makM, mYes, mListR1, mListR2, intBM, startV, seqOf, keyOf, List.getElem?_cons_zero, List.getElem?_cons_succ, List.getElem?_nil, List.set_cons_zero, List.set_cons_succ, List.map_cons, List.map_nil, List.length_cons, List.length_nil, List.cons_append, List.nil_append, List.append_nil, List.replicate, Nat.reduceAdd, Nat.reduceSub, Nat.reduceLeDiff, Nat.reduceLT, Nat.reduceEqDiff, Int.reduceLT, Int.reduceLE, Int.reduceNeg, Int.reducePow, ite_true, ite_false, if_true, if_false, reduceIte, Bool.false_eq_true, Bool.true_eq_false, Bool.not_true, Bool.not_false, and_self, and_true, true_and, Mu.put_same, Mu.new_same, Mu.put_nx, Mu.new_nx, Nat.zero_add, Nat.le_refl, Goes_nx, Gets_ok, Rets_nx, Rets_rt, CMul, CDiv, CPow, or_true, true_or, or_self, not_true, not_false_iff, mDm, dctV, popDM, getDM, mDisp, mPrs, kvOf, decide_false, decide_true, Int.reduceToNat, Nat.reducePow, Int.reduceAdd, Int.reduceSub, Int.reduceMul, e1, eqM, dat_int, eqv_int, hy, lenDM, dctOf, od, hl, Bool.true_and]
  unfold m_law_5
  cases hc : ((y == 0) && decide ((rows.length : Int) < (z : Int))) with
  | false =>
    rw [if_no (Tt.trans (by rw [hc]))]
    exact ⟨⟨_, rfl⟩, ⟨_, _, _, _, h1.more⟩, kb⟩
  | true =>
    rw [if_yes (Tt.trans (by rw [hc]))]
    have lz : (rows.length : Int) < (z : Int) := of_decide_eq_true (Bool.and_eq_true_iff.mp hc).2
    obtain ⟨k, hk⟩ := low_some (used := rows.map (·.1)) (n := v.N) (by rw [List.length_map, K.nz]; exact lz)
    obtain ⟨K2, lkn⟩ := K.place c0 hk
    have hm : 0 ≤ v.made ∧ v.made ≤ 1000000 := ⟨K.md, by have := K.mc; omega⟩
    have nw := new_ok (x := x) (μ := μ1) (.src 0 false) K.toS1.lk0 hm hk
    obtain ⟨μ2, hμ2⟩ : ∃ μ2, μ1.put x (.sys (v.place 0 k (.src 0 false))) = μ2 := ⟨_, rfl⟩
    rw [hμ2] at nw
    have k2 : Kee [x] μ1 μ2 := by rw [← hμ2]; exact Kee.put (by simp)
    have x2 : μ2.ob x = some (.sys (v.place 0 k (.src 0 false))) := by rw [← hμ2]; exact Mu.put_same _ _ _
    have A1 : sSet 8 (mMeth (newM (.src 0 false)) ([]) (mV 4) (mCons (mC (.int 0)) (mNil))) (r02 s v1 b z x t u c v8 v9 v10) μ1 = .ok (.nx (r02 s v1 b z x t u c (some (.int k)) v9 v10)) μ2 := by
      unfold r02
      simp only [mChain, isiM, sDst2, neD0M, Wn.R.bind_ok, Wn.R.bind_no, Wn.R.cut_ok, Wn.R.cut_no, sThen_nx, sThen_rt, sThen_bk, sThen_ct, mC, mV, mNil, mCons, mTup, mLst, mOp, mUn, mFn, mMt, boolM, mTest, mAnd, mOr, mNot, mIf, mBl, mAndV, mOrV, mNotV, mAndT, mOrT, truM, List.isEmpty_cons, List.isEmpty_nil, addM, subM, mulM, modM, fdivM, powM, negM, ltM, leM, gtM, geM, cmpI, isM', isntM, isNon, getM, dgetM, slM, mSl, mP, mP0, lenM, listM, tupleM, minM, maxM, absM, intM, sortedM, mBm, lstOf, appM, popM, extM, idxM, remLM, sNil, sSeq, sSet, sExpr, sRet, sRetN, sIf, sBrk, sCnt, sPar, sPar3, sAsg, tgN, tgT, unp, stoM, dstoM, sSto, Wk.items, iSeq, iRng1, iRng2, iEnm, mCall, mMeth, sysOf, onSys, mMethK, mMake, mMakeK, makM, mYes, mListR1, mListR2, intBM, startV, seqOf, keyOf, List.getElem?_cons_zero, List.getElem?_cons_succ, List.getElem?_nil, List.set_cons_zero, List.set_cons_succ, List.map_cons, List.map_nil, List.length_cons, List.length_nil, List.cons_append, List.nil_append, List.append_nil, List.replicate, Nat.reduceAdd, Nat.reduceSub, Nat.reduceLeDiff, Nat.reduceLT, Nat.reduceEqDiff, Int.reduceLT, Int.reduceLE, Int.reduceNeg, Int.reducePow, ite_true, ite_false, if_true, if_false, reduceIte, Bool.false_eq_true, Bool.true_eq_false, Bool.not_true, Bool.not_false, and_self, and_true, true_and, Mu.put_same, Mu.new_same, Mu.put_nx, Mu.new_nx, Nat.zero_add, Nat.le_refl, Goes_nx, Gets_ok, Rets_nx, Rets_rt, CMul, CDiv, CPow, or_true, true_or, or_self, not_true, not_false_iff, mDm, dctV, popDM, getDM, mDisp, mPrs, kvOf, decide_false, decide_true, Int.reduceToNat, Nat.reducePow, Int.reduceAdd, Int.reduceSub, Int.reduceMul, ox, nw]
    have b2 : Bag μ2 b := b1.keep k2 (by simp [n_bx])
    obtain ⟨w, μ3, e3, w0, w4, k3, b3, n3⟩ := take_eq b2 (n := 4) (by decide) (by decide)
    have t3 : μ3.ob t = some (.dct kvs) := (k3.ob _ (k2.lt h1.tl) (by simp [Ne.symm n_bt])).trans ((k2.ob _ h1.tl (by simp [Ne.symm n_xt])).trans od)
    have u3 : μ3.ob u = some (.dct uks) := (k3.ob _ (k2.lt h1.ul) (by simp [Ne.symm n_bu])).trans ((k2.ob _ h1.ul (by simp [Ne.symm n_xu])).trans ou)
    have x3 : μ3.ob x = some (.sys (v.place 0 k (.src 0 false))) := (k3.ob _ (k2.lt h1.xl) (by simp [Ne.symm n_bx])).trans x2
    obtain ⟨μ5, hμ5⟩ : ∃ μ5, (μ3.put t (.dct (kPut kvs (.inl k) (.int c)))).put u (.dct (kPut uks (.inl c) (.int w))) = μ5 := ⟨_, rfl⟩
    have k5 : Kee [t, u] μ3 μ5 := by rw [← hμ5]; exact (Kee.put (by simp)).trans (Kee.put (by simp))
    have u4 : (μ3.put t (.dct (kPut kvs (.inl k) (.int c)))).ob u = some (.dct uks) := (Mu.put_ne _ _ (Ne.symm n_tu)).trans u3
    have u5 : μ5.ob u = some (.dct (kPut uks (.inl c) (.int w))) := by rw [← hμ5]; exact Mu.put_same _ _ _
    have t5 : μ5.ob t = some (.dct (kPut kvs (.inl k) (.int c))) := by rw [← hμ5]; exact (Mu.put_ne _ _ n_tu).trans (Mu.put_same _ _ _)
    have x5 : μ5.ob x = some (.sys (v.place 0 k (.src 0 false))) := (k5.ob _ (k3.lt (k2.lt h1.xl)) (by simp [n_xt, n_xu])).trans x3
    have bz1 : (kvs.length ≤ 1000000) = True := eq_true (by omega)
    have bz2 : (uks.length ≤ 1000000) = True := eq_true (by have := dur.len; omega)
    have A2 : m_law_3 (r02 s v1 b z x t u c (some (.int k)) v9 v10) μ2 = .ok (.nx (r02 s v1 b z x t u c (some (.int k)) v9 v10)) μ5 := by
      unfold m_law_3 r02 sDst2
      simp only [mChain, isiM, sDst2, neD0M, Wn.R.bind_ok, Wn.R.bind_no, Wn.R.cut_ok, Wn.R.cut_no, sThen_nx, sThen_rt, sThen_bk, sThen_ct, mC, mV, mNil, mCons, mTup, mLst, mOp, mUn, mFn, mMt, boolM, mTest, mAnd, mOr, mNot, mIf, mBl, mAndV, mOrV, mNotV, mAndT, mOrT, truM, List.isEmpty_cons, List.isEmpty_nil, addM, subM, mulM, modM, fdivM, powM, negM, ltM, leM, gtM, geM, cmpI, isM', isntM, isNon, getM, dgetM, slM, mSl, mP, mP0, lenM, listM, tupleM, minM, maxM, absM, intM, sortedM, mBm, lstOf, appM, popM, extM, idxM, remLM, sNil, sSeq, sSet, sExpr, sRet, sRetN, sIf, sBrk, sCnt, sPar, sPar3, sAsg, tgN, tgT, unp, stoM, dstoM, sSto, Wk.items, iSeq, iRng1, iRng2, iEnm, mCall, mMeth, sysOf, onSys, mMethK, mMake, mMakeK, makM, mYes, mListR1, mListR2, intBM, startV, seqOf, keyOf, List.getElem?_cons_zero, List.getElem?_cons_succ, List.getElem?_nil, List.set_cons_zero, List.set_cons_succ, List.map_cons, List.map_nil, List.length_cons, List.length_nil, List.cons_append, List.nil_append, List.append_nil, List.replicate, Nat.reduceAdd, Nat.reduceSub, Nat.reduceLeDiff, Nat.reduceLT, Nat.reduceEqDiff, Int.reduceLT, Int.reduceLE, Int.reduceNeg, Int.reducePow, ite_true, ite_false, if_true, if_false, reduceIte, Bool.false_eq_true, Bool.true_eq_false, Bool.not_true, Bool.not_false, and_self, and_true, true_and, Mu.put_same, Mu.new_same, Mu.put_nx, Mu.new_nx, Nat.zero_add, Nat.le_refl, Goes_nx, Gets_ok, Rets_nx, Rets_rt, CMul, CDiv, CPow, or_true, true_or, or_self, not_true, not_false_iff, mDm, dctV, popDM, getDM, mDisp, mPrs, kvOf, decide_false, decide_true, Int.reduceToNat, Nat.reducePow, Int.reduceAdd, Int.reduceSub, Int.reduceMul, e3, t3, bz1, u4, bz2, hμ5]
    rw [seq_nx A1, seq_nx A2]
    have gw : kGet (kPut uks (.inl c) (.int w)) (.inl c) = some (.int w) := by rw [kGet_put, if_pos rfl]
    have T5 : mTest (mOp gtM (mOp dgetM (mV 6) (mV 7)) (mC (.int 0))) (r02 s v1 b z x t u c (some (.int k)) v9 v10) μ5 = .ok (decide (0 < w)) μ5 := by
      unfold r02
      simp only [mChain, isiM, sDst2, neD0M, Wn.R.bind_ok, Wn.R.bind_no, Wn.R.cut_ok, Wn.R.cut_no, sThen_nx, sThen_rt, sThen_bk, sThen_ct, mC, mV, mNil, mCons, mTup, mLst, mOp, mUn, mFn, mMt, boolM, mTest, mAnd, mOr, mNot, mIf, mBl, mAndV, mOrV, mNotV, mAndT, mOrT, truM, List.isEmpty_cons, List.isEmpty_nil, addM, subM, mulM, modM, fdivM, powM, negM, ltM, leM, gtM, geM, cmpI, isM', isntM, isNon, getM, dgetM, slM, mSl, mP, mP0, lenM, listM, tupleM, minM, maxM, absM, intM, sortedM, mBm, lstOf, appM, popM, extM, idxM, remLM, sNil, sSeq, sSet, sExpr, sRet, sRetN, sIf, sBrk, sCnt, sPar, sPar3, sAsg, tgN, tgT, unp, stoM, dstoM, sSto, Wk.items, iSeq, iRng1, iRng2, iEnm, mCall, mMeth, sysOf, onSys, mMethK, mMake, mMakeK, makM, mYes, mListR1, mListR2, intBM, startV, seqOf, keyOf, List.getElem?_cons_zero, List.getElem?_cons_succ, List.getElem?_nil, List.set_cons_zero, List.set_cons_succ, List.map_cons, List.map_nil, List.length_cons, List.length_nil, List.cons_append, List.nil_append, List.append_nil, List.replicate, Nat.reduceAdd, Nat.reduceSub, Nat.reduceLeDiff, Nat.reduceLT, Nat.reduceEqDiff, Int.reduceLT, Int.reduceLE, Int.reduceNeg, Int.reducePow, ite_true, ite_false, if_true, if_false, reduceIte, Bool.false_eq_true, Bool.true_eq_false, Bool.not_true, Bool.not_false, and_self, and_true, true_and, Mu.put_same, Mu.new_same, Mu.put_nx, Mu.new_nx, Nat.zero_add, Nat.le_refl, Goes_nx, Gets_ok, Rets_nx, Rets_rt, CMul, CDiv, CPow, or_true, true_or, or_self, not_true, not_false_iff, mDm, dctV, popDM, getDM, mDisp, mPrs, kvOf, decide_false, decide_true, Int.reduceToNat, Nat.reducePow, Int.reduceAdd, Int.reduceSub, Int.reduceMul, dctOf, u5, gw]
    have d2 : DR (kPut kvs (.inl k) (.int c)) (rows ++ [(k, v.made)]) (g02 (updI T v.made c)) := by
      have dd : DR kvs rows (g02 (updI T v.made c)) := d.congr fun n ser hn => by
        obtain ⟨_, q0, q1⟩ := K.toS1.ser hn
        unfold g02
        rw [updI_ne _ _ (by omega)]
      have := dd.put (rows' := rows ++ [(k, v.made)]) (k := k) (ser := v.made) fun n => lk_snoc lkn
      unfold g02 at this
      rw [updI_same] at this
      exact this
    have ur2 := dur.put (w := w) K.bd
    have kA : Kee [b, x, t, u] μ μ5 := kb.trans ((k2.mono (by simp)).trans ((k3.mono (by simp)).trans (k5.mono (by simp))))
    have b5 : Bag μ5 b := b3.keep k5 (by simp [n_bt, n_bu])
    have xl5 := k5.lt (k3.lt (k2.lt h1.xl))
    have tl5 := k5.lt (k3.lt (k2.lt h1.tl))
    have ul5 := k5.lt (k3.lt (k2.lt h1.ul))
    have hs : lk (rows ++ [(k, v.made)]) k = some v.made := by rw [lk_snoc lkn, if_pos rfl]
    unfold m_law_4
    by_cases cw : 0 < w
    · rw [if_yes (T5.trans (by rw [decide_eq_true cw]))]
      have K3 := K2.arr hs (u := w) (by omega)
      rw [updI_two] at K3
      have sr := K2.src k v.made hs
      rw [updI_same] at sr
      have ar := arr_ok (x := x) (μ := μ5) (p := 0) K2.toS1.lk0 hs sr (show (v.place 0 k (.src 0 false)).made ≤ 1000000 from by have := K2.mc; omega) (c := w) (by omega) (by omega)
      rw [Int.zero_add] at ar
      have A3 : sExpr (mMeth (arrM) ([]) (mV 4) (mCons (mC (.int 0)) (mCons (mV 8) (mCons (mOp dgetM (mV 6) (mV 7)) (mNil))))) (r02 s v1 b z x t u c (some (.int k)) v9 v10) μ5 = .ok (.nx (r02 s v1 b z x t u c (some (.int k)) v9 v10)) (μ5.put x (.sys (((v.place 0 k (.src 0 false)).re v.made (.src w false)).pend v.made))) := by
        unfold r02
        simp only [mChain, isiM, sDst2, neD0M, Wn.R.bind_ok, Wn.R.bind_no, Wn.R.cut_ok, Wn.R.cut_no, sThen_nx, sThen_rt, sThen_bk, sThen_ct, mC, mV, mNil, mCons, mTup, mLst, mOp, mUn, mFn, mMt, boolM, mTest, mAnd, mOr, mNot, mIf, mBl, mAndV, mOrV, mNotV, mAndT, mOrT, truM, List.isEmpty_cons, List.isEmpty_nil, addM, subM, mulM, modM, fdivM, powM, negM, ltM, leM, gtM, geM, cmpI, isM', isntM, isNon, getM, dgetM, slM, mSl, mP, mP0, lenM, listM, tupleM, minM, maxM, absM, intM, sortedM, mBm, lstOf, appM, popM, extM, idxM, remLM, sNil, sSeq, sSet, sExpr, sRet, sRetN, sIf, sBrk, sCnt, sPar, sPar3, sAsg, tgN, tgT, unp, stoM, dstoM, sSto, Wk.items, iSeq, iRng1, iRng2, iEnm, mCall, mMeth, sysOf, onSys, mMethK, mMake, mMakeK, makM, mYes, mListR1, mListR2, intBM, startV, seqOf, keyOf, List.getElem?_cons_zero, List.getElem?_cons_succ, List.getElem?_nil, List.set_cons_zero, List.set_cons_succ, List.map_cons, List.map_nil, List.length_cons, List.length_nil, List.cons_append, List.nil_append, List.append_nil, List.replicate, Nat.reduceAdd, Nat.reduceSub, Nat.reduceLeDiff, Nat.reduceLT, Nat.reduceEqDiff, Int.reduceLT, Int.reduceLE, Int.reduceNeg, Int.reducePow, ite_true, ite_false, if_true, if_false, reduceIte, Bool.false_eq_true, Bool.true_eq_false, Bool.not_true, Bool.not_false, and_self, and_true, true_and, Mu.put_same, Mu.new_same, Mu.put_nx, Mu.new_nx, Nat.zero_add, Nat.le_refl, Goes_nx, Gets_ok, Rets_nx, Rets_rt, CMul, CDiv, CPow, or_true, true_or, or_self, not_true, not_false_iff, mDm, dctV, popDM, getDM, mDisp, mPrs, kvOf, decide_false, decide_true, Int.reduceToNat, Nat.reducePow, Int.reduceAdd, Int.reduceSub, Int.reduceMul, dctOf, u5, gw, x5, ar]
      rw [A3]
      have k6 : Kee [x] μ5 (μ5.put x (.sys (((v.place 0 k (.src 0 false)).re v.made (.src w false)).pend v.made))) := Kee.put (by simp)
      refine ⟨⟨_, rfl⟩, ⟨_, _, _, _, ⟨b5.keep k6 (by simp [n_bx]), Mu.put_same _ _ _, K3, ⟨_, (Mu.put_ne _ _ (Ne.symm n_xt)).trans t5, d2⟩, ⟨_, (Mu.put_ne _ _ (Ne.symm n_xu)).trans u5, ur2⟩, xl5, tl5, ul5, h.ne⟩⟩, kA.trans (k6.mono (by simp))⟩
    · rw [if_no (T5.trans (by rw [decide_eq_false cw]))]
      have w00 : w = 0 := by omega
      subst w00
      exact ⟨⟨_, rfl⟩, ⟨_, _, _, _, ⟨b5, x5, K2, ⟨_, t5, d2⟩, ⟨_, u5, ur2⟩, xl5, tl5, ul5, h.ne⟩⟩, kA⟩
end

/-! ### k02: a copy onto a drawn number -/
def Y02 (μ : Mu) (y : Val) : Prop := (∃ i : Int, y = .int i ∧ (i.natAbs < 10 ^ 12 ∨ i = 10000000000000000000)) ∨ y = .bl true ∨ y = .str "1" ∨ y = .tup [.int 1] ∨ ∃ q, y = .loc q ∧ q < μ.nx ∧ μ.ob q = some (.lst [.int 0])
theorem Y02.keep {μ μ' : Mu} {y : Val} (h : Y02 μ y) {S : List Nat} (kp : Kee S μ μ') (hS : ∀ q ∈ S, μ.ob q ≠ some (.lst [.int 0])) : Y02 μ' y := by
  rcases h with h | h | h | h | ⟨q, h, h1, h2⟩
  · exact .inl h
  · exact .inr (.inl h)
  · exact .inr (.inr (.inl h))
  · exact .inr (.inr (.inr (.inl h)))
  · exact .inr (.inr (.inr (.inr ⟨q, h, kp.lt h1, (kp.ob _ h1 fun m => hS q m h2).trans h2⟩)))
theorem ok_nonum : PyData.strOk "no number" = true := by decide +kernel
theorem ok_nopen : PyData.strOk "not open" = true := by decide +kernel
theorem toD_str (k : Nat) (μ : Mu) {z : Str} (h : PyData.strOk z = true) : toD k μ (.str z) = some (.str z) := by
  cases k <;> exact if_pos h
theorem y_dat {μ : Mu} {y : Val} (h : Y02 μ y) : ∃ d, toD 7 μ y = some d ∧ repOk (.list [.str "no number", d, .bool true]) := by
  rcases h with ⟨i, rfl, h | rfl⟩ | rfl | rfl | rfl | ⟨q, rfl, _, h⟩
  · exact ⟨.int i, rfl, rep_fin ok_nonum (by decide +kernel) h⟩
  · exact ⟨.int 10000000000000000000, rfl, by decide +kernel⟩
  · exact ⟨.bool true, rfl, by decide +kernel⟩
  · exact ⟨.str "1", toD_str 7 μ (by decide +kernel), by decide +kernel⟩
  · exact ⟨.tuple [.int 1], rfl, by decide +kernel⟩
  · refine ⟨.list [.int 0], ?_, by decide +kernel⟩
    rw [toD, seqOf_lst h]
    rfl
theorem dat_obj {μ : Mu} {a : Nat} {y : Val} {d : PyData} (hd : toD 7 μ y = some d) (h : μ.ob a = some (.lst [.str "no number", y, .bl true])) : datM μ (.loc a) = some (.list [.str "no number", d, .bool true]) := by
  unfold datM
  rw [toD, seqOf_lst h]
  show (allO [toD 7 μ (.str "no number"), toD 7 μ y, some (.bool true)]).map PyData.list = _
  rw [hd, toD_str 7 μ ok_nonum]
  rfl
section
variable {μ : Mu} {x : Nat} {v : Sv} {p n : Int} {rows : List (Int × Int)} {ser : Int} {y : Val}
theorem y_obv (h : Y02 μ y) : obv μ y = true := by
  rcases h with ⟨i, rfl, _⟩ | rfl | rfl | rfl | ⟨q, rfl, _, h⟩
  · rfl
  · rfl
  · rfl
  · rfl
  · show (seqOf μ q).isSome = true
    rw [seqOf_lst h]
    rfl
theorem cop_noY (hy : obv μ y = true) (hp : lk v.tabs p = some rows) (hn : lk rows n = none) (hm : v.made ≤ 1000000) : copM x v [.int p, .int n, y] μ = .er "NotOpen" (errV "number" (.int n) "NotOpen") μ := by
  unfold copM byP byN
  simp only [sca, hy, hm, and_self, if_true, hp, hn]
theorem cop_numY (hy : obv μ y = true) (hy2 : y ≠ .non) (hp : lk v.tabs p = some rows) (hn : lk rows n = some ser) (hm : v.made ≤ 1000000) (hc : cntOf y 0 (v.N - 1) = none) : copM x v [.int p, .int n, y] μ = .er "NoNumber" (errV "number" y "NoNumber") μ := by
  unfold copM byP byN
  simp only [sca, hy, hm, and_self, if_true, hp, hn]
  cases y with
  | non => exact (hy2 rfl).elim
  | _ => simp only [hc]
end
theorem out_num {m : ME} {ρ : Rho} {μ μ1 : Mu} {y : Val} (h : m ρ μ = .er "NoNumber" (errV "number" y "NoNumber") μ1) : mOut hs__law_outcome m ρ μ = .ok (.loc μ1.nx) (μ1.new (.lst [.str "no number", y, .bl true])) := by
  unfold mOut
  rw [h]
  rfl
theorem out_no {m : ME} {ρ : Rho} {μ μ1 : Mu} {y : Val} (h : m ρ μ = .er "NotOpen" (errV "number" y "NotOpen") μ1) : mOut hs__law_outcome m ρ μ = .ok (.loc μ1.nx) (μ1.new (.lst [.str "not open", y, .bl true])) := by
  unfold mOut
  rw [h]
  rfl
/-! what is due -/
section
variable {μ : Mu} {t : Nat} {z : Nat} {n : Int} {y w : Val} {kvs : List (Key × Val)}
theorem nin_dct {μ : Mu} {t : Nat} {kvs : List (Key × Val)} (h : μ.ob t = some (.dct kvs)) (n : Int) : ninM (.int n) (.loc t) μ = .ok (.bl (!(kGet kvs (.inl n)).isSome)) μ := by
  unfold ninM hasM keyOf
  simp only [h]
theorem due_open (ht : μ.ob t = some (.dct kvs)) (hg : kGet kvs (.inl n) = none) : d__law_due [.loc t, .int (z : Int), .int n, y] μ = .ok (.loc μ.nx) (μ.new (.lst [.str "not open", .int n, .bl true])) := by
  have hn := nin_dct ht n
  rw [hg] at hn
  unfold d__law_due runM m__law_due m__law_due_1
  simp only [mChain, isiM, sDst2, neD0M, Wn.R.bind_ok, Wn.R.bind_no, Wn.R.cut_ok, Wn.R.cut_no, sThen_nx, sThen_rt, sThen_bk, sThen_ct, mC, mV, mNil, mCons, mTup, mLst, mOp, mUn, mFn, mMt, boolM, mTest, mAnd, mOr, mNot, mIf, mBl, mAndV, mOrV, mNotV, mAndT, mOrT, truM, List.isEmpty_cons, List.isEmpty_nil, addM, subM, mulM, modM, fdivM, powM, negM, ltM, leM, gtM, geM, cmpI, isM', isntM, isNon, getM, dgetM, slM, mSl, mP, mP0, lenM, listM, tupleM, minM, maxM, absM, intM, sortedM, mBm, lstOf, appM, popM, extM, idxM, remLM, sNil, sSeq, sSet, sExpr, sRet, sRetN, sIf, sBrk, sCnt, sPar, sPar3, sAsg, tgN, tgT, unp, stoM, dstoM, sSto, Wk.items, iSeq, iRng1, iRng2, iEnm, mCall, mMeth, sysOf, onSys, mMethK, mMake, mMakeK, makM, mYes, mListR1, mListR2, intBM, startV, seqOf, keyOf, List.getElem?_cons_zero, List.getElem?_cons_succ, List.getElem?_nil, List.set_cons_zero, List.set_cons_succ, List.map_cons, List.map_nil, List.length_cons, List.length_nil, List.cons_append, List.nil_append, List.append_nil, List.replicate, Nat.reduceAdd, Nat.reduceSub, Nat.reduceLeDiff, Nat.reduceLT, Nat.reduceEqDiff, Int.reduceLT, Int.reduceLE, Int.reduceNeg, Int.reducePow, ite_true, ite_false, if_true, if_false, reduceIte, Bool.false_eq_true, Bool.true_eq_false, Bool.not_true, Bool.not_false, and_self, and_true, true_and, Mu.put_same, Mu.new_same, Mu.put_nx, Mu.new_nx, Nat.zero_add, Nat.le_refl, Goes_nx, Gets_ok, Rets_nx, Rets_rt, CMul, CDiv, CPow, or_true, true_or, or_self, not_true, not_false_iff, mDm, dctV, popDM, getDM, mDisp, mPrs, kvOf, decide_false, decide_true, Int.reduceToNat, Nat.reducePow, Int.reduceAdd, Int.reduceSub, Int.reduceMul, hn, Option.isSome_none]
theorem due_num (ht : μ.ob t = some (.dct kvs)) (hg : kGet kvs (.inl n) = some w) (hy : Y02 μ y) (hc : cntOf y 0 ((z : Int) - 1) = none) : d__law_due [.loc t, .int (z : Int), .int n, y] μ = .ok (.loc μ.nx) (μ.new (.lst [.str "no number", y, .bl true])) := by
  have hn := nin_dct ht n
  rw [hg] at hn
  unfold d__law_due runM m__law_due m__law_due_1 m__law_due_2
  rcases hy with ⟨i, rfl, _⟩ | rfl | rfl | rfl | ⟨q, rfl, _, h⟩
  · have hc' : ¬ (0 ≤ i ∧ i ≤ (z : Int) - 1) := fun c => by
      rw [cnt_ok c.1 c.2] at hc
      cases hc
    by_cases c0 : 0 ≤ i
    · have c2 : ¬ i < (z : Int) := fun c => hc' ⟨c0, by omega⟩
      simp only [mChain, isiM, sDst2, neD0M, Wn.R.bind_ok, Wn.R.bind_no, Wn.R.cut_ok, Wn.R.cut_no, sThen_nx, sThen_rt, sThen_bk, sThen_ct, mC, mV, mNil, mCons, mTup, mLst, mOp, mUn, mFn, mMt, boolM, mTest, mAnd, mOr, mNot, mIf, mBl, mAndV, mOrV, mNotV, mAndT, mOrT, truM, List.isEmpty_cons, List.isEmpty_nil, addM, subM, mulM, modM, fdivM, powM, negM, ltM, leM, gtM, geM, cmpI, isM', isntM, isNon, getM, dgetM, slM, mSl, mP, mP0, lenM, listM, tupleM, minM, maxM, absM, intM, sortedM, mBm, lstOf, appM, popM, extM, idxM, remLM, sNil, sSeq, sSet, sExpr, sRet, sRetN, sIf, sBrk, sCnt, sPar, sPar3, sAsg, tgN, tgT, unp, stoM, dstoM, sSto, Wk.items, iSeq, iRng1, iRng2, iEnm, mCall, mMeth, sysOf, onSys, mMethK, mMake, mMakeK, makM, mYes, mListR1, mListR2, intBM, startV, seqOf, keyOf, List.getElem?_cons_zero, List.getElem?_cons_succ, List.getElem?_nil, List.set_cons_zero, List.set_cons_succ, List.map_cons, List.map_nil, List.length_cons, List.length_nil, List.cons_append, List.nil_append, List.append_nil, List.replicate, Nat.reduceAdd, Nat.reduceSub, Nat.reduceLeDiff, Nat.reduceLT, Nat.reduceEqDiff, Int.reduceLT, Int.reduceLE, Int.reduceNeg, Int.reducePow, ite_true, ite_false, if_true, if_false, reduceIte, Bool.false_eq_true, Bool.true_eq_false, Bool.not_true, Bool.not_false, and_self, and_true, true_and, Mu.put_same, Mu.new_same, Mu.put_nx, Mu.new_nx, Nat.zero_add, Nat.le_refl, Goes_nx, Gets_ok, Rets_nx, Rets_rt, CMul, CDiv, CPow, or_true, true_or, or_self, not_true, not_false_iff, mDm, dctV, popDM, getDM, mDisp, mPrs, kvOf, decide_false, decide_true, Int.reduceToNat, Nat.reducePow, Int.reduceAdd, Int.reduceSub, Int.reduceMul, hn, Option.isSome_some, decide_eq_true c0, decide_eq_false c2]
    · simp only [mChain, isiM, sDst2, neD0M, Wn.R.bind_ok, Wn.R.bind_no, Wn.R.cut_ok, Wn.R.cut_no, sThen_nx, sThen_rt, sThen_bk, sThen_ct, mC, mV, mNil, mCons, mTup, mLst, mOp, mUn, mFn, mMt, boolM, mTest, mAnd, mOr, mNot, mIf, mBl, mAndV, mOrV, mNotV, mAndT, mOrT, truM, List.isEmpty_cons, List.isEmpty_nil, addM, subM, mulM, modM, fdivM, powM, negM, ltM, leM, gtM, geM, cmpI, isM', isntM, isNon, getM, dgetM, slM, mSl, mP, mP0, lenM, listM, tupleM, minM, maxM, absM, intM, sortedM, mBm, lstOf, appM, popM, extM, idxM, remLM, sNil, sSeq, sSet, sExpr, sRet, sRetN, sIf, sBrk, sCnt, sPar, sPar3, sAsg, tgN, tgT, unp, stoM, dstoM, sSto, Wk.items, iSeq, iRng1, iRng2, iEnm, mCall, mMeth, sysOf, onSys, mMethK, mMake, mMakeK, makM, mYes, mListR1, mListR2, intBM, startV, seqOf, keyOf, List.getElem?_cons_zero, List.getElem?_cons_succ, List.getElem?_nil, List.set_cons_zero, List.set_cons_succ, List.map_cons, List.map_nil, List.length_cons, List.length_nil, List.cons_append, List.nil_append, List.append_nil, List.replicate, Nat.reduceAdd, Nat.reduceSub, Nat.reduceLeDiff, Nat.reduceLT, Nat.reduceEqDiff, Int.reduceLT, Int.reduceLE, Int.reduceNeg, Int.reducePow, ite_true, ite_false, if_true, if_false, reduceIte, Bool.false_eq_true, Bool.true_eq_false, Bool.not_true, Bool.not_false, and_self, and_true, true_and, Mu.put_same, Mu.new_same, Mu.put_nx, Mu.new_nx, Nat.zero_add, Nat.le_refl, Goes_nx, Gets_ok, Rets_nx, Rets_rt, CMul, CDiv, CPow, or_true, true_or, or_self, not_true, not_false_iff, mDm, dctV, popDM, getDM, mDisp, mPrs, kvOf, decide_false, decide_true, Int.reduceToNat, Nat.reducePow, Int.reduceAdd, Int.reduceSub, Int.reduceMul, hn, Option.isSome_some, decide_eq_false c0]
  · simp only [mChain, isiM, sDst2, neD0M, Wn.R.bind_ok, Wn.R.bind_no, Wn.R.cut_ok, Wn.R.cut_no, sThen_nx, sThen_rt, sThen_bk, sThen_ct, mC, mV, mNil, mCons, mTup, mLst, mOp, mUn, mFn, mMt, boolM, mTest, mAnd, mOr, mNot, mIf, mBl, mAndV, mOrV, mNotV, mAndT, mOrT, truM, List.isEmpty_cons, List.isEmpty_nil, addM, subM, mulM, modM, fdivM, powM, negM, ltM, leM, gtM, geM, cmpI, isM', isntM, isNon, getM, dgetM, slM, mSl, mP, mP0, lenM, listM, tupleM, minM, maxM, absM, intM, sortedM, mBm, lstOf, appM, popM, extM, idxM, remLM, sNil, sSeq, sSet, sExpr, sRet, sRetN, sIf, sBrk, sCnt, sPar, sPar3, sAsg, tgN, tgT, unp, stoM, dstoM, sSto, Wk.items, iSeq, iRng1, iRng2, iEnm, mCall, mMeth, sysOf, onSys, mMethK, mMake, mMakeK, makM, mYes, mListR1, mListR2, intBM, startV, seqOf, keyOf, List.getElem?_cons_zero, List.getElem?_cons_succ, List.getElem?_nil, List.set_cons_zero, List.set_cons_succ, List.map_cons, List.map_nil, List.length_cons, List.length_nil, List.cons_append, List.nil_append, List.append_nil, List.replicate, Nat.reduceAdd, Nat.reduceSub, Nat.reduceLeDiff, Nat.reduceLT, Nat.reduceEqDiff, Int.reduceLT, Int.reduceLE, Int.reduceNeg, Int.reducePow, ite_true, ite_false, if_true, if_false, reduceIte, Bool.false_eq_true, Bool.true_eq_false, Bool.not_true, Bool.not_false, and_self, and_true, true_and, Mu.put_same, Mu.new_same, Mu.put_nx, Mu.new_nx, Nat.zero_add, Nat.le_refl, Goes_nx, Gets_ok, Rets_nx, Rets_rt, CMul, CDiv, CPow, or_true, true_or, or_self, not_true, not_false_iff, mDm, dctV, popDM, getDM, mDisp, mPrs, kvOf, decide_false, decide_true, Int.reduceToNat, Nat.reducePow, Int.reduceAdd, Int.reduceSub, Int.reduceMul, hn, Option.isSome_some]
  · simp only [mChain, isiM, sDst2, neD0M, Wn.R.bind_ok, Wn.R.bind_no, Wn.R.cut_ok, Wn.R.cut_no, sThen_nx, sThen_rt, sThen_bk, sThen_ct, mC, mV, mNil, mCons, mTup, mLst, mOp, mUn, mFn, mMt, boolM, mTest, mAnd, mOr, mNot, mIf, mBl, mAndV, mOrV, mNotV, mAndT, mOrT, truM, List.isEmpty_cons, List.isEmpty_nil, addM, subM, mulM, modM, fdivM, powM, negM, ltM, leM, gtM, geM, cmpI, isM', isntM, isNon, getM, dgetM, slM, mSl, mP, mP0, lenM, listM, tupleM, minM, maxM, absM, intM, sortedM, mBm, lstOf, appM, popM, extM, idxM, remLM, sNil, sSeq, sSet, sExpr, sRet, sRetN, sIf, sBrk, sCnt, sPar, sPar3, sAsg, tgN, tgT, unp, stoM, dstoM, sSto, Wk.items, iSeq, iRng1, iRng2, iEnm, mCall, mMeth, sysOf, onSys, mMethK, mMake, mMakeK, makM, mYes, mListR1, mListR2, intBM, startV, seqOf, keyOf, List.getElem?_cons_zero, List.getElem?_cons_succ, List.getElem?_nil, List.set_cons_zero, List.set_cons_succ, List.map_cons, List.map_nil, List.length_cons, List.length_nil, List.cons_append, List.nil_append, List.append_nil, List.replicate, Nat.reduceAdd, Nat.reduceSub, Nat.reduceLeDiff, Nat.reduceLT, Nat.reduceEqDiff, Int.reduceLT, Int.reduceLE, Int.reduceNeg, Int.reducePow, ite_true, ite_false, if_true, if_false, reduceIte, Bool.false_eq_true, Bool.true_eq_false, Bool.not_true, Bool.not_false, and_self, and_true, true_and, Mu.put_same, Mu.new_same, Mu.put_nx, Mu.new_nx, Nat.zero_add, Nat.le_refl, Goes_nx, Gets_ok, Rets_nx, Rets_rt, CMul, CDiv, CPow, or_true, true_or, or_self, not_true, not_false_iff, mDm, dctV, popDM, getDM, mDisp, mPrs, kvOf, decide_false, decide_true, Int.reduceToNat, Nat.reducePow, Int.reduceAdd, Int.reduceSub, Int.reduceMul, hn, Option.isSome_some]
  · simp only [mChain, isiM, sDst2, neD0M, Wn.R.bind_ok, Wn.R.bind_no, Wn.R.cut_ok, Wn.R.cut_no, sThen_nx, sThen_rt, sThen_bk, sThen_ct, mC, mV, mNil, mCons, mTup, mLst, mOp, mUn, mFn, mMt, boolM, mTest, mAnd, mOr, mNot, mIf, mBl, mAndV, mOrV, mNotV, mAndT, mOrT, truM, List.isEmpty_cons, List.isEmpty_nil, addM, subM, mulM, modM, fdivM, powM, negM, ltM, leM, gtM, geM, cmpI, isM', isntM, isNon, getM, dgetM, slM, mSl, mP, mP0, lenM, listM, tupleM, minM, maxM, absM, intM, sortedM, mBm, lstOf, appM, popM, extM, idxM, remLM, sNil, sSeq, sSet, sExpr, sRet, sRetN, sIf, sBrk, sCnt, sPar, sPar3, sAsg, tgN, tgT, unp, stoM, dstoM, sSto, Wk.items, iSeq, iRng1, iRng2, iEnm, mCall, mMeth, sysOf, onSys, mMethK, mMake, mMakeK, makM, mYes, mListR1, mListR2, intBM, startV, seqOf, keyOf, List.getElem?_cons_zero, List.getElem?_cons_succ, List.getElem?_nil, List.set_cons_zero, List.set_cons_succ, List.map_cons, List.map_nil, List.length_cons, List.length_nil, List.cons_append, List.nil_append, List.append_nil, List.replicate, Nat.reduceAdd, Nat.reduceSub, Nat.reduceLeDiff, Nat.reduceLT, Nat.reduceEqDiff, Int.reduceLT, Int.reduceLE, Int.reduceNeg, Int.reducePow, ite_true, ite_false, if_true, if_false, reduceIte, Bool.false_eq_true, Bool.true_eq_false, Bool.not_true, Bool.not_false, and_self, and_true, true_and, Mu.put_same, Mu.new_same, Mu.put_nx, Mu.new_nx, Nat.zero_add, Nat.le_refl, Goes_nx, Gets_ok, Rets_nx, Rets_rt, CMul, CDiv, CPow, or_true, true_or, or_self, not_true, not_false_iff, mDm, dctV, popDM, getDM, mDisp, mPrs, kvOf, decide_false, decide_true, Int.reduceToNat, Nat.reducePow, Int.reduceAdd, Int.reduceSub, Int.reduceMul, hn, Option.isSome_some]
  · simp only [mChain, isiM, sDst2, neD0M, Wn.R.bind_ok, Wn.R.bind_no, Wn.R.cut_ok, Wn.R.cut_no, sThen_nx, sThen_rt, sThen_bk, sThen_ct, mC, mV, mNil, mCons, mTup, mLst, mOp, mUn, mFn, mMt, boolM, mTest, mAnd, mOr, mNot, mIf, mBl, mAndV, mOrV, mNotV, mAndT, mOrT, truM, List.isEmpty_cons, List.isEmpty_nil, addM, subM, mulM, modM, fdivM, powM, negM, ltM, leM, gtM, geM, cmpI, isM', isntM, isNon, getM, dgetM, slM, mSl, mP, mP0, lenM, listM, tupleM, minM, maxM, absM, intM, sortedM, mBm, lstOf, appM, popM, extM, idxM, remLM, sNil, sSeq, sSet, sExpr, sRet, sRetN, sIf, sBrk, sCnt, sPar, sPar3, sAsg, tgN, tgT, unp, stoM, dstoM, sSto, Wk.items, iSeq, iRng1, iRng2, iEnm, mCall, mMeth, sysOf, onSys, mMethK, mMake, mMakeK, makM, mYes, mListR1, mListR2, intBM, startV, seqOf, keyOf, List.getElem?_cons_zero, List.getElem?_cons_succ, List.getElem?_nil, List.set_cons_zero, List.set_cons_succ, List.map_cons, List.map_nil, List.length_cons, List.length_nil, List.cons_append, List.nil_append, List.append_nil, List.replicate, Nat.reduceAdd, Nat.reduceSub, Nat.reduceLeDiff, Nat.reduceLT, Nat.reduceEqDiff, Int.reduceLT, Int.reduceLE, Int.reduceNeg, Int.reducePow, ite_true, ite_false, if_true, if_false, reduceIte, Bool.false_eq_true, Bool.true_eq_false, Bool.not_true, Bool.not_false, and_self, and_true, true_and, Mu.put_same, Mu.new_same, Mu.put_nx, Mu.new_nx, Nat.zero_add, Nat.le_refl, Goes_nx, Gets_ok, Rets_nx, Rets_rt, CMul, CDiv, CPow, or_true, true_or, or_self, not_true, not_false_iff, mDm, dctV, popDM, getDM, mDisp, mPrs, kvOf, decide_false, decide_true, Int.reduceToNat, Nat.reducePow, Int.reduceAdd, Int.reduceSub, Int.reduceMul, hn, Option.isSome_some, h]
theorem due_ok {k : Int} (ht : μ.ob t = some (.dct kvs)) (hg : kGet kvs (.inl n) = some w) (hz : kvs.length ≤ 1000000) (k0 : 0 ≤ k) (k1 : k < (z : Int)) : d__law_due [.loc t, .int (z : Int), .int n, .int k] μ = .ok (.int k) (μ.put t (.dct (kPut kvs (.inl k) w))) := by
  have hn := nin_dct ht n
  rw [hg] at hn
  unfold d__law_due runM m__law_due m__law_due_1 m__law_due_2
  simp only [mChain, isiM, sDst2, neD0M, Wn.R.bind_ok, Wn.R.bind_no, Wn.R.cut_ok, Wn.R.cut_no, sThen_nx, sThen_rt, sThen_bk, sThen_ct, mC, mV, mNil, mCons, mTup, mLst, mOp, mUn, mFn, mMt, boolM, mTest, mAnd, mOr, mNot, mIf, mBl, mAndV, mOrV, mNotV, mAndT, mOrT, truM, List.isEmpty_cons, List.isEmpty_nil, addM, subM, mulM, modM, fdivM, powM, negM, ltM, leM, gtM, geM, cmpI, isM', isntM, isNon, getM, dgetM, slM, mSl, mP, mP0, lenM, listM, tupleM, minM, maxM, absM, intM, sortedM, mBm, lstOf, appM, popM, extM, idxM, remLM, sNil, sSeq, sSet, sExpr, sRet, sRetN, sIf, sBrk, sCnt, sPar, sPar3, sAsg, tgN, tgT, unp, stoM, dstoM, sSto, Wk.items, iSeq, iRng1, iRng2, iEnm, mCall, mMeth, sysOf, onSys, mMethK, mMake, mMakeK, makM, mYes, mListR1, mListR2, intBM, startV, seqOf, keyOf, List.getElem?_cons_zero, List.getElem?_cons_succ, List.getElem?_nil, List.set_cons_zero, List.set_cons_succ, List.map_cons, List.map_nil, List.length_cons, List.length_nil, List.cons_append, List.nil_append, List.append_nil, List.replicate, Nat.reduceAdd, Nat.reduceSub, Nat.reduceLeDiff, Nat.reduceLT, Nat.reduceEqDiff, Int.reduceLT, Int.reduceLE, Int.reduceNeg, Int.reducePow, ite_true, ite_false, if_true, if_false, reduceIte, Bool.false_eq_true, Bool.true_eq_false, Bool.not_true, Bool.not_false, and_self, and_true, true_and, Mu.put_same, Mu.new_same, Mu.put_nx, Mu.new_nx, Nat.zero_add, Nat.le_refl, Goes_nx, Gets_ok, Rets_nx, Rets_rt, CMul, CDiv, CPow, or_true, true_or, or_self, not_true, not_false_iff, mDm, dctV, popDM, getDM, mDisp, mPrs, kvOf, decide_false, decide_true, Int.reduceToNat, Nat.reducePow, Int.reduceAdd, Int.reduceSub, Int.reduceMul, hn, Option.isSome_some, decide_eq_true k0, decide_eq_true k1, dctOf, ht, hg, hz]
end
section
variable {μ μ1 μ2 : Mu} {s b x t u : Nat} {z : Nat} {c : Int} {v : Sv} {rows : List (Int × Int)} {T U : Int → Int} {v1 v8 v9 v10 : Option Val} {n : Int} {y fo du : Val} {d : PyData}
theorem nine (h1 : datM μ1 fo = some d) (h2 : datM μ2 du = some d) (hr : repOk d) (hd : d__law_due [.loc t, .int (z : Int), .int n, y] μ1 = .ok du μ2) : m_law_9 (r02 s v1 b z x t u c (some (.int n)) (some y) (some fo)) μ1 = .ok (.nx (r02 s v1 b z x t u c (some (.int n)) (some y) (some fo))) μ2 := by
  have r1 := repr_ok h1 hr
  have r2 := repr_ok h2 hr
  unfold m_law_9 r02
  simp only [mChain, isiM, sDst2, neD0M, Wn.R.bind_ok, Wn.R.bind_no, Wn.R.cut_ok, Wn.R.cut_no, sThen_nx, sThen_rt, sThen_bk, sThen_ct, mC, mV, mNil, mCons, mTup, mLst, mOp, mUn, mFn, mMt, boolM, mTest, mAnd, mOr, mNot, mIf, mBl, mAndV, mOrV, mNotV, mAndT, mOrT, truM, List.isEmpty_cons, List.isEmpty_nil, addM, subM, mulM, modM, fdivM, powM, negM, ltM, leM, gtM, geM, cmpI, isM', isntM, isNon, getM, dgetM, slM, mSl, mP, mP0, lenM, listM, tupleM, minM, maxM, absM, intM, sortedM, mBm, lstOf, appM, popM, extM, idxM, remLM, sNil, sSeq, sSet, sExpr, sRet, sRetN, sIf, sBrk, sCnt, sPar, sPar3, sAsg, tgN, tgT, unp, stoM, dstoM, sSto, Wk.items, iSeq, iRng1, iRng2, iEnm, mCall, mMeth, sysOf, onSys, mMethK, mMake, mMakeK, makM, mYes, mListR1, mListR2, intBM, startV, seqOf, keyOf, List.getElem?_cons_zero, List.getElem?_cons_succ, List.getElem?_nil, List.set_cons_zero, List.set_cons_succ, List.map_cons, List.map_nil, List.length_cons, List.length_nil, List.cons_append, List.nil_append, List.append_nil, List.replicate, Nat.reduceAdd, Nat.reduceSub, Nat.reduceLeDiff, Nat.reduceLT, Nat.reduceEqDiff, Int.reduceLT, Int.reduceLE, Int.reduceNeg, Int.reducePow, ite_true, ite_false, if_true, if_false, reduceIte, Bool.false_eq_true, Bool.true_eq_false, Bool.not_true, Bool.not_false, and_self, and_true, true_and, Mu.put_same, Mu.new_same, Mu.put_nx, Mu.new_nx, Nat.zero_add, Nat.le_refl, Goes_nx, Gets_ok, Rets_nx, Rets_rt, CMul, CDiv, CPow, or_true, true_or, or_self, not_true, not_false_iff, mDm, dctV, popDM, getDM, mDisp, mPrs, kvOf, decide_false, decide_true, Int.reduceToNat, Nat.reducePow, Int.reduceAdd, Int.reduceSub, Int.reduceMul, r1, hd, r2, neSM]
theorem eight (h : mOut hs__law_outcome (mMeth (copM) ([]) (mV 4) (mCons (mC (.int 0)) (mCons (mV 8) (mCons (mV 9) (mNil))))) (r02 s v1 b z x t u c (some (.int n)) (some y) v10) μ = .ok fo μ1) : m_law_8 (r02 s v1 b z x t u c (some (.int n)) (some y) v10) μ = .ok (.nx (r02 s v1 b z x t u c (some (.int n)) (some y) (some fo))) μ1 := by
  unfold m_law_8 sSet
  rw [h]
  rfl
theorem copy_eqc {c' : Int} (h : M02 μ b x t u z c v rows T U) (z8 : z ≤ 8) (c1 : c ≤ 1000) (n0 : 0 ≤ n) (n9 : n ≤ 100) (hy : Y02 μ y) : Goes ((sSeq (m_law_8) (m_law_9)) (r02 s v1 b z x t u c' (some (.int n)) (some y) v10) μ) fun ρ' μ' => (∃ v10, ρ' = r02 s v1 b z x t u c' (some (.int n)) (some y) v10) ∧ (∃ v' rows', M02 μ' b x t u z c v' rows' T U) ∧ Kee [x, t] μ μ' := by
  obtain ⟨kvs, od, d⟩ := h.dt
  obtain ⟨n_bx, n_bt, n_bu, n_xt, n_xu, n_tu⟩ := h.ne
  have hl := d.len0 h.K
  have h8 := h.K.toS1.len
  have ox := h.hx
  have K := h.K
  have tl := h.tl
  have xl := h.xl
  have hm : v.made ≤ 1000000 := by have := K.mc; omega
  have yob := y_obv hy
  have ynn : y ≠ .non := fun z => by
    subst z
    rcases hy with ⟨i, e, _⟩ | e | e | e | ⟨q, e, _⟩ <;> cases e
  have hg := d.get n
  have eA : ∀ {r : R Val}, copM x v [.int 0, .int n, y] μ = r → mMeth (copM) ([]) (mV 4) (mCons (mC (.int 0)) (mCons (mV 8) (mCons (mV 9) (mNil)))) (r02 s v1 b z x t u c' (some (.int n)) (some y) v10) μ = r := fun {r} e => by
    unfold r02
    cases r with
    | ok a m => simp only [mChain, isiM, sDst2, neD0M, Wn.R.bind_ok, Wn.R.bind_no, Wn.R.cut_ok, Wn.R.cut_no, sThen_nx, sThen_rt, sThen_bk, sThen_ct, mC, mV, mNil, mCons, mTup, mLst, mOp, mUn, mFn, mMt, boolM, mTest, mAnd, mOr, mNot, mIf, mBl, mAndV, mOrV, mNotV, mAndT, mOrT, truM, List.isEmpty_cons, List.isEmpty_nil, addM, subM, mulM, modM, fdivM, powM, negM, ltM, leM, gtM, geM, cmpI, isM', isntM, isNon, getM, dgetM, slM, mSl, mP, mP0, lenM, listM, tupleM, minM, maxM, absM, intM, sortedM, mBm, lstOf, appM, popM, extM, idxM, remLM, sNil, sSeq, sSet, sExpr, sRet, sRetN, sIf, sBrk, sCnt, sPar, sPar3, sAsg, tgN, tgT, unp, stoM, dstoM, sSto, Wk.items, iSeq, iRng1, iRng2, iEnm, mCall, mMeth, sysOf, onSys, mMethK, mMake, mMakeK, makM, mYes, mListR1, mListR2, intBM, startV, seqOf, keyOf, List.getElem?_cons_zero, List.getElem?_cons_succ, List.getElem?_nil, List.set_cons_zero, List.set_cons_succ, List.map_cons, List.map_nil, List.length_cons, List.length_nil, List.cons_append, List.nil_append, List.append_nil, List.replicate, Nat.reduceAdd, Nat.reduceSub, Nat.reduceLeDiff, Nat.reduceLT, Nat.reduceEqDiff, Int.reduceLT, Int.reduceLE, Int.reduceNeg, Int.reducePow, ite_true, ite_false, if_true, if_false, reduceIte, Bool.false_eq_true, Bool.true_eq_false, Bool.not_true, Bool.not_false, and_self, and_true, true_and, Mu.put_same, Mu.new_same, Mu.put_nx, Mu.new_nx, Nat.zero_add, Nat.le_refl, Goes_nx, Gets_ok, Rets_nx, Rets_rt, CMul, CDiv, CPow, or_true, true_or, or_self, not_true, not_false_iff, mDm, dctV, popDM, getDM, mDisp, mPrs, kvOf, decide_false, decide_true, Int.reduceToNat, Nat.reducePow, Int.reduceAdd, Int.reduceSub, Int.reduceMul, ox, e]
    | er a f m => simp only [mChain, isiM, sDst2, neD0M, Wn.R.bind_ok, Wn.R.bind_no, Wn.R.cut_ok, Wn.R.cut_no, sThen_nx, sThen_rt, sThen_bk, sThen_ct, mC, mV, mNil, mCons, mTup, mLst, mOp, mUn, mFn, mMt, boolM, mTest, mAnd, mOr, mNot, mIf, mBl, mAndV, mOrV, mNotV, mAndT, mOrT, truM, List.isEmpty_cons, List.isEmpty_nil, addM, subM, mulM, modM, fdivM, powM, negM, ltM, leM, gtM, geM, cmpI, isM', isntM, isNon, getM, dgetM, slM, mSl, mP, mP0, lenM, listM, tupleM, minM, maxM, absM, intM, sortedM, mBm, lstOf, appM, popM, extM, idxM, remLM, sNil, sSeq, sSet, sExpr, sRet, sRetN, sIf, sBrk, sCnt, sPar, sPar3, sAsg, tgN, tgT, unp, stoM, dstoM, sSto, Wk.items, iSeq, iRng1, iRng2, iEnm, mCall, mMeth, sysOf, onSys, mMethK, mMake, mMakeK, makM, mYes, mListR1, mListR2, intBM, startV, seqOf, keyOf, List.getElem?_cons_zero, List.getElem?_cons_succ, List.getElem?_nil, List.set_cons_zero, List.set_cons_succ, List.map_cons, List.map_nil, List.length_cons, List.length_nil, List.cons_append, List.nil_append, List.append_nil, List.replicate, Nat.reduceAdd, Nat.reduceSub, Nat.reduceLeDiff, Nat.reduceLT, Nat.reduceEqDiff, Int.reduceLT, Int.reduceLE, Int.reduceNeg, Int.reducePow, ite_true, ite_false, if_true, if_false, reduceIte, Bool.false_eq_true, Bool.true_eq_false, Bool.not_true, Bool.not_false, and_self, and_true, true_and, Mu.put_same, Mu.new_same, Mu.put_nx, Mu.new_nx, Nat.zero_add, Nat.le_refl, Goes_nx, Gets_ok, Rets_nx, Rets_rt, CMul, CDiv, CPow, or_true, true_or, or_self, not_true, not_false_iff, mDm, dctV, popDM, getDM, mDisp, mPrs, kvOf, decide_false, decide_true, Int.reduceToNat, Nat.reducePow, Int.reduceAdd, Int.reduceSub, Int.reduceMul, ox, e, R.bind_er]
    | no => simp only [mChain, isiM, sDst2, neD0M, Wn.R.bind_ok, Wn.R.bind_no, Wn.R.cut_ok, Wn.R.cut_no, sThen_nx, sThen_rt, sThen_bk, sThen_ct, mC, mV, mNil, mCons, mTup, mLst, mOp, mUn, mFn, mMt, boolM, mTest, mAnd, mOr, mNot, mIf, mBl, mAndV, mOrV, mNotV, mAndT, mOrT, truM, List.isEmpty_cons, List.isEmpty_nil, addM, subM, mulM, modM, fdivM, powM, negM, ltM, leM, gtM, geM, cmpI, isM', isntM, isNon, getM, dgetM, slM, mSl, mP, mP0, lenM, listM, tupleM, minM, maxM, absM, intM, sortedM, mBm, lstOf, appM, popM, extM, idxM, remLM, sNil, sSeq, sSet, sExpr, sRet, sRetN, sIf, sBrk, sCnt, sPar, sPar3, sAsg, tgN, tgT, unp, stoM, dstoM, sSto, Wk.items, iSeq, iRng1, iRng2, iEnm, mCall, mMeth, sysOf, onSys, mMethK, mMake, mMakeK, makM, mYes, mListR1, mListR2, intBM, startV, seqOf, keyOf, List.getElem?_cons_zero, List.getElem?_cons_succ, List.getElem?_nil, List.set_cons_zero, List.set_cons_succ, List.map_cons, List.map_nil, List.length_cons, List.length_nil, List.cons_append, List.nil_append, List.append_nil, List.replicate, Nat.reduceAdd, Nat.reduceSub, Nat.reduceLeDiff, Nat.reduceLT, Nat.reduceEqDiff, Int.reduceLT, Int.reduceLE, Int.reduceNeg, Int.reducePow, ite_true, ite_false, if_true, if_false, reduceIte, Bool.false_eq_true, Bool.true_eq_false, Bool.not_true, Bool.not_false, and_self, and_true, true_and, Mu.put_same, Mu.new_same, Mu.put_nx, Mu.new_nx, Nat.zero_add, Nat.le_refl, Goes_nx, Gets_ok, Rets_nx, Rets_rt, CMul, CDiv, CPow, or_true, true_or, or_self, not_true, not_false_iff, mDm, dctV, popDM, getDM, mDisp, mPrs, kvOf, decide_false, decide_true, Int.reduceToNat, Nat.reducePow, Int.reduceAdd, Int.reduceSub, Int.reduceMul, ox, e]
  cases e : lk rows n with
  | none =>
    rw [e] at hg
    have A := eight (out_no (eA (cop_noY (x := x) yob K.toS1.lk0 e hm)))
    obtain ⟨μ3, hμ3⟩ : ∃ μ3, μ.new (.lst [.str "not open", .int n, .bl true]) = μ3 := ⟨_, rfl⟩
    rw [hμ3] at A
    have k3 : Kee [] μ μ3 := by rw [← hμ3]; exact Kee.new
    have o3 : μ3.ob μ.nx = some (.lst [.str "not open", .int n, .bl true]) := by rw [← hμ3]; exact Mu.new_same _ _
    have t3 := (k3.ob _ tl (by simp)).trans od
    have D := due_open (z := z) (y := y) t3 hg
    have B := nine (s := s) (v1 := v1) (b := b) (x := x) (u := u) (c := c') (dat_fin ok_nopen o3) (dat_fin ok_nopen (Mu.new_same _ _)) (rep_fin ok_nopen (by decide +kernel) (by omega)) D
    rw [seq_nx A, B]
    have kk : Kee [] μ (μ3.new (.lst [.str "not open", .int n, .bl true])) := k3.trans Kee.new
    exact ⟨⟨_, rfl⟩, ⟨_, _, h.any kk⟩, kk.mono (by simp)⟩
  | some ser =>
    rw [e] at hg
    have hg : kGet kvs (.inl n) = some (g02 T ser) := hg
    have eN : v.N = (z : Int) := K.nz
    cases ec : cntOf y 0 (v.N - 1) with
    | none =>
      have A := eight (out_num (eA (cop_numY (x := x) yob ynn K.toS1.lk0 e hm ec)))
      obtain ⟨μ3, hμ3⟩ : ∃ μ3, μ.new (.lst [.str "no number", y, .bl true]) = μ3 := ⟨_, rfl⟩
      rw [hμ3] at A
      have k3 : Kee [] μ μ3 := by rw [← hμ3]; exact Kee.new
      have o3 : μ3.ob μ.nx = some (.lst [.str "no number", y, .bl true]) := by rw [← hμ3]; exact Mu.new_same _ _
      have t3 := (k3.ob _ tl (by simp)).trans od
      have y3 := hy.keep k3 (by simp)
      rw [eN] at ec
      have D := due_num (z := z) t3 hg y3 ec
      have k4 : Kee [] μ3 (μ3.new (.lst [.str "no number", y, .bl true])) := Kee.new
      have y4 := y3.keep k4 (by simp)
      obtain ⟨dd, d1, d2⟩ := y_dat y3
      obtain ⟨dd', e1, e2⟩ := y_dat y4
      have ed : dd' = dd := by
        rcases y3 with ⟨i, rfl, _⟩ | rfl | rfl | rfl | ⟨q, rfl, ql, qo⟩
        · exact (Option.some.inj (e1.symm.trans d1 : some dd' = some dd))
        · exact (Option.some.inj (e1.symm.trans d1 : some dd' = some dd))
        · exact (Option.some.inj (e1.symm.trans d1 : some dd' = some dd))
        · exact (Option.some.inj (e1.symm.trans d1 : some dd' = some dd))
        · rw [toD, seqOf_lst qo] at d1
          rw [toD, seqOf_lst ((k4.ob _ ql (by simp)).trans qo)] at e1
          exact Option.some.inj (e1.symm.trans d1)
      rw [ed] at e1
      have B := nine (s := s) (v1 := v1) (b := b) (x := x) (u := u) (c := c') (dat_obj d1 o3) (dat_obj e1 (Mu.new_same _ _)) d2 D
      rw [seq_nx A, B]
      have kk : Kee [] μ (μ3.new (.lst [.str "no number", y, .bl true])) := k3.trans k4
      exact ⟨⟨_, rfl⟩, ⟨_, _, h.any kk⟩, kk.mono (by simp)⟩
    | some k =>
      obtain ⟨ey, k0, k1⟩ : y = .int k ∧ 0 ≤ k ∧ k ≤ v.N - 1 := by
        unfold cntOf at ec
        split at ec
        · split at ec
          · rename_i hq
            cases ec
            exact ⟨rfl, hq⟩
          · cases ec
        · cases ec
      subst ey
      have A := eight (fo := .int k) (out_ok (hs := hs__law_outcome) (eA (copTo_ok (x := x) K.toS1.lk0 e hm k0 k1)))
      obtain ⟨rows', K', m', lk'⟩ := K.copy (k := k) ⟨k0, by omega⟩ e
      obtain ⟨μ3, hμ3⟩ : ∃ μ3, μ.put x (.sys (copyV v 0 k ser rows)) = μ3 := ⟨_, rfl⟩
      rw [hμ3] at A
      have k3 : Kee [x] μ μ3 := by rw [← hμ3]; exact Kee.put (by simp)
      have x3 : μ3.ob x = some (.sys (copyV v 0 k ser rows)) := by rw [← hμ3]; exact Mu.put_same _ _ _
      have t3 := (k3.ob _ tl (by simp [Ne.symm n_xt])).trans od
      have D := due_ok (z := z) (n := n) (w := g02 T ser) t3 hg (by omega) k0 (by omega)
      have B := nine (s := s) (v1 := v1) (b := b) (x := x) (u := u) (c := c') (fo := .int k) (du := .int k) (d := .int k) rfl rfl (rep_int (by omega)) D
      rw [seq_nx A, B]
      have kk : Kee [x, t] μ (μ3.put t (.dct (kPut kvs (.inl k) (g02 T ser)))) := (k3.mono (by simp)).putN (.inr (by simp))
      exact ⟨⟨_, rfl⟩, ⟨_, _, h.set kk ((Mu.put_ne _ _ n_xt).trans x3) K' (Mu.put_same _ _ _) (d.put lk') m'⟩, kk⟩
end

/-! ### k02: what the system shows -/
def rs02 (x t u : Nat) (v3 v4 v5 : Option Val) : Rho := [some (.loc x), some (.loc t), some (.loc u), v3, v4, v5]
section
variable {μ : Mu} {b x t u : Nat} {z : Nat} {c : Int} {v : Sv} {rows : List (Int × Int)} {T U : Int → Int}
theorem num_eq (h : M02 μ b x t u z c v rows T U) {v3 v4 v5 : Option Val} : Goes (m__law_shows_1 (rs02 x t u v3 v4 v5) μ) fun ρ' μ' => ρ' = rs02 x t u v3 v4 v5 ∧ Kee [] μ μ' := by
  have n1 := nums_ok (x := x) (μ := μ) h.K.toS1.lk0
  obtain ⟨μ1, hμ1⟩ : ∃ μ1, μ.new (.lst (numsV v rows)) = μ1 := ⟨_, rfl⟩
  rw [hμ1] at n1
  have o1 : μ1.ob μ.nx = some (.lst (numsV v rows)) := by rw [← hμ1]; exact Mu.new_same _ _
  have l1 : μ1.nx = μ.nx + 1 := by rw [← hμ1]; rfl
  have k1 : Kee [] μ μ1 := by rw [← hμ1]; exact Kee.new
  have hx0 := h.hx
  have hit : iSeq (mMeth (numsM) ([]) (mV 0) (mCons (mC (.int 0)) (mNil))) (rs02 x t u v3 v4 v5) μ = .ok (.seq (.loc μ.nx)) μ1 := by
    unfold rs02
    simp only [mChain, isiM, sDst2, neD0M, Wn.R.bind_ok, Wn.R.bind_no, Wn.R.cut_ok, Wn.R.cut_no, sThen_nx, sThen_rt, sThen_bk, sThen_ct, mC, mV, mNil, mCons, mTup, mLst, mOp, mUn, mFn, mMt, boolM, mTest, mAnd, mOr, mNot, mIf, mBl, mAndV, mOrV, mNotV, mAndT, mOrT, truM, List.isEmpty_cons, List.isEmpty_nil, addM, subM, mulM, modM, fdivM, powM, negM, ltM, leM, gtM, geM, cmpI, isM', isntM, isNon, getM, dgetM, slM, mSl, mP, mP0, lenM, listM, tupleM, minM, maxM, absM, intM, sortedM, mBm, lstOf, appM, popM, extM, idxM, remLM, sNil, sSeq, sSet, sExpr, sRet, sRetN, sIf, sBrk, sCnt, sPar, sPar3, sAsg, tgN, tgT, unp, stoM, dstoM, sSto, Wk.items, iSeq, iRng1, iRng2, iEnm, mCall, mMeth, sysOf, onSys, mMethK, mMake, mMakeK, makM, mYes, mListR1, mListR2, intBM, startV, seqOf, keyOf, List.getElem?_cons_zero, List.getElem?_cons_succ, List.getElem?_nil, List.set_cons_zero, List.set_cons_succ, List.map_cons, List.map_nil, List.length_cons, List.length_nil, List.cons_append, List.nil_append, List.append_nil, List.replicate, Nat.reduceAdd, Nat.reduceSub, Nat.reduceLeDiff, Nat.reduceLT, Nat.reduceEqDiff, Int.reduceLT, Int.reduceLE, Int.reduceNeg, Int.reducePow, ite_true, ite_false, if_true, if_false, reduceIte, Bool.false_eq_true, Bool.true_eq_false, Bool.not_true, Bool.not_false, and_self, and_true, true_and, Mu.put_same, Mu.new_same, Mu.put_nx, Mu.new_nx, Nat.zero_add, Nat.le_refl, Goes_nx, Gets_ok, Rets_nx, Rets_rt, CMul, CDiv, CPow, or_true, true_or, or_self, not_true, not_false_iff, mDm, dctV, popDM, getDM, mDisp, mPrs, kvOf, decide_false, decide_true, Int.reduceToNat, Nat.reducePow, Int.reduceAdd, Int.reduceSub, Int.reduceMul, hx0, n1, o1]
  have hlen : (srtI (rows.map (·.1))).length ≤ 8 := by
    rw [srtI_len, List.length_map]
    exact h.K.toS1.len
  have L := mLc_pure (it := iSeq (mMeth (numsM) ([]) (mV 0) (mCons (mC (.int 0)) (mNil)))) (own := [3, 4]) (g := tgT [3, 4]) (c := mYes) (elt := mV 3) (ρ0 := rs02 x t u v3 v4 v5) (μ0 := μ) (μ := μ1) (k := .seq (.loc μ.nx)) (vs := numsV v rows) (rv := fun y => match y with | .tup [a, e] => rs02 x t u (some a) (some e) v5 | _ => []) (p := fun _ => true) (f := fun y => match y with | .tup [a, _] => a | _ => .non) hit (seqOf_lst o1) (by unfold numsV; rw [List.length_map]; omega)
    (fun acc => seqOf_lst ((Mu.new_ne _ _ (by omega)).trans o1)) (fun y hy => by
      obtain ⟨n, hn, rfl⟩ := List.mem_map.mp hy
      rfl) (fun _ _ _ => rfl) (fun y hy _ acc => by
      obtain ⟨n, hn, rfl⟩ := List.mem_map.mp hy
      rfl)
  have eF : ((numsV v rows).filter fun _ => true).map (fun y => match y with | .tup [a, _] => a | _ => Val.non) = (srtI (rows.map (·.1))).map Val.int := by
    rw [List.filter_eq_self.mpr fun _ _ => rfl]
    unfold numsV
    rw [List.map_map]
    rfl
  rw [eF] at L
  obtain ⟨μ2, hμ2⟩ : ∃ μ2, μ1.new (.lst ((srtI (rows.map (·.1))).map Val.int)) = μ2 := ⟨_, rfl⟩
  rw [hμ2] at L
  have k2 : Kee [] μ1 μ2 := by rw [← hμ2]; exact Kee.new
  have l2 : μ2.nx = μ1.nx + 1 := by rw [← hμ2]; rfl
  have o2 : μ2.ob μ1.nx = some (.lst ((srtI (rows.map (·.1))).map Val.int)) := by rw [← hμ2]; exact Mu.new_same _ _
  obtain ⟨kvs, od, d⟩ := (h.any (k1.trans k2)).dt
  have so := sortD_ok (μ := μ2) (t := t) (by unfold dctOf; rw [od]) d h.K.toS1.nd (by have := h.K.toS1.len; omega)
  have o3 : (μ2.new (.lst ((srtI (rows.map (·.1))).map Val.int))).ob μ1.nx = some (.lst ((srtI (rows.map (·.1))).map Val.int)) := (Mu.new_ne _ _ (by omega)).trans o2
  have d1 := dat_ints (seqOf_lst o3)
  have d2 := dat_ints (seqOf_lst (Mu.new_same μ2 (.lst ((srtI (rows.map (·.1))).map Val.int))))
  have Te : mTest (mOp neM (mLc (iSeq (mMeth (numsM) ([]) (mV 0) (mCons (mC (.int 0)) (mNil)))) [3, 4] (tgT [3, 4]) (mYes) (mV 3)) (mFn sortDM (mCons (mV 1) (mNil)))) (rs02 x t u v3 v4 v5) μ = .ok false (μ2.new (.lst ((srtI (rows.map (·.1))).map Val.int))) := by
    refine test2 L (show mFn sortDM (mCons (mV 1) mNil) (rs02 x t u v3 v4 v5) μ2 = .ok (.loc μ2.nx) (μ2.new (.lst ((srtI (rows.map (·.1))).map Val.int))) from by unfold rs02; simp only [mChain, isiM, sDst2, neD0M, Wn.R.bind_ok, Wn.R.bind_no, Wn.R.cut_ok, Wn.R.cut_no, sThen_nx, sThen_rt, sThen_bk, sThen_ct, mC, mV, mNil, mCons, mTup, mLst, mOp, mUn, mFn, mMt, boolM, mTest, mAnd, mOr, mNot, mIf, mBl, mAndV, mOrV, mNotV, mAndT, mOrT, truM, List.isEmpty_cons, List.isEmpty_nil, addM, subM, mulM, modM, fdivM, powM, negM, ltM, leM, gtM, geM, cmpI, isM', isntM, isNon, getM, dgetM, slM, mSl, mP, mP0, lenM, listM, tupleM, minM, maxM, absM, intM, sortedM, mBm, lstOf, appM, popM, extM, idxM, remLM, sNil, sSeq, sSet, sExpr, sRet, sRetN, sIf, sBrk, sCnt, sPar, sPar3, sAsg, tgN, tgT, unp, stoM, dstoM, sSto, Wk.items, iSeq, iRng1, iRng2, iEnm, mCall, mMeth, sysOf, onSys, mMethK, mMake, mMakeK, makM, mYes, mListR1, mListR2, intBM, startV, seqOf, keyOf, List.getElem?_cons_zero, List.getElem?_cons_succ, List.getElem?_nil, List.set_cons_zero, List.set_cons_succ, List.map_cons, List.map_nil, List.length_cons, List.length_nil, List.cons_append, List.nil_append, List.append_nil, List.replicate, Nat.reduceAdd, Nat.reduceSub, Nat.reduceLeDiff, Nat.reduceLT, Nat.reduceEqDiff, Int.reduceLT, Int.reduceLE, Int.reduceNeg, Int.reducePow, ite_true, ite_false, if_true, if_false, reduceIte, Bool.false_eq_true, Bool.true_eq_false, Bool.not_true, Bool.not_false, and_self, and_true, true_and, Mu.put_same, Mu.new_same, Mu.put_nx, Mu.new_nx, Nat.zero_add, Nat.le_refl, Goes_nx, Gets_ok, Rets_nx, Rets_rt, CMul, CDiv, CPow, or_true, true_or, or_self, not_true, not_false_iff, mDm, dctV, popDM, getDM, mDisp, mPrs, kvOf, decide_false, decide_true, Int.reduceToNat, Nat.reducePow, Int.reduceAdd, Int.reduceSub, Int.reduceMul, so]) ?_
    simp only [mChain, isiM, sDst2, neD0M, Wn.R.bind_ok, Wn.R.bind_no, Wn.R.cut_ok, Wn.R.cut_no, sThen_nx, sThen_rt, sThen_bk, sThen_ct, mC, mV, mNil, mCons, mTup, mLst, mOp, mUn, mFn, mMt, boolM, mTest, mAnd, mOr, mNot, mIf, mBl, mAndV, mOrV, mNotV, mAndT, mOrT, truM, List.isEmpty_cons, List.isEmpty_nil, addM, subM, mulM, modM, fdivM, powM, negM, ltM, leM, gtM, geM, cmpI, isM', isntM, isNon, getM, dgetM, slM, mSl, mP, mP0, lenM, listM, tupleM, minM, maxM, absM, intM, sortedM, mBm, lstOf, appM, popM, extM, idxM, remLM, sNil, sSeq, sSet, sExpr, sRet, sRetN, sIf, sBrk, sCnt, sPar, sPar3, sAsg, tgN, tgT, unp, stoM, dstoM, sSto, Wk.items, iSeq, iRng1, iRng2, iEnm, mCall, mMeth, sysOf, onSys, mMethK, mMake, mMakeK, makM, mYes, mListR1, mListR2, intBM, startV, seqOf, keyOf, List.getElem?_cons_zero, List.getElem?_cons_succ, List.getElem?_nil, List.set_cons_zero, List.set_cons_succ, List.map_cons, List.map_nil, List.length_cons, List.length_nil, List.cons_append, List.nil_append, List.append_nil, List.replicate, Nat.reduceAdd, Nat.reduceSub, Nat.reduceLeDiff, Nat.reduceLT, Nat.reduceEqDiff, Int.reduceLT, Int.reduceLE, Int.reduceNeg, Int.reducePow, ite_true, ite_false, if_true, if_false, reduceIte, Bool.false_eq_true, Bool.true_eq_false, Bool.not_true, Bool.not_false, and_self, and_true, true_and, Mu.put_same, Mu.new_same, Mu.put_nx, Mu.new_nx, Nat.zero_add, Nat.le_refl, Goes_nx, Gets_ok, Rets_nx, Rets_rt, CMul, CDiv, CPow, or_true, true_or, or_self, not_true, not_false_iff, mDm, dctV, popDM, getDM, mDisp, mPrs, kvOf, decide_false, decide_true, Int.reduceToNat, Nat.reducePow, Int.reduceAdd, Int.reduceSub, Int.reduceMul, neM, d1, d2, eqv_ints]
  unfold m__law_shows_1
  rw [if_no Te]
  exact ⟨rfl, (k1.trans k2).trans Kee.new⟩
theorem eqv_bl (a e : Bool) : PyData.eqv (.bool a) (.bool e) = (a == e) := rfl
theorem pairs_eq (h : M02 μ b x t u z c v rows T U) {v3 v4 v5 : Option Val} : Goes (sLk 1 (sFor (iKey 1) (tgN 3) (m__law_shows_4)) (rs02 x t u v3 v4 v5) μ) fun ρ' μ' => (∃ v3 v5, ρ' = rs02 x t u v3 v4 v5) ∧ M02 μ' b x t u z c v rows T U ∧ Kee [t] μ μ' := by
  obtain ⟨kvs, od, d⟩ := h.dt
  obtain ⟨uks, ou, ur⟩ := h.du
  obtain ⟨n_bx, n_bt, n_bu, n_xt, n_xu, n_tu⟩ := h.ne
  obtain ⟨l, i1, i2, i3, i4⟩ := d.keys
  have it : kvs.map (fun p => keyV p.1) = l.map Val.int := by
    have : kvs.map (fun p => keyV p.1) = (kvs.map (·.1)).map keyV := by rw [List.map_map]; rfl
    rw [this, i2, List.map_map]
    rfl
  unfold sLk
  simp only [show (rs02 x t u v3 v4 v5)[1]? = some (some (.loc t)) from rfl, od]
  refine Goes.unlk (kvs := kvs) ?_
  obtain ⟨μL, hμL⟩ : ∃ μL, μ.put t (.rod kvs) = μL := ⟨_, rfl⟩
  have kL : Kee [t] μ μL := by rw [← hμL]; exact Kee.put (by simp)
  have oL : μL.ob t = some (.rod kvs) := by rw [← hμL]; exact Mu.put_same _ _ _
  have xL : μL.ob x = some (.sys v) := (kL.ob _ h.xl (by simp [n_xt])).trans h.hx
  have uL : μL.ob u = some (.dct uks) := (kL.ob _ h.ul (by simp [Ne.symm n_tu])).trans ou
  rw [hμL]
  have mem : ∀ {j : Nat} {y : Val}, (l.map Val.int)[j]? = some y → ∃ n ser, y = .int n ∧ lk rows n = some ser ∧ kGet kvs (.inl n) = some (.int (T ser)) := fun {j y} hy => by
    obtain ⟨n, hn, rfl⟩ := List.mem_map.mp (List.mem_of_getElem? hy)
    obtain ⟨ser, hs⟩ := lk_some_of ((i4 n).mp hn)
    have hg := d.get n
    rw [hs] at hg
    exact ⟨n, ser, rfl, hs, hg⟩
  refine sFor_goes (k := .key t) (μ1 := μL) (vs := l.map Val.int) ?_ ?_ (fun _ ρ μi => (∃ v3 v5, ρ = rs02 x t u v3 v4 v5) ∧ Kee [] μL μi) ⟨⟨_, _, rfl⟩, Kee.refl _ _⟩ ?_ ?_ ?_
  · unfold iKey
    simp only [show (rs02 x t u v3 v4 v5)[1]? = some (some (.loc t)) from rfl, oL]
  · rw [key_items oL, it]
  · rintro j ρ μi _ ⟨_, kp⟩
    rw [key_items ((kp.ob _ (kL.lt h.tl) (by simp)).trans oL), it]
  · rintro j y ρ μi hy ⟨⟨v3, v5, rfl⟩, kp⟩
    obtain ⟨n, a, rfl, hn, gn⟩ := mem hy
    refine ⟨_, rfl, ?_⟩
    show Goes (m__law_shows_4 (rs02 x t u (some (.int n)) v4 v5) μi) _
    have oi := (kp.ob _ (kL.lt h.tl) (by simp)).trans oL
    have xi := (kp.ob _ (kL.lt h.xl) (by simp)).trans xL
    have ui := (kp.ob _ (kL.lt h.ul) (by simp)).trans uL
    obtain ⟨_, a0, a1⟩ := h.K.toS1.ser hn
    have gu := ur.get a a0 a1
    have un := uni_ok (x := x) (μ := μi) h.K.toS1.lk0 hn (h.K.src n a hn)
    have du : ∀ w : Int, datM μi (.tup [.int w, .bl false]) = some (.tuple [.int w, .bool false]) := fun _ => rfl
    have ee : PyData.eqv (.tuple [.int (U a), .bool false]) (.tuple [.int (U a), .bool false]) = true := by
      show (U a == U a && true) = true
      rw [beq_self_eq_true]
      rfl
    have S2 : m__law_shows_2 (rs02 x t u (some (.int n)) v4 v5) μi = .ok (.nx (rs02 x t u (some (.int n)) v4 v5)) μi := by
      unfold m__law_shows_2 rs02
      simp only [mChain, isiM, sDst2, neD0M, Wn.R.bind_ok, Wn.R.bind_no, Wn.R.cut_ok, Wn.R.cut_no, sThen_nx, sThen_rt, sThen_bk, sThen_ct, mC, mV, mNil, mCons, mTup, mLst, mOp, mUn, mFn, mMt, boolM, mTest, mAnd, mOr, mNot, mIf, mBl, mAndV, mOrV, mNotV, mAndT, mOrT, truM, List.isEmpty_cons, List.isEmpty_nil, addM, subM, mulM, modM, fdivM, powM, negM, ltM, leM, gtM, geM, cmpI, isM', isntM, isNon, getM, dgetM, slM, mSl, mP, mP0, lenM, listM, tupleM, minM, maxM, absM, intM, sortedM, mBm, lstOf, appM, popM, extM, idxM, remLM, sNil, sSeq, sSet, sExpr, sRet, sRetN, sIf, sBrk, sCnt, sPar, sPar3, sAsg, tgN, tgT, unp, stoM, dstoM, sSto, Wk.items, iSeq, iRng1, iRng2, iEnm, mCall, mMeth, sysOf, onSys, mMethK, mMake, mMakeK, makM, mYes, mListR1, mListR2, intBM, startV, seqOf, keyOf, List.getElem?_cons_zero, List.getElem?_cons_succ, List.getElem?_nil, List.set_cons_zero, List.set_cons_succ, List.map_cons, List.map_nil, List.length_cons, List.length_nil, List.cons_append, List.nil_append, List.append_nil, List.replicate, Nat.reduceAdd, Nat.reduceSub, Nat.reduceLeDiff, Nat.reduceLT, Nat.reduceEqDiff, Int.reduceLT, Int.reduceLE, Int.reduceNeg, Int.reducePow, ite_true, ite_false, if_true, if_false, reduceIte, Bool.false_eq_true, Bool.true_eq_false, Bool.not_true, Bool.not_false, and_self, and_true, true_and, Mu.put_same, Mu.new_same, Mu.put_nx, Mu.new_nx, Nat.zero_add, Nat.le_refl, Goes_nx, Gets_ok, Rets_nx, Rets_rt, CMul, CDiv, CPow, or_true, true_or, or_self, not_true, not_false_iff, mDm, dctV, popDM, getDM, mDisp, mPrs, kvOf, decide_false, decide_true, Int.reduceToNat, Nat.reducePow, Int.reduceAdd, Int.reduceSub, Int.reduceMul, xi, un, dctOf, oi, gn, ui, gu, neM, du, ee]
    unfold m__law_shows_4 sLk
    rw [seq_nx S2]
    simp only [show (rs02 x t u (some (.int n)) v4 v5)[1]? = some (some (.loc t)) from rfl, oi]
    refine sFor_goes (k := .key t) (μ1 := μi) (vs := l.map Val.int) ?_ ?_ (fun _ ρ μj => (∃ v5, ρ = rs02 x t u (some (.int n)) v4 v5) ∧ Kee [] μL μj) ⟨⟨_, rfl⟩, kp⟩ ?_ ?_ ?_
    · unfold iKey
      simp only [show (rs02 x t u (some (.int n)) v4 v5)[1]? = some (some (.loc t)) from rfl, oi]
    · rw [key_items oi, it]
    · rintro j ρ μj _ ⟨_, kp⟩
      rw [key_items ((kp.ob _ (kL.lt h.tl) (by simp)).trans oL), it]
    · rintro j y ρ μj hy ⟨⟨v5, rfl⟩, kp⟩
      obtain ⟨m, e, rfl, hm, gm⟩ := mem hy
      refine ⟨_, rfl, ?_⟩
      show Goes (m__law_shows_3 (rs02 x t u (some (.int n)) v4 (some (.int m))) μj) _
      have oj := (kp.ob _ (kL.lt h.tl) (by simp)).trans oL
      have xj := (kp.ob _ (kL.lt h.xl) (by simp)).trans xL
      have sm := sam_ok (x := x) (μ := μj) h.K.toS1.lk0 hn h.K.toS1.lk0 hm
      obtain ⟨_, e0, e1⟩ := h.K.toS1.ser hm
      have eq : (T a == T e) = decide (a = e) := by
        by_cases c : a = e
        · subst c
          simp
        · rw [decide_eq_false c]
          have : T a ≠ T e := fun z => c (h.K.inj a e a0 a1 e0 e1 z)
          simp [this]
      have db : ∀ w : Bool, datM μj (.bl w) = some (.bool w) := fun _ => rfl
      have S3 : m__law_shows_3 (rs02 x t u (some (.int n)) v4 (some (.int m))) μj = .ok (.nx (rs02 x t u (some (.int n)) v4 (some (.int m)))) μj := by
        unfold m__law_shows_3 rs02
        simp only [mChain, isiM, sDst2, neD0M, Wn.R.bind_ok, Wn.R.bind_no, Wn.R.cut_ok, Wn.R.cut_no, sThen_nx, sThen_rt, sThen_bk, sThen_ct, mC, mV, mNil, mCons, mTup, mLst, mOp, mUn, mFn, mMt, boolM, mTest, mAnd, mOr, mNot, mIf, mBl, mAndV, mOrV, mNotV, mAndT, mOrT, truM, List.isEmpty_cons, List.isEmpty_nil, addM, subM, mulM, modM, fdivM, powM, negM, ltM, leM, gtM, geM, cmpI, isM', isntM, isNon, getM, dgetM, slM, mSl, mP, mP0, lenM, listM, tupleM, minM, maxM, absM, intM, sortedM, mBm, lstOf, appM, popM, extM, idxM, remLM, sNil, sSeq, sSet, sExpr, sRet, sRetN, sIf, sBrk, sCnt, sPar, sPar3, sAsg, tgN, tgT, unp, stoM, dstoM, sSto, Wk.items, iSeq, iRng1, iRng2, iEnm, mCall, mMeth, sysOf, onSys, mMethK, mMake, mMakeK, makM, mYes, mListR1, mListR2, intBM, startV, seqOf, keyOf, List.getElem?_cons_zero, List.getElem?_cons_succ, List.getElem?_nil, List.set_cons_zero, List.set_cons_succ, List.map_cons, List.map_nil, List.length_cons, List.length_nil, List.cons_append, List.nil_append, List.append_nil, List.replicate, Nat.reduceAdd, Nat.reduceSub, Nat.reduceLeDiff, Nat.reduceLT, Nat.reduceEqDiff, Int.reduceLT, Int.reduceLE, Int.reduceNeg, Int.reducePow, ite_true, ite_false, if_true, if_false, reduceIte, Bool.false_eq_true, Bool.true_eq_false, Bool.not_true, Bool.not_false, and_self, and_true, true_and, Mu.put_same, Mu.new_same, Mu.put_nx, Mu.new_nx, Nat.zero_add, Nat.le_refl, Goes_nx, Gets_ok, Rets_nx, Rets_rt, CMul, CDiv, CPow, or_true, true_or, or_self, not_true, not_false_iff, mDm, dctV, popDM, getDM, mDisp, mPrs, kvOf, decide_false, decide_true, Int.reduceToNat, Nat.reducePow, Int.reduceAdd, Int.reduceSub, Int.reduceMul, xj, sm, dctOf, oj, gn, gm, eqM, dat_int, eqv_int, eq, neM, db, eqv_bl, beq_self_eq_true]
      rw [S3]
      exact ⟨⟨_, rfl⟩, kp⟩
    · rintro ρ μj ⟨⟨v5, rfl⟩, kp⟩
      exact ⟨⟨_, _, rfl⟩, kp⟩
  · rintro ρ μi ⟨⟨v3, v5, rfl⟩, kp⟩
    have kk : Kee [t] μ (μi.put t (.dct kvs)) := (kL.trans (kp.mono (by simp))).putN (.inr (by simp))
    exact ⟨(kp.ob _ (kL.lt h.tl) (by simp)).trans oL, ⟨_, _, rfl⟩, ⟨h.bg.keep kk (by simp [n_bt]), (kk.ob _ h.xl (by simp [n_xt])).trans h.hx, h.K, ⟨kvs, Mu.put_same _ _ _, d⟩, ⟨uks, (kk.ob _ h.ul (by simp [Ne.symm n_tu])).trans ou, ur⟩, kk.lt h.xl, kk.lt h.tl, kk.lt h.ul, h.ne⟩, kk⟩
theorem shows_eq (h : M02 μ b x t u z c v rows T U) : Gets (d__law_shows [.loc x, .loc t, .loc u] μ) fun r μ' => r = .bl true ∧ M02 μ' b x t u z c v rows T U ∧ Kee [t] μ μ' := by
  refine Gets.run rfl ?_
  have e0 : startV 6 [.loc x, .loc t, .loc u] = rs02 x t u none none none := rfl
  rw [e0]
  unfold m__law_shows
  obtain ⟨ρ1, μ1, e1, rfl, k1⟩ := (num_eq h (v3 := none) (v4 := none) (v5 := none)).ex
  rw [seq_nx e1]
  obtain ⟨ρ2, μ2, e2, ⟨v3, v5, rfl⟩, h2, k2⟩ := (pairs_eq (h.any k1) (v3 := none) (v4 := none) (v5 := none)).ex
  rw [seq_nx e2]
  simp only [mChain, isiM, sDst2, neD0M, Wn.R.bind_ok, Wn.R.bind_no, Wn.R.cut_ok, Wn.R.cut_no, sThen_nx, sThen_rt, sThen_bk, sThen_ct, mC, mV, mNil, mCons, mTup, mLst, mOp, mUn, mFn, mMt, boolM, mTest, mAnd, mOr, mNot, mIf, mBl, mAndV, mOrV, mNotV, mAndT, mOrT, truM, List.isEmpty_cons, List.isEmpty_nil, addM, subM, mulM, modM, fdivM, powM, negM, ltM, leM, gtM, geM, cmpI, isM', isntM, isNon, getM, dgetM, slM, mSl, mP, mP0, lenM, listM, tupleM, minM, maxM, absM, intM, sortedM, mBm, lstOf, appM, popM, extM, idxM, remLM, sNil, sSeq, sSet, sExpr, sRet, sRetN, sIf, sBrk, sCnt, sPar, sPar3, sAsg, tgN, tgT, unp, stoM, dstoM, sSto, Wk.items, iSeq, iRng1, iRng2, iEnm, mCall, mMeth, sysOf, onSys, mMethK, mMake, mMakeK, makM, mYes, mListR1, mListR2, intBM, startV, seqOf, keyOf, List.getElem?_cons_zero, List.getElem?_cons_succ, List.getElem?_nil, List.set_cons_zero, List.set_cons_succ, List.map_cons, List.map_nil, List.length_cons, List.length_nil, List.cons_append, List.nil_append, List.append_nil, List.replicate, Nat.reduceAdd, Nat.reduceSub, Nat.reduceLeDiff, Nat.reduceLT, Nat.reduceEqDiff, Int.reduceLT, Int.reduceLE, Int.reduceNeg, Int.reducePow, ite_true, ite_false, if_true, if_false, reduceIte, Bool.false_eq_true, Bool.true_eq_false, Bool.not_true, Bool.not_false, and_self, and_true, true_and, Mu.put_same, Mu.new_same, Mu.put_nx, Mu.new_nx, Nat.zero_add, Nat.le_refl, Goes_nx, Gets_ok, Rets_nx, Rets_rt, CMul, CDiv, CPow, or_true, true_or, or_self, not_true, not_false_iff, mDm, dctV, popDM, getDM, mDisp, mPrs, kvOf, decide_false, decide_true, Int.reduceToNat, Nat.reducePow, Int.reduceAdd, Int.reduceSub, Int.reduceMul]
  exact ⟨h2, (k1.mono (by simp)).trans k2⟩
end

/-! ### k02: draws, a number closed, a turn -/
section
variable {μ : Mu} {s b x t u : Nat} {z : Nat} {c : Int} {v : Sv} {rows : List (Int × Int)} {T U : Int → Int} {v1 v8 v9 v10 : Option Val}
theorem six_eq {c' : Int} (h : M02 μ b x t u z c v rows T U) (z8 : z ≤ 8) : ∃ n m μ', m_law_6 (r02 s v1 b z x t u c' v8 v9 v10) μ = .ok (.nx (r02 s v1 b z x t u c' (some (.int n)) (some (.int m)) v10)) μ' ∧ (0 ≤ n ∧ n ≤ 100) ∧ (-1 ≤ m ∧ m ≤ 100) ∧ M02 μ' b x t u z c v rows T U ∧ Kee [b] μ μ' := by
  obtain ⟨n, μ1, e1, n0, n1, k1, b1, _⟩ := take_eq h.bg (n := (z : Int) + 1) (by omega) (by omega)
  have h1 := h.draw k1 b1
  obtain ⟨m, μ2, e2, m0, m1, k2, b2, _⟩ := take_eq b1 (n := (z : Int) + 2) (by omega) (by omega)
  refine ⟨n, m - 1, μ2, ?_, ⟨n0, by omega⟩, ⟨by omega, by omega⟩, h1.draw k2 b2, k1.trans k2⟩
  unfold m_law_6 r02
  simp only [mChain, isiM, sDst2, neD0M, Wn.R.bind_ok, Wn.R.bind_no, Wn.R.cut_ok, Wn.R.cut_no, sThen_nx, sThen_rt, sThen_bk, sThen_ct, mC, mV, mNil, mCons, mTup, mLst, mOp, mUn, mFn, mMt, boolM, mTest, mAnd, mOr, mNot, mIf, mBl, mAndV, mOrV, mNotV, mAndT, mOrT, truM, List.isEmpty_cons, List.isEmpty_nil, addM, subM, mulM, modM, fdivM, powM, negM, ltM, leM, gtM, geM, cmpI, isM', isntM, isNon, getM, dgetM, slM, mSl, mP, mP0, lenM, listM, tupleM, minM, maxM, absM, intM, sortedM, mBm, lstOf, appM, popM, extM, idxM, remLM, sNil, sSeq, sSet, sExpr, sRet, sRetN, sIf, sBrk, sCnt, sPar, sPar3, sAsg, tgN, tgT, unp, stoM, dstoM, sSto, Wk.items, iSeq, iRng1, iRng2, iEnm, mCall, mMeth, sysOf, onSys, mMethK, mMake, mMakeK, makM, mYes, mListR1, mListR2, intBM, startV, seqOf, keyOf, List.getElem?_cons_zero, List.getElem?_cons_succ, List.getElem?_nil, List.set_cons_zero, List.set_cons_succ, List.map_cons, List.map_nil, List.length_cons, List.length_nil, List.cons_append, List.nil_append, List.append_nil, List.replicate, Nat.reduceAdd, Nat.reduceSub, Nat.reduceLeDiff, Nat.reduceLT, Nat.reduceEqDiff, Int.reduceLT, Int.reduceLE, Int.reduceNeg, Int.reducePow, ite_true, ite_false, if_true, if_false, reduceIte, Bool.false_eq_true, Bool.true_eq_false, Bool.not_true, Bool.not_false, and_self, and_true, true_and, Mu.put_same, Mu.new_same, Mu.put_nx, Mu.new_nx, Nat.zero_add, Nat.le_refl, Goes_nx, Gets_ok, Rets_nx, Rets_rt, CMul, CDiv, CPow, or_true, true_or, or_self, not_true, not_false_iff, mDm, dctV, popDM, getDM, mDisp, mPrs, kvOf, decide_false, decide_true, Int.reduceToNat, Nat.reducePow, Int.reduceAdd, Int.reduceSub, Int.reduceMul, e1, e2]
theorem seven_eq {c' : Int} (h : M02 μ b x t u z c v rows T U) {m : Int} (hm : -1 ≤ m ∧ m ≤ 100) : ∃ y μ', m_law_7 (r02 s v1 b z x t u c' v8 (some (.int m)) v10) μ = .ok (.nx (r02 s v1 b z x t u c' v8 (some y) v10)) μ' ∧ (y = .non ∨ Y02 μ' y) ∧ M02 μ' b x t u z c v rows T U ∧ Kee [b] μ μ' := by
  obtain ⟨μ1, hμ1⟩ : ∃ μ1, μ.new (.lst [.int 0]) = μ1 := ⟨_, rfl⟩
  have l1 : μ1.nx = μ.nx + 1 := by rw [← hμ1]; rfl
  have o1 : μ1.ob μ.nx = some (.lst [.int 0]) := by rw [← hμ1]; exact Mu.new_same _ _
  have k1 : Kee [] μ μ1 := by rw [← hμ1]; exact Kee.new
  obtain ⟨xs, hxs⟩ : ∃ xs, [Val.int m, .int m, .int m, .non, .bl true, .str "1", .tup [.int 1], .loc μ.nx, .int 10000000000000000000] = xs := ⟨_, rfl⟩
  have lx : xs.length = 9 := by rw [← hxs]; rfl
  obtain ⟨μ2, hμ2⟩ : ∃ μ2, μ1.new (.lst xs) = μ2 := ⟨_, rfl⟩
  have k2 : Kee [] μ1 μ2 := by rw [← hμ2]; exact Kee.new
  have o2 : μ2.ob μ1.nx = some (.lst xs) := by rw [← hμ2]; exact Mu.new_same _ _
  have l2 : μ2.nx = μ1.nx + 1 := by rw [← hμ2]; rfl
  have h2 := h.any (k1.trans k2)
  have bl := h.bg.1
  obtain ⟨y, μ3, e3, my, k3, b3, l3⟩ := of_eq h2.bg (l := μ1.nx) (seqOf_lst o2) (by omega) (by omega) (by omega) (by omega)
  have h3 := h2.draw k3 b3
  have o3 : μ3.ob μ.nx = some (.lst [.int 0]) := (k3.ob _ (by omega) (by simp; omega)).trans ((k2.ob _ (by omega) (by simp)).trans o1)
  refine ⟨y, μ3, ?_, ?_, h3, ((k1.trans k2).mono (by simp)).trans k3⟩
  · have hb : (xs.length ≤ 1000) = True := eq_true (by omega)
    unfold m_law_7 r02
    simp only [mChain, isiM, sDst2, neD0M, Wn.R.bind_ok, Wn.R.bind_no, Wn.R.cut_ok, Wn.R.cut_no, sThen_nx, sThen_rt, sThen_bk, sThen_ct, mC, mV, mNil, mCons, mTup, mLst, mOp, mUn, mFn, mMt, boolM, mTest, mAnd, mOr, mNot, mIf, mBl, mAndV, mOrV, mNotV, mAndT, mOrT, truM, List.isEmpty_cons, List.isEmpty_nil, addM, subM, mulM, modM, fdivM, powM, negM, ltM, leM, gtM, geM, cmpI, isM', isntM, isNon, getM, dgetM, slM, mSl, mP, mP0, lenM, listM, tupleM, minM, maxM, absM, intM, sortedM, mBm, lstOf, appM, popM, extM, idxM, remLM, sNil, sSeq, sSet, sExpr, sRet, sRetN, sIf, sBrk, sCnt, sPar, sPar3, sAsg, tgN, tgT, unp, stoM, dstoM, sSto, Wk.items, iSeq, iRng1, iRng2, iEnm, mCall, mMeth, sysOf, onSys, mMethK, mMake, mMakeK, makM, mYes, mListR1, mListR2, intBM, startV, seqOf, keyOf, List.getElem?_cons_zero, List.getElem?_cons_succ, List.getElem?_nil, List.set_cons_zero, List.set_cons_succ, List.map_cons, List.map_nil, List.length_cons, List.length_nil, List.cons_append, List.nil_append, List.append_nil, List.replicate, Nat.reduceAdd, Nat.reduceSub, Nat.reduceLeDiff, Nat.reduceLT, Nat.reduceEqDiff, Int.reduceLT, Int.reduceLE, Int.reduceNeg, Int.reducePow, ite_true, ite_false, if_true, if_false, reduceIte, Bool.false_eq_true, Bool.true_eq_false, Bool.not_true, Bool.not_false, and_self, and_true, true_and, Mu.put_same, Mu.new_same, Mu.put_nx, Mu.new_nx, Nat.zero_add, Nat.le_refl, Goes_nx, Gets_ok, Rets_nx, Rets_rt, CMul, CDiv, CPow, or_true, true_or, or_self, not_true, not_false_iff, mDm, dctV, popDM, getDM, mDisp, mPrs, kvOf, decide_false, decide_true, Int.reduceToNat, Nat.reducePow, Int.reduceAdd, Int.reduceSub, Int.reduceMul, hμ1, show Int.natAbs 10 = 10 from rfl, hxs, hb, hμ2]
    rw [l1] at e3
    simp only [mChain, isiM, sDst2, neD0M, Wn.R.bind_ok, Wn.R.bind_no, Wn.R.cut_ok, Wn.R.cut_no, sThen_nx, sThen_rt, sThen_bk, sThen_ct, mC, mV, mNil, mCons, mTup, mLst, mOp, mUn, mFn, mMt, boolM, mTest, mAnd, mOr, mNot, mIf, mBl, mAndV, mOrV, mNotV, mAndT, mOrT, truM, List.isEmpty_cons, List.isEmpty_nil, addM, subM, mulM, modM, fdivM, powM, negM, ltM, leM, gtM, geM, cmpI, isM', isntM, isNon, getM, dgetM, slM, mSl, mP, mP0, lenM, listM, tupleM, minM, maxM, absM, intM, sortedM, mBm, lstOf, appM, popM, extM, idxM, remLM, sNil, sSeq, sSet, sExpr, sRet, sRetN, sIf, sBrk, sCnt, sPar, sPar3, sAsg, tgN, tgT, unp, stoM, dstoM, sSto, Wk.items, iSeq, iRng1, iRng2, iEnm, mCall, mMeth, sysOf, onSys, mMethK, mMake, mMakeK, makM, mYes, mListR1, mListR2, intBM, startV, seqOf, keyOf, List.getElem?_cons_zero, List.getElem?_cons_succ, List.getElem?_nil, List.set_cons_zero, List.set_cons_succ, List.map_cons, List.map_nil, List.length_cons, List.length_nil, List.cons_append, List.nil_append, List.append_nil, List.replicate, Nat.reduceAdd, Nat.reduceSub, Nat.reduceLeDiff, Nat.reduceLT, Nat.reduceEqDiff, Int.reduceLT, Int.reduceLE, Int.reduceNeg, Int.reducePow, ite_true, ite_false, if_true, if_false, reduceIte, Bool.false_eq_true, Bool.true_eq_false, Bool.not_true, Bool.not_false, and_self, and_true, true_and, Mu.put_same, Mu.new_same, Mu.put_nx, Mu.new_nx, Nat.zero_add, Nat.le_refl, Goes_nx, Gets_ok, Rets_nx, Rets_rt, CMul, CDiv, CPow, or_true, true_or, or_self, not_true, not_false_iff, mDm, dctV, popDM, getDM, mDisp, mPrs, kvOf, decide_false, decide_true, Int.reduceToNat, Nat.reducePow, Int.reduceAdd, Int.reduceSub, Int.reduceMul, e3]
  · rw [← hxs] at my
    simp only [List.mem_cons, List.not_mem_nil, or_false] at my
    rcases my with e | e | e | e | e | e | e | e | e
    · exact .inr (.inl ⟨m, e, .inl (by omega)⟩)
    · exact .inr (.inl ⟨m, e, .inl (by omega)⟩)
    · exact .inr (.inl ⟨m, e, .inl (by omega)⟩)
    · exact .inl e
    · exact .inr (.inr (.inl e))
    · exact .inr (.inr (.inr (.inl e)))
    · exact .inr (.inr (.inr (.inr (.inl e))))
    · exact .inr (.inr (.inr (.inr (.inr ⟨_, e, by omega, o3⟩))))
    · exact .inr (.inl ⟨_, e, .inr rfl⟩)
theorem close_eqc {c' : Int} (h : M02 μ b x t u z c v rows T U) (c1 : c ≤ 1000) : Goes (m_law_11 (r02 s v1 b z x t u c' v8 v9 v10) μ) fun ρ' μ' => (∃ v8, ρ' = r02 s v1 b z x t u c' v8 v9 v10) ∧ (∃ v' rows', M02 μ' b x t u z c v' rows' T U) ∧ Kee [b, x, t] μ μ' := by
  obtain ⟨y, μ1, e1, y0, y1, k1, b1, _⟩ := take_eq h.bg (n := 6) (by decide) (by decide)
  have h1 := h.draw k1 b1
  obtain ⟨n_bx, n_bt, n_bu, n_xt, n_xu, n_tu⟩ := h.ne
  have k2 : Kee [] μ1 (μ1.new (.dct [])) := Kee.new
  have h2 := h1.any k2
  have d2 : (μ1.new (.dct [])).ob μ1.nx = some (.dct []) := Mu.new_same _ _
  obtain ⟨μ2, hμ2⟩ : ∃ μ2, μ1.new (.dct []) = μ2 := ⟨_, rfl⟩
  rw [hμ2] at k2 h2 d2
  obtain ⟨kvs, od, d⟩ := h2.dt
  have hl := d.len0 h.K
  have h8 := h.K.toS1.len
  have kA : Kee [b, x, t] μ μ2 := (k1.mono (by simp)).trans (k2.mono (by simp))
  unfold m_law_11
  have Tt : mAnd (mTest (mOp eqM (mCall 2 d__law_take (mCons (mV 2) (mCons (mC (.int 6)) (mNil)))) (mC (.int 0)))) (mTest (mOp neD0M (mV 5) (mDct0))) (r02 s v1 b z x t u c' v8 v9 v10) μ = .ok ((y == 0) && !kvs.isEmpty) (if (y == 0) = true then μ2 else μ1) := by
    unfold r02
    cases hy : (y == 0) with
    | false => simp only [mChain, isiM, sDst2, neD0M, Wn.R.bind_ok, Wn.R.bind_no, Wn.R.cut_ok, Wn.R.cut_no, sThen_nx, sThen_rt, sThen_bk, sThen_ct, mC, mV, mNil, mCons, mTup, mLst, mOp, mUn, mFn, mMt, boolM, mTest, mAnd, mOr, mNot, mIf, mBl, mAndV, mOrV, mNotV, mAndT, mOrT, truM, List.isEmpty_cons, List.isEmpty_nil, addM, subM, mulM, modM, fdivM, powM, negM, ltM, leM, gtM, geM, cmpI, isM', isntM, isNon, getM, dgetM, slM, mSl, mP, mP0, lenM, listM, tupleM, minM, maxM, absM, intM, sortedM, mBm, lstOf, appM, popM, extM, idxM, remLM, sNil, sSeq, sSet, sExpr, sRet, sRetN, sIf, sBrk, sCnt, sPar, sPar3, sAsg, tgN, tgT, unp, stoM, dstoM, sSto, Wk.items, iSeq, iRng1, iRng2, iEnm, mCall, mMeth, sysOf, onSys, mMethK, mMake, mMakeK, makM, mYes, mListR1, mListR2, intBM, startV, seqOf, keyOf, List.getElem?_cons_zero, List.getElem?_cons_succ, List.getElem?_nil, List.set_cons_zero, List.set_cons_succ, List.map_cons, List.map_nil, List.length_cons, List.length_nil, List.cons_append, List.nil_append, List.append_nil, List.replicate, Nat.reduceAdd, Nat.reduceSub, Nat.reduceLeDiff, Nat.reduceLT, Nat.reduceEqDiff, Int.reduceLT, Int.reduceLE, Int.reduceNeg, Int.reducePow, ite_true, ite_false, if_true, if_false, reduceIte, Bool.false_eq_true, Bool.true_eq_false, Bool.not_true, Bool.not_false, and_self, and_true, true_and, Mu.put_same, Mu.new_same, Mu.put_nx, Mu.new_nx, Nat.zero_add, Nat.le_refl, Goes_nx, Gets_ok, Rets_nx, Rets_rt, CMul, CDiv, CPow, or_true, true_or, or_self, not_true, not_false_iff, mDm, dctV, popDM, getDM, mDisp, mPrs, kvOf, decide_false, decide_true, Int.reduceToNat, Nat.reducePow, Int.reduceAdd, Int.reduceSub, Int.reduceMul, e1, eqM, dat_int, eqv_int, hy, Bool.false_and]
    | true => simp only [mChain, isiM, sDst2, neD0M, Wn.R.bind_ok, Wn.R.bind_no, Wn.R.cut_ok, Wn.R.cut_no, sThen_nx, sThen_rt, sThen_bk, sThen_ct, mC, mV, mNil, mCons, mTup, mLst, mOp, mUn, mFn, mMt, boolM, mTest, mAnd, mOr, mNot, mIf, mBl, mAndV, mOrV, mNotV, mAndT, mOrT, truM, List.isEmpty_cons, List.isEmpty_nil, addM, subM, mulM, modM, fdivM, powM, negM, ltM, leM, gtM, geM, cmpI, isM', isntM, isNon, getM, dgetM, slM, mSl, mP, mP0, lenM, listM, tupleM, minM, maxM, absM, intM, sortedM, mBm, lstOf, appM, popM, extM, idxM, remLM, sNil, sSeq, sSet, sExpr, sRet, sRetN, sIf, sBrk, sCnt, sPar, sPar3, sAsg, tgN, tgT, unp, stoM, dstoM, sSto, Wk.items, iSeq, iRng1, iRng2, iEnm, mCall, mMeth, sysOf, onSys, mMethK, mMake, mMakeK, makM, mYes, mListR1, mListR2, intBM, startV, seqOf, keyOf, List.getElem?_cons_zero, List.getElem?_cons_succ, List.getElem?_nil, List.set_cons_zero, List.set_cons_succ, List.map_cons, List.map_nil, List.length_cons, List.length_nil, List.cons_append, List.nil_append, List.append_nil, List.replicate, Nat.reduceAdd, Nat.reduceSub, Nat.reduceLeDiff, Nat.reduceLT, Nat.reduceEqDiff, Int.reduceLT, Int.reduceLE, Int.reduceNeg, Int.reducePow, ite_true, ite_false, if_true, if_false, reduceIte, Bool.false_eq_true, Bool.true_eq_false, Bool.not_true, Bool.not_false, and_self, and_true, true_and, Mu.put_same, Mu.new_same, Mu.put_nx, Mu.new_nx, Nat.zero_add, Nat.le_refl, Goes_nx, Gets_ok, Rets_nx, Rets_rt, CMul, CDiv, CPow, or_true, true_or, or_self, not_true, not_false_iff, mDm, dctV, popDM, getDM, mDisp, mPrs, kvOf, decide_false, decide_true, Int.reduceToNat, Nat.reducePow, Int.reduceAdd, Int.reduceSub, Int.reduceMul, e1, eqM, dat_int, eqv_int, hy, neD0M, mDct0, hμ2, od, d2, Bool.true_and]
  cases hc : ((y == 0) && !kvs.isEmpty) with
  | false =>
    rw [if_no (Tt.trans (by rw [hc]))]
    cases (y == 0) with
    | false => exact ⟨⟨_, rfl⟩, ⟨_, _, h1⟩, k1.mono (by simp)⟩
    | true => exact ⟨⟨_, rfl⟩, ⟨_, _, h2⟩, kA⟩
  | true =>
    obtain ⟨hy, hk⟩ := Bool.and_eq_true_iff.mp hc
    rw [if_yes (Tt.trans (by rw [hc])), if_pos hy]
    have K := h2.K
    have so := sortD_ok (μ := μ2) (t := t) (by unfold dctOf; rw [od]) d K.toS1.nd (by omega)
    obtain ⟨μ3, hμ3⟩ : ∃ μ3, μ2.new (.lst ((srtI (rows.map (·.1))).map Val.int)) = μ3 := ⟨_, rfl⟩
    rw [hμ3] at so
    have k3 : Kee [] μ2 μ3 := by rw [← hμ3]; exact Kee.new
    have o3 : μ3.ob μ2.nx = some (.lst ((srtI (rows.map (·.1))).map Val.int)) := by rw [← hμ3]; exact Mu.new_same _ _
    have l3 : μ3.nx = μ2.nx + 1 := by rw [← hμ3]; rfl
    have h3 := h2.any k3
    have bl := h2.bg.1
    have rl : 0 < rows.length := by
      rw [← hl]
      cases kvs with
      | nil => cases hk
      | cons _ _ => simp
    have sl : ((srtI (rows.map (·.1))).map Val.int).length = rows.length := by rw [List.length_map, srtI_len, List.length_map]
    obtain ⟨w, μ4, e4, mw, k4, b4, l4⟩ := of_eq h3.bg (l := μ2.nx) (seqOf_lst o3) (by omega) (by omega) (by omega) (by omega)
    obtain ⟨n, hn, rfl⟩ := List.mem_map.mp mw
    have h4 := h3.draw k4 b4
    obtain ⟨ser, hs⟩ := lk_some_of (srtI_mem.mp hn)
    have A1 : m_law_10 (r02 s v1 b z x t u c' v8 v9 v10) μ2 = .ok (.nx (r02 s v1 b z x t u c' (some (.int n)) v9 v10)) μ4 := by
      unfold m_law_10 r02
      simp only [mChain, isiM, sDst2, neD0M, Wn.R.bind_ok, Wn.R.bind_no, Wn.R.cut_ok, Wn.R.cut_no, sThen_nx, sThen_rt, sThen_bk, sThen_ct, mC, mV, mNil, mCons, mTup, mLst, mOp, mUn, mFn, mMt, boolM, mTest, mAnd, mOr, mNot, mIf, mBl, mAndV, mOrV, mNotV, mAndT, mOrT, truM, List.isEmpty_cons, List.isEmpty_nil, addM, subM, mulM, modM, fdivM, powM, negM, ltM, leM, gtM, geM, cmpI, isM', isntM, isNon, getM, dgetM, slM, mSl, mP, mP0, lenM, listM, tupleM, minM, maxM, absM, intM, sortedM, mBm, lstOf, appM, popM, extM, idxM, remLM, sNil, sSeq, sSet, sExpr, sRet, sRetN, sIf, sBrk, sCnt, sPar, sPar3, sAsg, tgN, tgT, unp, stoM, dstoM, sSto, Wk.items, iSeq, iRng1, iRng2, iEnm, mCall, mMeth, sysOf, onSys, mMethK, mMake, mMakeK, makM, mYes, mListR1, mListR2, intBM, startV, seqOf, keyOf, List.getElem?_cons_zero, List.getElem?_cons_succ, List.getElem?_nil, List.set_cons_zero, List.set_cons_succ, List.map_cons, List.map_nil, List.length_cons, List.length_nil, List.cons_append, List.nil_append, List.append_nil, List.replicate, Nat.reduceAdd, Nat.reduceSub, Nat.reduceLeDiff, Nat.reduceLT, Nat.reduceEqDiff, Int.reduceLT, Int.reduceLE, Int.reduceNeg, Int.reducePow, ite_true, ite_false, if_true, if_false, reduceIte, Bool.false_eq_true, Bool.true_eq_false, Bool.not_true, Bool.not_false, and_self, and_true, true_and, Mu.put_same, Mu.new_same, Mu.put_nx, Mu.new_nx, Nat.zero_add, Nat.le_refl, Goes_nx, Gets_ok, Rets_nx, Rets_rt, CMul, CDiv, CPow, or_true, true_or, or_self, not_true, not_false_iff, mDm, dctV, popDM, getDM, mDisp, mPrs, kvOf, decide_false, decide_true, Int.reduceToNat, Nat.reducePow, Int.reduceAdd, Int.reduceSub, Int.reduceMul, so, e4]
    have t4 : μ4.ob t = some (.dct kvs) := (k4.ob _ (k3.lt h2.tl) (by simp [Ne.symm n_bt])).trans ((k3.ob _ h2.tl (by simp)).trans od)
    have hg := d.get n
    rw [hs] at hg
    have hg : kGet kvs (.inl n) = some (g02 T ser) := hg
    have A2 : sExpr (mDm popDM (mV 5) (mV 8)) (r02 s v1 b z x t u c' (some (.int n)) v9 v10) μ4 = .ok (.nx (r02 s v1 b z x t u c' (some (.int n)) v9 v10)) (μ4.put t (.dct (kDrop kvs (.inl n)))) := by
      unfold r02
      simp only [mChain, isiM, sDst2, neD0M, Wn.R.bind_ok, Wn.R.bind_no, Wn.R.cut_ok, Wn.R.cut_no, sThen_nx, sThen_rt, sThen_bk, sThen_ct, mC, mV, mNil, mCons, mTup, mLst, mOp, mUn, mFn, mMt, boolM, mTest, mAnd, mOr, mNot, mIf, mBl, mAndV, mOrV, mNotV, mAndT, mOrT, truM, List.isEmpty_cons, List.isEmpty_nil, addM, subM, mulM, modM, fdivM, powM, negM, ltM, leM, gtM, geM, cmpI, isM', isntM, isNon, getM, dgetM, slM, mSl, mP, mP0, lenM, listM, tupleM, minM, maxM, absM, intM, sortedM, mBm, lstOf, appM, popM, extM, idxM, remLM, sNil, sSeq, sSet, sExpr, sRet, sRetN, sIf, sBrk, sCnt, sPar, sPar3, sAsg, tgN, tgT, unp, stoM, dstoM, sSto, Wk.items, iSeq, iRng1, iRng2, iEnm, mCall, mMeth, sysOf, onSys, mMethK, mMake, mMakeK, makM, mYes, mListR1, mListR2, intBM, startV, seqOf, keyOf, List.getElem?_cons_zero, List.getElem?_cons_succ, List.getElem?_nil, List.set_cons_zero, List.set_cons_succ, List.map_cons, List.map_nil, List.length_cons, List.length_nil, List.cons_append, List.nil_append, List.append_nil, List.replicate, Nat.reduceAdd, Nat.reduceSub, Nat.reduceLeDiff, Nat.reduceLT, Nat.reduceEqDiff, Int.reduceLT, Int.reduceLE, Int.reduceNeg, Int.reducePow, ite_true, ite_false, if_true, if_false, reduceIte, Bool.false_eq_true, Bool.true_eq_false, Bool.not_true, Bool.not_false, and_self, and_true, true_and, Mu.put_same, Mu.new_same, Mu.put_nx, Mu.new_nx, Nat.zero_add, Nat.le_refl, Goes_nx, Gets_ok, Rets_nx, Rets_rt, CMul, CDiv, CPow, or_true, true_or, or_self, not_true, not_false_iff, mDm, dctV, popDM, getDM, mDisp, mPrs, kvOf, decide_false, decide_true, Int.reduceToNat, Nat.reducePow, Int.reduceAdd, Int.reduceSub, Int.reduceMul, dctOf, t4, hg]
    have x4 := h4.hx
    have x5 : (μ4.put t (.dct (kDrop kvs (.inl n)))).ob x = some (.sys v) := (Mu.put_ne _ _ n_xt).trans x4
    have t5 : (μ4.put t (.dct (kDrop kvs (.inl n)))).ob t = some (.dct (kDrop kvs (.inl n))) := Mu.put_same _ _ _
    have k5 : Kee [x, t] μ4 (μ4.put t (.dct (kDrop kvs (.inl n)))) := Kee.put (by simp)
    obtain ⟨μ5, hμ5⟩ : ∃ μ5, μ4.put t (.dct (kDrop kvs (.inl n))) = μ5 := ⟨_, rfl⟩
    rw [hμ5] at A2 x5 t5 k5
    have hm : v.made ≤ 1000000 := by have := K.mc; omega
    have cl := clo_ok (x := x) (μ := μ5) K.toS1.lk0 hs hm
    have A3 : sExpr (mMeth (cloM) ([]) (mV 4) (mCons (mC (.int 0)) (mCons (mV 8) (mNil)))) (r02 s v1 b z x t u c' (some (.int n)) v9 v10) μ5 = .ok (.nx (r02 s v1 b z x t u c' (some (.int n)) v9 v10)) (μ5.put x (.sys (closeV v 0 n ser))) := by
      unfold r02
      simp only [mChain, isiM, sDst2, neD0M, Wn.R.bind_ok, Wn.R.bind_no, Wn.R.cut_ok, Wn.R.cut_no, sThen_nx, sThen_rt, sThen_bk, sThen_ct, mC, mV, mNil, mCons, mTup, mLst, mOp, mUn, mFn, mMt, boolM, mTest, mAnd, mOr, mNot, mIf, mBl, mAndV, mOrV, mNotV, mAndT, mOrT, truM, List.isEmpty_cons, List.isEmpty_nil, addM, subM, mulM, modM, fdivM, powM, negM, ltM, leM, gtM, geM, cmpI, isM', isntM, isNon, getM, dgetM, slM, mSl, mP, mP0, lenM, listM, tupleM, minM, maxM, absM, intM, sortedM, mBm, lstOf, appM, popM, extM, idxM, remLM, sNil, sSeq, sSet, sExpr, sRet, sRetN, sIf, sBrk, sCnt, sPar, sPar3, sAsg, tgN, tgT, unp, stoM, dstoM, sSto, Wk.items, iSeq, iRng1, iRng2, iEnm, mCall, mMeth, sysOf, onSys, mMethK, mMake, mMakeK, makM, mYes, mListR1, mListR2, intBM, startV, seqOf, keyOf, List.getElem?_cons_zero, List.getElem?_cons_succ, List.getElem?_nil, List.set_cons_zero, List.set_cons_succ, List.map_cons, List.map_nil, List.length_cons, List.length_nil, List.cons_append, List.nil_append, List.append_nil, List.replicate, Nat.reduceAdd, Nat.reduceSub, Nat.reduceLeDiff, Nat.reduceLT, Nat.reduceEqDiff, Int.reduceLT, Int.reduceLE, Int.reduceNeg, Int.reducePow, ite_true, ite_false, if_true, if_false, reduceIte, Bool.false_eq_true, Bool.true_eq_false, Bool.not_true, Bool.not_false, and_self, and_true, true_and, Mu.put_same, Mu.new_same, Mu.put_nx, Mu.new_nx, Nat.zero_add, Nat.le_refl, Goes_nx, Gets_ok, Rets_nx, Rets_rt, CMul, CDiv, CPow, or_true, true_or, or_self, not_true, not_false_iff, mDm, dctV, popDM, getDM, mDisp, mPrs, kvOf, decide_false, decide_true, Int.reduceToNat, Nat.reducePow, Int.reduceAdd, Int.reduceSub, Int.reduceMul, x5, cl]
    rw [seq_nx A1, seq_nx A2, A3]
    obtain ⟨K', m'⟩ := K.close hs
    have k6 : Kee [x, t] μ4 (μ5.put x (.sys (closeV v 0 n ser))) := k5.trans (Kee.put (by simp))
    exact ⟨⟨_, rfl⟩, ⟨_, _, h4.set k6 (Mu.put_same _ _ _) K' ((Mu.put_ne _ _ (Ne.symm n_xt)).trans t5) (d.drop fun m => lk_dr rows) m'⟩, kA.trans ((k3.mono (by simp)).trans ((k4.mono (by simp)).trans (k6.mono (by simp))))⟩
theorem turn_eq (h : M02 μ b x t u z c v rows T U) (z8 : z ≤ 8) (c0 : 0 ≤ c) (c1 : c ≤ 900) : Goes (m_law_13 (r02 s v1 b z x t u c v8 v9 v10) μ) fun ρ' μ' => (∃ v8 v9 v10, ρ' = r02 s v1 b z x t u c v8 v9 v10) ∧ (∃ v' rows' T' U', M02 μ' b x t u z (c + 1) v' rows' T' U') ∧ Kee [b, x, t, u] μ μ' := by
  unfold m_law_13
  obtain ⟨ρ1, μ1, e1, ⟨w8, rfl⟩, ⟨va, ra, Ta, Ua, h1⟩, k1⟩ := (add_eq h z8 c0 (by omega) (s := s) (v1 := v1) (v8 := v8) (v9 := v9) (v10 := v10)).ex
  rw [seq_nx e1]
  obtain ⟨n, m, μ2, e2, hn, hm, h2, k2⟩ := six_eq (c' := c) h1 z8 (s := s) (v1 := v1) (v8 := w8) (v9 := v9) (v10 := v10)
  rw [seq_nx e2]
  obtain ⟨y, μ3, e3, hy, h3, k3⟩ := seven_eq (c' := c) h2 hm (s := s) (v1 := v1) (v8 := some (.int n)) (v10 := v10)
  rw [seq_nx e3]
  have kA : Kee [b, x, t, u] μ μ3 := k1.trans ((k2.mono (by simp)).trans (k3.mono (by simp)))
  have rest : ∀ {μ4 : Mu} {w10 : Option Val} {v4 : Sv} {r4 : List (Int × Int)}, M02 μ4 b x t u z (c + 1) v4 r4 Ta Ua → Kee [b, x, t, u] μ μ4 → Goes ((sSeq m_law_11 m_law_12) (r02 s v1 b z x t u c (some (.int n)) (some y) w10) μ4) fun ρ' μ' => (∃ v8 v9 v10, ρ' = r02 s v1 b z x t u c v8 v9 v10) ∧ (∃ v' rows' T' U', M02 μ' b x t u z (c + 1) v' rows' T' U') ∧ Kee [b, x, t, u] μ μ' := fun {μ4 w10 v4 r4} h4 k4 => by
    obtain ⟨ρ5, μ5, e5, ⟨w8, rfl⟩, ⟨v5, r5, h5⟩, k5⟩ := (close_eqc (s := s) (v1 := v1) (v8 := some (.int n)) (v9 := some y) (v10 := w10) (c' := c) h4 (by omega)).ex
    rw [seq_nx e5]
    obtain ⟨r6, μ6, e6, rfl, h6, k6⟩ := (shows_eq h5).ex
    have Te : mNot (mTest (mCall 3 d__law_shows (mCons (mV 4) (mCons (mV 5) (mCons (mV 6) (mNil)))))) (r02 s v1 b z x t u c w8 (some y) w10) μ5 = .ok false μ6 := by
      unfold r02
      simp only [mChain, isiM, sDst2, neD0M, Wn.R.bind_ok, Wn.R.bind_no, Wn.R.cut_ok, Wn.R.cut_no, sThen_nx, sThen_rt, sThen_bk, sThen_ct, mC, mV, mNil, mCons, mTup, mLst, mOp, mUn, mFn, mMt, boolM, mTest, mAnd, mOr, mNot, mIf, mBl, mAndV, mOrV, mNotV, mAndT, mOrT, truM, List.isEmpty_cons, List.isEmpty_nil, addM, subM, mulM, modM, fdivM, powM, negM, ltM, leM, gtM, geM, cmpI, isM', isntM, isNon, getM, dgetM, slM, mSl, mP, mP0, lenM, listM, tupleM, minM, maxM, absM, intM, sortedM, mBm, lstOf, appM, popM, extM, idxM, remLM, sNil, sSeq, sSet, sExpr, sRet, sRetN, sIf, sBrk, sCnt, sPar, sPar3, sAsg, tgN, tgT, unp, stoM, dstoM, sSto, Wk.items, iSeq, iRng1, iRng2, iEnm, mCall, mMeth, sysOf, onSys, mMethK, mMake, mMakeK, makM, mYes, mListR1, mListR2, intBM, startV, seqOf, keyOf, List.getElem?_cons_zero, List.getElem?_cons_succ, List.getElem?_nil, List.set_cons_zero, List.set_cons_succ, List.map_cons, List.map_nil, List.length_cons, List.length_nil, List.cons_append, List.nil_append, List.append_nil, List.replicate, Nat.reduceAdd, Nat.reduceSub, Nat.reduceLeDiff, Nat.reduceLT, Nat.reduceEqDiff, Int.reduceLT, Int.reduceLE, Int.reduceNeg, Int.reducePow, ite_true, ite_false, if_true, if_false, reduceIte, Bool.false_eq_true, Bool.true_eq_false, Bool.not_true, Bool.not_false, and_self, and_true, true_and, Mu.put_same, Mu.new_same, Mu.put_nx, Mu.new_nx, Nat.zero_add, Nat.le_refl, Goes_nx, Gets_ok, Rets_nx, Rets_rt, CMul, CDiv, CPow, or_true, true_or, or_self, not_true, not_false_iff, mDm, dctV, popDM, getDM, mDisp, mPrs, kvOf, decide_false, decide_true, Int.reduceToNat, Nat.reducePow, Int.reduceAdd, Int.reduceSub, Int.reduceMul, e6]
    unfold m_law_12
    rw [if_no Te]
    exact ⟨⟨_, _, _, rfl⟩, ⟨_, _, _, _, h6⟩, k4.trans ((k5.mono (by simp)).trans (k6.mono (by simp)))⟩
  cases hn0 : isNon y with
  | true =>
    have Te : mTest (mOp isntM (mV 9) (mC .non)) (r02 s v1 b z x t u c (some (.int n)) (some y) v10) μ3 = .ok false μ3 := by
      unfold r02
      cases y with
      | non => simp only [mChain, isiM, sDst2, neD0M, Wn.R.bind_ok, Wn.R.bind_no, Wn.R.cut_ok, Wn.R.cut_no, sThen_nx, sThen_rt, sThen_bk, sThen_ct, mC, mV, mNil, mCons, mTup, mLst, mOp, mUn, mFn, mMt, boolM, mTest, mAnd, mOr, mNot, mIf, mBl, mAndV, mOrV, mNotV, mAndT, mOrT, truM, List.isEmpty_cons, List.isEmpty_nil, addM, subM, mulM, modM, fdivM, powM, negM, ltM, leM, gtM, geM, cmpI, isM', isntM, isNon, getM, dgetM, slM, mSl, mP, mP0, lenM, listM, tupleM, minM, maxM, absM, intM, sortedM, mBm, lstOf, appM, popM, extM, idxM, remLM, sNil, sSeq, sSet, sExpr, sRet, sRetN, sIf, sBrk, sCnt, sPar, sPar3, sAsg, tgN, tgT, unp, stoM, dstoM, sSto, Wk.items, iSeq, iRng1, iRng2, iEnm, mCall, mMeth, sysOf, onSys, mMethK, mMake, mMakeK, makM, mYes, mListR1, mListR2, intBM, startV, seqOf, keyOf, List.getElem?_cons_zero, List.getElem?_cons_succ, List.getElem?_nil, List.set_cons_zero, List.set_cons_succ, List.map_cons, List.map_nil, List.length_cons, List.length_nil, List.cons_append, List.nil_append, List.append_nil, List.replicate, Nat.reduceAdd, Nat.reduceSub, Nat.reduceLeDiff, Nat.reduceLT, Nat.reduceEqDiff, Int.reduceLT, Int.reduceLE, Int.reduceNeg, Int.reducePow, ite_true, ite_false, if_true, if_false, reduceIte, Bool.false_eq_true, Bool.true_eq_false, Bool.not_true, Bool.not_false, and_self, and_true, true_and, Mu.put_same, Mu.new_same, Mu.put_nx, Mu.new_nx, Nat.zero_add, Nat.le_refl, Goes_nx, Gets_ok, Rets_nx, Rets_rt, CMul, CDiv, CPow, or_true, true_or, or_self, not_true, not_false_iff, mDm, dctV, popDM, getDM, mDisp, mPrs, kvOf, decide_false, decide_true, Int.reduceToNat, Nat.reducePow, Int.reduceAdd, Int.reduceSub, Int.reduceMul]
      | _ => cases hn0
    rw [seq_nx (if_no Te)]
    exact rest h3 kA
  | false =>
    have Te : mTest (mOp isntM (mV 9) (mC .non)) (r02 s v1 b z x t u c (some (.int n)) (some y) v10) μ3 = .ok true μ3 := by
      unfold r02
      cases y with
      | non => cases hn0
      | _ => simp only [mChain, isiM, sDst2, neD0M, Wn.R.bind_ok, Wn.R.bind_no, Wn.R.cut_ok, Wn.R.cut_no, sThen_nx, sThen_rt, sThen_bk, sThen_ct, mC, mV, mNil, mCons, mTup, mLst, mOp, mUn, mFn, mMt, boolM, mTest, mAnd, mOr, mNot, mIf, mBl, mAndV, mOrV, mNotV, mAndT, mOrT, truM, List.isEmpty_cons, List.isEmpty_nil, addM, subM, mulM, modM, fdivM, powM, negM, ltM, leM, gtM, geM, cmpI, isM', isntM, isNon, getM, dgetM, slM, mSl, mP, mP0, lenM, listM, tupleM, minM, maxM, absM, intM, sortedM, mBm, lstOf, appM, popM, extM, idxM, remLM, sNil, sSeq, sSet, sExpr, sRet, sRetN, sIf, sBrk, sCnt, sPar, sPar3, sAsg, tgN, tgT, unp, stoM, dstoM, sSto, Wk.items, iSeq, iRng1, iRng2, iEnm, mCall, mMeth, sysOf, onSys, mMethK, mMake, mMakeK, makM, mYes, mListR1, mListR2, intBM, startV, seqOf, keyOf, List.getElem?_cons_zero, List.getElem?_cons_succ, List.getElem?_nil, List.set_cons_zero, List.set_cons_succ, List.map_cons, List.map_nil, List.length_cons, List.length_nil, List.cons_append, List.nil_append, List.append_nil, List.replicate, Nat.reduceAdd, Nat.reduceSub, Nat.reduceLeDiff, Nat.reduceLT, Nat.reduceEqDiff, Int.reduceLT, Int.reduceLE, Int.reduceNeg, Int.reducePow, ite_true, ite_false, if_true, if_false, reduceIte, Bool.false_eq_true, Bool.true_eq_false, Bool.not_true, Bool.not_false, and_self, and_true, true_and, Mu.put_same, Mu.new_same, Mu.put_nx, Mu.new_nx, Nat.zero_add, Nat.le_refl, Goes_nx, Gets_ok, Rets_nx, Rets_rt, CMul, CDiv, CPow, or_true, true_or, or_self, not_true, not_false_iff, mDm, dctV, popDM, getDM, mDisp, mPrs, kvOf, decide_false, decide_true, Int.reduceToNat, Nat.reducePow, Int.reduceAdd, Int.reduceSub, Int.reduceMul]
    have hy : Y02 μ3 y := hy.resolve_left fun e => by
      rw [e] at hn0
      cases hn0
    obtain ⟨ρ4, μ4, e4, ⟨w10, rfl⟩, ⟨v4, r4, h4⟩, k4⟩ := (copy_eqc (s := s) (v1 := v1) (v10 := v10) (c' := c) h3 z8 (by omega) hn.1 hn.2 hy).ex
    rw [seq_nx ((if_yes Te).trans e4)]
    exact rest h4 (kA.trans (k4.mono (by simp)))
end

/-! ### k02: the law -/
theorem law_eq (μ : Mu) (s : Nat) (ns : List Int) (hl : ns.length ≤ 63) (hs : seqOf μ s = some (ns.map Val.int)) (sl : s < μ.nx) : Gets (d_law [.loc s] μ) fun v _ => v = .bl true := by
  refine Gets.run rfl ?_
  unfold m_law m_law_15
  have hs' := hs
  unfold seqOf at hs'
  unfold sSeq
  refine Rets.then ?_
  refine sFor_rng (lo := 0) (μ1 := μ) (n := (if (if (ns.length : Int) < 4 then (ns.length : Int) else 4) > 1 then (if (ns.length : Int) < 4 then (ns.length : Int) else 4) else 1).toNat) ?_ (fun _ ρ μ' => (∃ v1 v2 v3 v4 v5 v6 v7 v8 v9 v10, ρ = [some (.loc s), v1, v2, v3, v4, v5, v6, v7, v8, v9, v10]) ∧ Kee [] μ μ') ⟨⟨_, _, _, _, _, _, _, _, _, _, rfl⟩, Kee.refl _ _⟩ ?_ ?_
  · have hb : ((if (if (ns.length : Int) < 4 then (ns.length : Int) else 4) > 1 then (if (ns.length : Int) < 4 then (ns.length : Int) else 4) else 1) ≤ 1000000 ∧ -1000000 ≤ (if (if (ns.length : Int) < 4 then (ns.length : Int) else 4) > 1 then (if (ns.length : Int) < 4 then (ns.length : Int) else 4) else 1)) = True := eq_true (by constructor <;> (split <;> split <;> omega))
    simp only [mChain, isiM, sDst2, neD0M, Wn.R.bind_ok, Wn.R.bind_no, Wn.R.cut_ok, Wn.R.cut_no, sThen_nx, sThen_rt, sThen_bk, sThen_ct, mC, mV, mNil, mCons, mTup, mLst, mOp, mUn, mFn, mMt, boolM, mTest, mAnd, mOr, mNot, mIf, mBl, mAndV, mOrV, mNotV, mAndT, mOrT, truM, List.isEmpty_cons, List.isEmpty_nil, addM, subM, mulM, modM, fdivM, powM, negM, ltM, leM, gtM, geM, cmpI, isM', isntM, isNon, getM, dgetM, slM, mSl, mP, mP0, lenM, listM, tupleM, minM, maxM, absM, intM, sortedM, mBm, lstOf, appM, popM, extM, idxM, remLM, sNil, sSeq, sSet, sExpr, sRet, sRetN, sIf, sBrk, sCnt, sPar, sPar3, sAsg, tgN, tgT, unp, stoM, dstoM, sSto, Wk.items, iSeq, iRng1, iRng2, iEnm, mCall, mMeth, sysOf, onSys, mMethK, mMake, mMakeK, makM, mYes, mListR1, mListR2, intBM, startV, seqOf, keyOf, List.getElem?_cons_zero, List.getElem?_cons_succ, List.getElem?_nil, List.set_cons_zero, List.set_cons_succ, List.map_cons, List.map_nil, List.length_cons, List.length_nil, List.cons_append, List.nil_append, List.append_nil, List.replicate, Nat.reduceAdd, Nat.reduceSub, Nat.reduceLeDiff, Nat.reduceLT, Nat.reduceEqDiff, Int.reduceLT, Int.reduceLE, Int.reduceNeg, Int.reducePow, ite_true, ite_false, if_true, if_false, reduceIte, Bool.false_eq_true, Bool.true_eq_false, Bool.not_true, Bool.not_false, and_self, and_true, true_and, Mu.put_same, Mu.new_same, Mu.put_nx, Mu.new_nx, Nat.zero_add, Nat.le_refl, Goes_nx, Gets_ok, Rets_nx, Rets_rt, CMul, CDiv, CPow, or_true, true_or, or_self, not_true, not_false_iff, mDm, dctV, popDM, getDM, mDisp, mPrs, kvOf, decide_false, decide_true, Int.reduceToNat, Nat.reducePow, Int.reduceAdd, Int.reduceSub, Int.reduceMul, hs', List.length_map, hb]
  · rintro j ρ μ' _ ⟨⟨v1, v2, v3, v4, v5, v6, v7, v8, v9, v10, rfl⟩, kp⟩
    refine ⟨_, rfl, ?_⟩
    have hs2 : seqOf μ' s = some (ns.map Val.int) := (seqOf_keep kp sl (by simp)).trans hs
    obtain ⟨b, μ1, e1, k1, g1, b1⟩ := bag_eq hs2 (kp.lt sl) (i := 0 + (j : Int)) (by omega)
    have le1 := k1.le
    have bl1 := g1.1
    have A : sSet 2 (mCall 2 d__law_bag (mCons (mV 0) (mCons (mV 1) (mNil)))) [some (.loc s), some (.int (0 + (j : Int))), v2, v3, v4, v5, v6, v7, v8, v9, v10] μ' = .ok (.nx [some (.loc s), some (.int (0 + (j : Int))), some (.loc b), v3, v4, v5, v6, v7, v8, v9, v10]) μ1 := by
      simp only [mChain, isiM, sDst2, neD0M, Wn.R.bind_ok, Wn.R.bind_no, Wn.R.cut_ok, Wn.R.cut_no, sThen_nx, sThen_rt, sThen_bk, sThen_ct, mC, mV, mNil, mCons, mTup, mLst, mOp, mUn, mFn, mMt, boolM, mTest, mAnd, mOr, mNot, mIf, mBl, mAndV, mOrV, mNotV, mAndT, mOrT, truM, List.isEmpty_cons, List.isEmpty_nil, addM, subM, mulM, modM, fdivM, powM, negM, ltM, leM, gtM, geM, cmpI, isM', isntM, isNon, getM, dgetM, slM, mSl, mP, mP0, lenM, listM, tupleM, minM, maxM, absM, intM, sortedM, mBm, lstOf, appM, popM, extM, idxM, remLM, sNil, sSeq, sSet, sExpr, sRet, sRetN, sIf, sBrk, sCnt, sPar, sPar3, sAsg, tgN, tgT, unp, stoM, dstoM, sSto, Wk.items, iSeq, iRng1, iRng2, iEnm, mCall, mMeth, sysOf, onSys, mMethK, mMake, mMakeK, makM, mYes, mListR1, mListR2, intBM, startV, seqOf, keyOf, List.getElem?_cons_zero, List.getElem?_cons_succ, List.getElem?_nil, List.set_cons_zero, List.set_cons_succ, List.map_cons, List.map_nil, List.length_cons, List.length_nil, List.cons_append, List.nil_append, List.append_nil, List.replicate, Nat.reduceAdd, Nat.reduceSub, Nat.reduceLeDiff, Nat.reduceLT, Nat.reduceEqDiff, Int.reduceLT, Int.reduceLE, Int.reduceNeg, Int.reducePow, ite_true, ite_false, if_true, if_false, reduceIte, Bool.false_eq_true, Bool.true_eq_false, Bool.not_true, Bool.not_false, and_self, and_true, true_and, Mu.put_same, Mu.new_same, Mu.put_nx, Mu.new_nx, Nat.zero_add, Nat.le_refl, Goes_nx, Gets_ok, Rets_nx, Rets_rt, CMul, CDiv, CPow, or_true, true_or, or_self, not_true, not_false_iff, mDm, dctV, popDM, getDM, mDisp, mPrs, kvOf, decide_false, decide_true, Int.reduceToNat, Nat.reducePow, Int.reduceAdd, Int.reduceSub, Int.reduceMul, e1]
    obtain ⟨y, μ2, e2, y0, y6, k2, b2, n2⟩ := take_eq g1 (n := 6) (by decide) (by decide)
    obtain ⟨z, hz⟩ : ∃ z : Nat, (z : Int) = 3 + y := ⟨(3 + y).toNat, by omega⟩
    have A2 : m_law_1 [some (.loc s), some (.int (0 + (j : Int))), some (.loc b), v3, v4, v5, v6, v7, v8, v9, v10] μ1 = .ok (.nx [some (.loc s), some (.int (0 + (j : Int))), some (.loc b), some (.int (z : Int)), v4, v5, v6, v7, v8, v9, v10]) μ2 := by
      unfold m_law_1
      simp only [mChain, isiM, sDst2, neD0M, Wn.R.bind_ok, Wn.R.bind_no, Wn.R.cut_ok, Wn.R.cut_no, sThen_nx, sThen_rt, sThen_bk, sThen_ct, mC, mV, mNil, mCons, mTup, mLst, mOp, mUn, mFn, mMt, boolM, mTest, mAnd, mOr, mNot, mIf, mBl, mAndV, mOrV, mNotV, mAndT, mOrT, truM, List.isEmpty_cons, List.isEmpty_nil, addM, subM, mulM, modM, fdivM, powM, negM, ltM, leM, gtM, geM, cmpI, isM', isntM, isNon, getM, dgetM, slM, mSl, mP, mP0, lenM, listM, tupleM, minM, maxM, absM, intM, sortedM, mBm, lstOf, appM, popM, extM, idxM, remLM, sNil, sSeq, sSet, sExpr, sRet, sRetN, sIf, sBrk, sCnt, sPar, sPar3, sAsg, tgN, tgT, unp, stoM, dstoM, sSto, Wk.items, iSeq, iRng1, iRng2, iEnm, mCall, mMeth, sysOf, onSys, mMethK, mMake, mMakeK, makM, mYes, mListR1, mListR2, intBM, startV, seqOf, keyOf, List.getElem?_cons_zero, List.getElem?_cons_succ, List.getElem?_nil, List.set_cons_zero, List.set_cons_succ, List.map_cons, List.map_nil, List.length_cons, List.length_nil, List.cons_append, List.nil_append, List.append_nil, List.replicate, Nat.reduceAdd, Nat.reduceSub, Nat.reduceLeDiff, Nat.reduceLT, Nat.reduceEqDiff, Int.reduceLT, Int.reduceLE, Int.reduceNeg, Int.reducePow, ite_true, ite_false, if_true, if_false, reduceIte, Bool.false_eq_true, Bool.true_eq_false, Bool.not_true, Bool.not_false, and_self, and_true, true_and, Mu.put_same, Mu.new_same, Mu.put_nx, Mu.new_nx, Nat.zero_add, Nat.le_refl, Goes_nx, Gets_ok, Rets_nx, Rets_rt, CMul, CDiv, CPow, or_true, true_or, or_self, not_true, not_false_iff, mDm, dctV, popDM, getDM, mDisp, mPrs, kvOf, decide_false, decide_true, Int.reduceToNat, Nat.reducePow, Int.reduceAdd, Int.reduceSub, Int.reduceMul, e2, hz]
    obtain ⟨μ3, hμ3⟩ : ∃ μ3, ((μ2.new (.sys (newSv 2 (z : Int)))).new (.dct [])).new (.dct []) = μ3 := ⟨_, rfl⟩
    have k3 : Kee [] μ2 μ3 := by rw [← hμ3]; exact Kee.new.newN.newN
    have n3 : μ3.nx = μ2.nx + 3 := by rw [← hμ3]; rfl
    have hbz : ((2 : Int) ≤ 2 ∧ (2 : Int) ≤ 6) = True := eq_true (by decide)
    have hbz2 : (3 ≤ (z : Int) ∧ (z : Int) ≤ 8) = True := eq_true (by omega)
    have A3 : m_law_2 [some (.loc s), some (.int (0 + (j : Int))), some (.loc b), some (.int (z : Int)), v4, v5, v6, v7, v8, v9, v10] μ2 = .ok (.nx [some (.loc s), some (.int (0 + (j : Int))), some (.loc b), some (.int (z : Int)), some (.loc μ2.nx), some (.loc (μ2.nx + 1)), some (.loc (μ2.nx + 2)), v7, v8, v9, v10]) μ3 := by
      unfold m_law_2
      simp only [mChain, isiM, sDst2, neD0M, Wn.R.bind_ok, Wn.R.bind_no, Wn.R.cut_ok, Wn.R.cut_no, sThen_nx, sThen_rt, sThen_bk, sThen_ct, mC, mV, mNil, mCons, mTup, mLst, mOp, mUn, mFn, mMt, boolM, mTest, mAnd, mOr, mNot, mIf, mBl, mAndV, mOrV, mNotV, mAndT, mOrT, truM, List.isEmpty_cons, List.isEmpty_nil, addM, subM, mulM, modM, fdivM, powM, negM, ltM, leM, gtM, geM, cmpI, isM', isntM, isNon, getM, dgetM, slM, mSl, mP, mP0, lenM, listM, tupleM, minM, maxM, absM, intM, sortedM, mBm, lstOf, appM, popM, extM, idxM, remLM, sNil, sSeq, sSet, sExpr, sRet, sRetN, sIf, sBrk, sCnt, sPar, sPar3, sAsg, tgN, tgT, unp, stoM, dstoM, sSto, Wk.items, iSeq, iRng1, iRng2, iEnm, mCall, mMeth, sysOf, onSys, mMethK, mMake, mMakeK, makM, mYes, mListR1, mListR2, intBM, startV, seqOf, keyOf, List.getElem?_cons_zero, List.getElem?_cons_succ, List.getElem?_nil, List.set_cons_zero, List.set_cons_succ, List.map_cons, List.map_nil, List.length_cons, List.length_nil, List.cons_append, List.nil_append, List.append_nil, List.replicate, Nat.reduceAdd, Nat.reduceSub, Nat.reduceLeDiff, Nat.reduceLT, Nat.reduceEqDiff, Int.reduceLT, Int.reduceLE, Int.reduceNeg, Int.reducePow, ite_true, ite_false, if_true, if_false, reduceIte, Bool.false_eq_true, Bool.true_eq_false, Bool.not_true, Bool.not_false, and_self, and_true, true_and, Mu.put_same, Mu.new_same, Mu.put_nx, Mu.new_nx, Nat.zero_add, Nat.le_refl, Goes_nx, Gets_ok, Rets_nx, Rets_rt, CMul, CDiv, CPow, or_true, true_or, or_self, not_true, not_false_iff, mDm, dctV, popDM, getDM, mDisp, mPrs, kvOf, decide_false, decide_true, Int.reduceToNat, Nat.reducePow, Int.reduceAdd, Int.reduceSub, Int.reduceMul, mDct0, hbz, hbz2, List.reverse_cons, List.reverse_nil, hμ3]
    unfold m_law_14
    simp only [List.set_cons_zero, List.set_cons_succ]
    rw [seq_nx A, seq_nx A2, seq_nx A3]
    have bl2 := b2.1
    have h3 : M02 μ3 b μ2.nx (μ2.nx + 1) (μ2.nx + 2) z 0 (newSv 2 (z : Int)) [] (fun _ => 0) (fun _ => 0) := by
      refine ⟨b2.keep k3 (by simp), ?_, ⟨S1.new (by decide) (by omega), fun a e a0 a1 => ?_, fun a a0 a1 => ?_, Int.le_refl _, fun n ser hn => by cases hn⟩, ⟨[], ?_, DR.nil _⟩, ⟨[], ?_, fun a a0 a1 => ?_, Int.le_refl _⟩, by omega, by omega, by omega, by omega⟩
      · rw [← hμ3, Mu.new_ne _ _ (by simp only [Mu.new_nx]; omega), Mu.new_ne _ _ (by simp only [Mu.new_nx]; omega)]
        exact Mu.new_same _ _
      · have : a < (0 : Int) := a1
        omega
      · have : a < (0 : Int) := a1
        omega
      · rw [← hμ3, Mu.new_ne _ _ (by simp only [Mu.new_nx]; omega)]
        exact Mu.new_same _ _
      · rw [← hμ3]
        exact Mu.new_same _ _
      · have : a < (0 : Int) := a1
        omega
    have lw3 : Low μ'.nx μ' μ3 := (k1.low (Nat.le_refl _) (by simp)).trans ((k2.low le1 (by simp; omega)).trans (k3.low (by omega) (by simp)))
    refine sFor_rng (lo := 0) (n := 30) (μ1 := μ3) (by simp only [mChain, isiM, sDst2, neD0M, Wn.R.bind_ok, Wn.R.bind_no, Wn.R.cut_ok, Wn.R.cut_no, sThen_nx, sThen_rt, sThen_bk, sThen_ct, mC, mV, mNil, mCons, mTup, mLst, mOp, mUn, mFn, mMt, boolM, mTest, mAnd, mOr, mNot, mIf, mBl, mAndV, mOrV, mNotV, mAndT, mOrT, truM, List.isEmpty_cons, List.isEmpty_nil, addM, subM, mulM, modM, fdivM, powM, negM, ltM, leM, gtM, geM, cmpI, isM', isntM, isNon, getM, dgetM, slM, mSl, mP, mP0, lenM, listM, tupleM, minM, maxM, absM, intM, sortedM, mBm, lstOf, appM, popM, extM, idxM, remLM, sNil, sSeq, sSet, sExpr, sRet, sRetN, sIf, sBrk, sCnt, sPar, sPar3, sAsg, tgN, tgT, unp, stoM, dstoM, sSto, Wk.items, iSeq, iRng1, iRng2, iEnm, mCall, mMeth, sysOf, onSys, mMethK, mMake, mMakeK, makM, mYes, mListR1, mListR2, intBM, startV, seqOf, keyOf, List.getElem?_cons_zero, List.getElem?_cons_succ, List.getElem?_nil, List.set_cons_zero, List.set_cons_succ, List.map_cons, List.map_nil, List.length_cons, List.length_nil, List.cons_append, List.nil_append, List.append_nil, List.replicate, Nat.reduceAdd, Nat.reduceSub, Nat.reduceLeDiff, Nat.reduceLT, Nat.reduceEqDiff, Int.reduceLT, Int.reduceLE, Int.reduceNeg, Int.reducePow, ite_true, ite_false, if_true, if_false, reduceIte, Bool.false_eq_true, Bool.true_eq_false, Bool.not_true, Bool.not_false, and_self, and_true, true_and, Mu.put_same, Mu.new_same, Mu.put_nx, Mu.new_nx, Nat.zero_add, Nat.le_refl, Goes_nx, Gets_ok, Rets_nx, Rets_rt, CMul, CDiv, CPow, or_true, true_or, or_self, not_true, not_false_iff, mDm, dctV, popDM, getDM, mDisp, mPrs, kvOf, decide_false, decide_true, Int.reduceToNat, Nat.reducePow, Int.reduceAdd, Int.reduceSub, Int.reduceMul]) (fun q ρ μi => (∃ v7 v8 v9 v10, ρ = [some (.loc s), some (.int (0 + (j : Int))), some (.loc b), some (.int (z : Int)), some (.loc μ2.nx), some (.loc (μ2.nx + 1)), some (.loc (μ2.nx + 2)), v7, v8, v9, v10]) ∧ Low μ'.nx μ' μi ∧ ∃ v rows T U, M02 μi b μ2.nx (μ2.nx + 1) (μ2.nx + 2) z (q : Int) v rows T U) ⟨⟨_, _, _, _, rfl⟩, lw3, _, _, _, _, h3⟩ ?_ ?_
    · rintro q ρ μi hq ⟨⟨v7, v8, v9, v10, rfl⟩, lw, v, rows, T, U, hM⟩
      refine ⟨_, rfl, ?_⟩
      have eq0 : (0 + (q : Int)) = (q : Int) := by omega
      show Goes (m_law_13 (r02 s (some (.int (0 + (j : Int)))) b z μ2.nx (μ2.nx + 1) (μ2.nx + 2) (0 + (q : Int)) v8 v9 v10) μi) _
      rw [eq0]
      refine (turn_eq (s := s) (v1 := some (.int (0 + (j : Int)))) (v8 := v8) (v9 := v9) (v10 := v10) hM (by omega) (by omega) (by omega)).mono fun ρ' μ9 ⟨⟨w8, w9, w10, e⟩, ⟨v', rows', T', U', h9⟩, k9⟩ => ?_
      subst e
      refine ⟨⟨_, _, _, _, rfl⟩, lw.trans (k9.low lw.1 ?_), v', rows', T', U', h9⟩
      intro a ha
      simp only [List.mem_cons, List.not_mem_nil, or_false] at ha
      rcases ha with rfl | rfl | rfl | rfl <;> omega
    · rintro ρ μi ⟨⟨v7, v8, v9, v10, rfl⟩, lw, _⟩
      exact ⟨⟨_, _, _, _, _, _, _, _, _, _, rfl⟩, kp.trans lw.kee⟩
  · rintro ρ μ' ⟨⟨v1, v2, v3, v4, v5, v6, v7, v8, v9, v10, rfl⟩, kp⟩
    exact rfl

/-! ### the end -/
theorem facts {w : World} {K : PySem.W.Frag} {mg : Str → Option Value} {fa : Addr} {h : Heap} (X : K.In h) (G : h.Ns mainGlobals mg) (hf : mg ("law" : Str) = some (.ref fa)) (c : SaysW fcL fwL tsL tfL w h K) : LawG PySem.Challenge.rw_waitnumbers_k02_copies_onto_numbers w K CX0 13 63 "_law_script" mg fa h := by
  have T := tx_of X G c
  have e : fa = gA "law" K := by
    have z := hf.symm.trans T.g_law
    cases z
    rfl
  subst e
  have b := FunD.bindsA (ps := ["_law_script"]) T.f_law fun _ _ _ _ _ _ us hl => match us, hl with | [_], _ => rfl
  have tl : ∀ x ∈ lamL, ((x, none) : Defn) ∈ tfL := by decide
  have cm : ∀ p ∈ lamL.map (fun x => cT K (x, none)), ∃ q ∈ tfL, p = cT K q := fun p hp => by
    obtain ⟨x, hx, rfl⟩ := List.mem_map.mp hp
    exact ⟨_, tl x hx, rfl⟩
  refine ⟨_, lamL.map (fun x => cT K (x, none)), spM K 1 d_law, fun p hp => ?_, fun p hp => ?_, fun p hp => ?_, fun s u => b s [u] rfl, fun H a ns hl hH hS => law_sp law_eq H a ns hl (fun p hp => ?_) hS, fun base _ _ TB => okm_law T (fun x hx => TB _ (List.mem_map.mpr ⟨x, hx, rfl⟩))⟩
  · obtain ⟨q, hq, rfl⟩ := cm p hp
    exact c.x.empty q hq
  · obtain ⟨q, hq, rfl⟩ := cm p hp
    exact c.x.out q hq
  · obtain ⟨q, hq, rfl⟩ := cm p hp
    exact PySem.W.codeHd_of_K X (c.x.hd q hq)
  · obtain ⟨x, hx, rfl⟩ := List.mem_map.mp hp
    exact ⟨#[], hH _ (List.mem_map.mpr ⟨x, hx, rfl⟩), True.intro, fun pos cv h => nomatch h⟩

end Wn

open PySem PySem.W PySem.Calls PyProof.Rows
theorem PySem.Challenge.cw_waitnumbers_k02_copies_onto_numbers_holds : PySem.Challenge.rw_waitnumbers_k02_copies_onto_numbers.Holds := by
  w_on; o_law
  refine HandSHeadRun.head_any (r := OpenLaw.row PySem.Challenge.rw_waitnumbers_k02_copies_onto_numbers) (q := view (OpenLaw.row PySem.Challenge.rw_waitnumbers_k02_copies_onto_numbers).prog [32]) (H := Wn.hk) (ob := Wn.obs) (M := 20000) (loose := Wn.loose) (d := HandSHeadRun.topDef (OpenLaw.row PySem.Challenge.rw_waitnumbers_k02_copies_onto_numbers).prog 32) (kwd := []) Wn.obs_eq
    (by kernel_rfl) (fun s => by kernel_rfl) Wn.run (by kernel_rfl) (by kernel_rfl) (by kernel_rfl) (by rfl) (by first | assumption | decide +kernel) (by decide +kernel) ⟨rfl, rfl, rfl, rfl, rfl, by decide +kernel⟩ ?hw ?hc
  case hw => w_witness2
  case hc =>
    refine Wn.walk_g (l := PySem.Challenge.rw_waitnumbers_k02_copies_onto_numbers) (n := 63) (k := 13) (x := "_law_script") (CX := fun _ => L2.CX0) rfl (by decide) (by kernel_rfl) ⟨rfl, by decide, by decide⟩ ?F (fun _ _ _ _ _ z => z)
    intro w mg fa h ⟨K, KX, c⟩ G hm
    have e : (HandSHeadRun.topDef (OpenLaw.row PySem.Challenge.rw_waitnumbers_k02_copies_onto_numbers).prog 32).name = ("law" : PySem.Str) := by kernel_rfl
    exact ⟨K, KX, Wn.facts KX G (by rw [← e]; exact hm) c⟩
