import PyProof.Rows.All
import Wide.All
import OpenK.AllK
import Wide.FinOn
import HandS.ForMost
import HandS.ForExc
import HandS.ExcInit
import HandS.ExcField
import HandS.ExcIs
import HandS.TryMany
import KE.KExcInit
import HandS.Defaults
import HandS.Lambda
import HandS.EndTab
import HandS.HeadWalk
import PyProof.ReprRoads
import PyProof.CallFns
import HandS.Property
import HandS.ClsMeth
import HandS.Head0
import HandS.Head1
import HandS.Head2
import HandS.HeadEnd
import HandS.HeadHook1
import HandS.HeadHook2
import HandS.HeadHook3
import HandS.HeadHook4
import HandS.IsInst
import KE.KExcIs
import HandS.Head4
import HandS.Exc
import KE.KTryMore
import HandS.SortKw
import HandS.More
import KE.SortKeyHeap
import HandS.DictComp
import HandS.Walk
import HandS.CallSlots
import HandS.MakeKwOnly
import PyProof.ListRange
import HandS.WordsExc
import PyProof.InstSpecial
import HandS.Flow
import PyProof.Rows.MatchSeqLen
import PyProof.Seq
import HandS.Words
import HandS.Deep
import HandS.SortInts
import HandS.Style
import HandS.Iter
import HandS.Dict
import HandS.SetFor
import HandS.TryOnly
import HandS.Small
import HandS.List
import KE.DataAny
import HandS.ListItems
import KE.KDictList
import PyProof.DictWalks
import PyProof.DictValues
import PyProof.ConsumeWalk
import PyProof.Rows.StrInSeq
import HandS.DictTup
import HandS.NoneIn
import KE.KLam
import HandS.SortOrd
import HandS.FltList
import HandS.FltErr
import KE.DataMinKey
import HandS.TupSets
import KE.SortData
import HandS.Zip
import KE.GoesZip
import KE.GoesMore
import PyProof.DictMoreH
import KE.KDictWalk
import HandS.DictEq
import HandS.Conv
import HandS.ListEq
import KE.KEqDict
import HandS.MakeKw
import HandS.Star
import KE.KDictZip
import KE.KItemsList
import HandS.TupMul
import HandS.FStr
import PySem.Challenge.RW_waitnumbers_k26_texts_refused
set_option Elab.async false
set_option linter.all false
set_option maxRecDepth 100000
set_option maxHeartbeats 0
/-! the defs of the law that make lambdas -/
namespace Wn
open PySem
def lamL : List Str := ["law"]
/-- how many registrations a set may have -/
abbrev mostE : Nat := 0
end Wn
/-! errors of one's own over any built-in base, with fields that __init__ stores -/
namespace Wn
open PySem PySem.Spec PyProof.Rows L2
open Builtin Builtin.ObjectAttr

/-- what the written part says of an own error class over the built-in B -/
structure XC (K : PySem.W.Frag) (C : Addr) (B nw it : String) (bm : List Value) : Prop where
  bf : ExcBaseFacts B nw it bm
  sf : StoreFacts B bm "object.__setattr__" "object"
  ini : PySem.W.excInitIn K C bm nw = true
  ovr : PySem.W.excOver K C bm = true
  hdi : PySem.W.hasDictIn K C = true
  sa : PySem.W.findIn K (.ref C) "__setattr__" = some (some (.builtin "object.__setattr__"))
  exC : PySem.W.subIn K (.ref C) (.type "BaseException") = some true
  tyC : PySem.W.typeIn K (.ref C) = some (.type "type")
  kC : PySem.W.keepIn K (.ref C) = true

theorem taker0 {K : PySem.W.Frag} {C : Addr} {f : Str} (h : PySem.W.findIn K (.ref C) f = some none) : PySem.W.takerIn K C f = some none := by
  unfold PySem.W.takerIn
  rw [h]
  rfl
theorem hasD {K : PySem.W.Frag} {C : Addr} (h : PySem.W.hasDictIn K C = true) : ∃ cd, PySem.W.clsIn K C = some cd ∧ cd.hasDict = true := by
  unfold PySem.W.hasDictIn at h
  cases e : PySem.W.clsIn K C with
  | none =>
    rw [e] at h
    cases h
  | some cd =>
    rw [e] at h
    exact ⟨cd, rfl, h⟩

section
variable {prog : Program} {w : World} {A : Around} {R : Result → Shared → Prop} {hp : Heap} {g : Array GenState} {d : Drawn} {t : Nat} {os : OsState}
variable {K : PySem.W.Frag} {name : Str} {tk : Tok} {v : Value} {x C dx : Addr} {fv : Array Value} {B nw it : String} {bm : List Value}
/-- the first field: the dict is laid -/
theorem osa_first (T : XC K C B nw it bm) (X : K.In hp) (hx : hp.get? x = some { cls := .ref C, data := .fields fv }) (ha : PySem.W.findIn K (.ref C) name = some none)
    (hq : ∀ h' tk' dx, (∀ b o, b ≠ x → hp.get? b = some o → h'.get? b = some o) → hp.objs.size ≤ dx → dx ≠ x →
      h'.get? x = some { cls := .ref C, dict := some dx, data := .fields fv } → h'.Ns1 dx (fun y => if y = name then some v else none) →
      R (.ok (.ret .none)) ⟨h', g, d, tk', os⟩) :
    codeAny (model prog w) A (.call (.builtin "object.__setattr__") ⟨[.ref x, .str name tk, v], []⟩) R ⟨hp, g, d, t, os⟩ := by
  obtain ⟨cd, hcd, hh⟩ := hasD T.hdi
  have hcls : PySem.W.Looks (model prog w) hp (classData C) cd := PySem.W.looks_clsIn X hcd
  have hxs : x ≠ hp.objs.size := Nat.ne_of_lt (Heap.lt_size hx)
  refine PySem.W.osa_openX T.sf X (ox := { cls := .ref C, data := .fields fv }) (od := none) ⟨hx, rfl, rfl, trivial⟩ T.ovr (taker0 ha) fun b => ?_
  show wpAny _ _ (storeInOwnDict (.ref x) (.ref C) (.str name tk) name v b) _ _ _
  obtain ⟨nm, bs, mro, ns, qn, hd, sn, sb, ab, col, de⟩ := cd
  dsimp only at hh
  subst hh
  unfold storeInOwnDict ownDictForStores
  repeat (first | with_reducible refine PySem.HandSPX.store_in_new ?_ ?_ | with_reducible refine wpAny_loadPart_at hx ?_ | with_reducible refine hcls.at ?_ | wp_step)
  · exact ⟨_, #[], _, (Heap.get?_update_ne _ _ _ _ hxs.symm).trans (Heap.get?_push_at rfl rfl), rfl, fun e he => absurd he (by simp), fun _ => rfl⟩
  · intro h' tk' hn' hs
    have hx1 : (hp.push { cls := .type "dict", data := .dict #[] }).get? x = some { cls := .ref C, data := .fields fv } := Heap.get?_push_of_some _ hx
    refine hq h' tk' hp.objs.size (fun b o hb ho => ?_) (Nat.le_refl _) hxs.symm ?_ hn'
    · exact (hs.2 b (Nat.ne_of_lt (Heap.lt_size ho))).trans ((Heap.get?_update_ne _ _ _ _ hb).trans (Heap.get?_push_of_some _ ho))
    · exact (hs.2 x hxs).trans (Heap.get?_update_self _ hx1 rfl)
/-- a further field -/
theorem osa_more {m0 : Str → Option Value} {nl : List Str} (T : XC K C B nw it bm) (X : K.In hp) (hx : hp.get? x = some { cls := .ref C, dict := some dx, data := .fields fv }) (hns : hp.Ns1 dx m0) (hw : Within m0 nl) (hz : nl.length ≤ 1000)
    (ha : PySem.W.findIn K (.ref C) name = some none)
    (hq : ∀ h' tk', (∀ b o, b ≠ dx → hp.get? b = some o → h'.get? b = some o) → h'.Ns1 dx (fun y => if y = name then some v else m0 y) → R (.ok (.ret .none)) ⟨h', g, d, tk', os⟩) :
    codeAny (model prog w) A (.call (.builtin "object.__setattr__") ⟨[.ref x, .str name tk, v], []⟩) R ⟨hp, g, d, t, os⟩ := by
  obtain ⟨cd, hcd, hh⟩ := hasD T.hdi
  obtain ⟨oD, _, _, hoD, _, _⟩ := hns.count hw
  have hcls : PySem.W.Looks (model prog w) hp (classData C) cd := PySem.W.looks_clsIn X hcd
  refine PySem.W.osa_openX T.sf X (ox := { cls := .ref C, dict := some dx, data := .fields fv }) (od := some oD) ⟨hx, rfl, rfl, hoD⟩ T.ovr (taker0 ha) fun b => ?_
  show wpAny _ _ (storeInOwnDict (.ref x) (.ref C) (.str name tk) name v b) _ _ _
  obtain ⟨nm, bs, mro, ns, qn, hd, sn, sb, ab, col, de⟩ := cd
  dsimp only at hh
  subst hh
  unfold storeInOwnDict ownDictForStores
  repeat (first | with_reducible refine PySem.OEX.store_in_old hns hw hz ?_ | with_reducible refine wpAny_loadPart_at hx ?_ | with_reducible refine hcls.at ?_ | wp_step)
  intro h' tk' hn' hs
  exact hq h' tk' (fun b o hb ho => (hs.2 b hb).trans ho) hn'
end

section
variable {X : Cx} {pins : List (Addr × Obj)} {σ : L2.St} {H : Hp} {s : Shared} {a C dx : Addr} {f : Str} {y : V} {u : Value} {fs : List (Str × V)} {Q : Unit → Shared → Prop} {E : Value → Shared → Prop} {A : Around} {B nw it : String} {bm : List Value}
/-- self.f = y in __init__, the first one -/
theorem xs_first (T : XC X.K C B nw it bm) (I : Inv X pins σ H s) (e : H a = some (exo a C none)) (hno : PySem.W.findIn X.K (.ref C) f = some none) (ry : RelV y u)
    (h : ∀ dx s', H dx = none → dx ≠ a → Inv X pins σ (upd (upd H dx (exd dx [(f, y)])) a (exo a C (some dx))) s' → Q () s') : wpAny (model X.prog X.w) A (setAttr (.ref a) f u) Q E s := by
  obtain ⟨t1, ho⟩ := exo_at I.hok e
  obtain ⟨hp, g, d, t, os⟩ := s
  refine PySem.W.set_plain I.kIn (ox := { cls := .ref C, dict := none, data := .fields #[.ref t1, .none, .none, .none, .bool false, .none] }) (od := none) ⟨ho, rfl, rfl, trivial⟩ T.sa ?_
  refine osa_first T I.kIn ho hno (fun h' tk' dx k dn dne hx hn => ?_)
  have hnd : H dx = none := I.hok.fresh dn
  have nd : ∀ {b : Addr} {o : Obj}, hp.get? b = some o → b ≠ dx := fun {b o} q => Nat.ne_of_lt (Nat.lt_of_lt_of_le (Heap.lt_size q) dn)
  have na : ∀ {b : Addr}, H b = none → b ≠ a := fun {b} n z => by rw [z, e] at n; cases n
  have kt : ∀ {b : Addr} {o : HO}, H b = some o → (∀ z, o ≠ exo a C z) → upd (upd H dx (exd dx [(f, y)])) a (exo a C (some dx)) b = some o := fun {b o} q ne => by
    have hb : b ≠ a := fun z => by rw [z, e] at q; exact ne _ (Option.some.inj q).symm
    rw [upd_ne hb, upd_ne (ne_of_none q hnd)]
    exact q
  have U : Un X.fs [] H (upd (upd H dx (exd dx [(f, y)])) a (exo a C (some dx))) hp h' := ⟨fun b o q n _ _ => k b o (na n) q, fun b o q n _ _ => ⟨o.slots, k b o (na n) q⟩,
    fun b o q n _ => by rw [upd_ne (na n), upd_ne (nd q)]; exact n,
    fun b o q _ => by
      by_cases hb : b = a
      · exact ⟨_, by rw [hb]; exact hx⟩
      · exact ⟨o, k b o hb q⟩,
    fun b xs q => kt q fun z => (exo_tup (e := a) (C := C) (d := z)).symm, fun b o v q => kt q fun z => (exo_frz (e := a) (C := C) (d := z)).symm,
    fun b ps q => ⟨#[], by rw [kt q fun z => (exo_tbl (e := a) (C := C) (d := z)).symm]; simp⟩⟩
  refine h dx _ hnd dne (I.un (t' := tk') U fun b o q => ?_)
  by_cases hb : b = a
  · subst hb
    rw [upd_same] at q
    cases q
    exact exo_ok hx
  · rw [upd_ne hb] at q
    by_cases hd : b = dx
    · subst hd
      rw [upd_same] at q
      cases q
      exact exd_ok hn (relO_put (fs := []) ry fun g => True.intro)
    · rw [upd_ne hd] at q
      refine (I.hok b o q).stay (fun c v hc z => k c v ?_ z) (fun c hc => kt hc fun z => (exo_own (e := a) (C := C) (d := z)).symm) (fun c xs hc => kt hc fun z => (exo_tup (e := a) (C := C) (d := z)).symm)
      rcases hc with hc | hc
      · rw [hc]
        exact hb
      · exact at_ne e hc exo_own
/-- self.f = y in __init__, a further one -/
theorem xs_more (T : XC X.K C B nw it bm) (I : Inv X pins σ H s) (e : H a = some (exo a C (some dx))) (ed : H dx = some (exd dx fs)) (hl : fs.length ≤ 900) (hno : PySem.W.findIn X.K (.ref C) f = some none) (ry : RelV y u)
    (h : ∀ s', Inv X pins σ (upd H dx (exd dx ((f, y) :: fs))) s' → Q () s') : wpAny (model X.prog X.w) A (setAttr (.ref a) f u) Q E s := by
  obtain ⟨t1, ho⟩ := exo_at I.hok e
  obtain ⟨mA, hns, rel⟩ := exd_at I.hok ed
  have hw := within_of rel
  obtain ⟨hp, g, d, t, os⟩ := s
  obtain ⟨oD, _, _, hoD, _, _⟩ := hns.count hw
  refine PySem.W.set_plain I.kIn (ox := { cls := .ref C, dict := some dx, data := .fields #[.ref t1, .none, .none, .none, .bool false, .none] }) (od := some oD) ⟨ho, rfl, rfl, hoD⟩ T.sa ?_
  refine osa_more T I.kIn ho hns hw (by rw [List.length_map]; omega) hno (fun h' tk' k hn => ?_)
  obtain ⟨oN, _, _, eN, _⟩ := id hn
  exact h _ (I.write (t' := tk') (x := dx) (e := dx) (o := exd dx ((f, y) :: fs)) (by rw [ed]; exact True.intro) (.inl rfl) k ⟨oN, eN⟩ (exd_ok hn (relO_put ry rel)))
end

/-- self.f = e of an error that is being made -/
def tXs (K : PySem.W.Frag) (f : Str) (to te : TE) : TS := fun D σ H => te σ H fun y H1 => to σ H1 fun x H2 => ∃ (a C : Addr) (B nw it : String) (bm : List Value), x = .ref a ∧ XC K C B nw it bm ∧ PySem.W.findIn K (.ref C) f = some none ∧
  ((H2 a = some (exo a C none) ∧ ∀ dx, H2 dx = none → dx ≠ a → D.nx σ (upd (upd H2 dx (exd dx [(f, y)])) a (exo a C (some dx)))) ∨
    ∃ (dx : Addr) (fs : List (Str × V)), H2 a = some (exo a C (some dx)) ∧ H2 dx = some (exd dx fs) ∧ fs.length ≤ 900 ∧ D.nx σ (upd H2 dx (exd dx ((f, y) :: fs))))
section
variable {X : Cx} {o e : Expr} {es : List Expr} {to te : TE} {ta : TA} {f : Str} {p p' p1 p2 pos : Pos}
theorem ps_xs (ho : PE X o to) (he : PE X e te) (hs : swapsWith e (some (.Attribute o f p')) pos.line X.env = pure false := by rfl) : PS X (.Assign [.Attribute o f p'] e pos) (tXs X.K f to te) := by
  refine ⟨fun pins s σ H D I h => ?_⟩
  refine plainObj_wpAny_Assign_Attribute (thn (he.run pins s σ H _ I h) fun v s1 ⟨y, H1, I1, r1, q1⟩ => thn (ho.run pins s1 σ H1 _ I1 q1) fun u s2 ⟨x, H2, I2, r2, a, C, B, nw, it, bm, ex, T, hno, q⟩ => ?_) hs
  subst ex
  obtain rfl : u = Value.ref a := r2
  rcases q with ⟨ea, q⟩ | ⟨dx, fs, ea, ed, hl, q⟩
  · exact xs_first T I2 ea hno r1 fun dx s' n ne J => ⟨σ, _, J, q dx n ne⟩
  · exact xs_more T I2 ea ed hl hno r1 fun s' J => ⟨σ, _, J, q⟩
variable {CX : CXT} {x : Str} {C fI : Addr} {k : Nat} {fd : FuncData} {ps : List Str} {sp : Sp} {B nw it : String} {bm : List Value}
theorem xm_run (T : XC X.K C B nw it bm) (iC : PySem.W.findIn X.K (.ref C) "__init__" = some (some (.ref fI))) (tI : PySem.W.typeIn X.K (.ref fI) = some (.type "function"))
    (F1 : FnOk X.prog X.w X.K X.mg X.base CX k fI fd ps sp) (hr : Room (k + 1) X.A) (hb : Binds X.K fd ps []) (hx : Passes CX X (fun _ _ _ => False)) {pins : List (Addr × Obj)} {σ : L2.St} {H1 : Hp} {s1 : Shared} {us : List Value} {vs : List V} {Q : XK}
    (I1 : Inv X pins σ H1 s1) (r1 : Vals vs us) (hz : vs.length ≤ 1000)
    (q1 : ∀ a, H1 a = none → sp (.ref a :: vs) (upd H1 a (exo a C none)) (fun v H2 => v = .non ∧ ∃ (d : Addr) (fs : List (Str × V)), H2 a = some (exo a C (some d)) ∧ H2 d = some (exd d fs) ∧ H1 d = none ∧ Q (.ref C) (some d) (upd (del H2 a) d (.xd fs))) (fun _ _ _ => False)) :
    wpAny (model X.prog X.w) X.A (call (.ref C) us) (MkP X pins σ Q) X.xe s1 := by
  obtain ⟨hp, g, dr, tk, os⟩ := s1
  obtain ⟨nm, N, q, bs, bl, hdct, sn, sub, ab, col, dd, k0, k1, k2, k3, k5, hC, hT⟩ := PySem.W.excInit_of I1.kIn T.ini
  have hsz : hp.objs.size ≤ hp.objs.size + 1 := Nat.le_succ _
  have hn : H1 (hp.objs.size + 1) = none := I1.hok.fresh hsz
  have hq := q1 (hp.objs.size + 1) hn
  have kk : ∀ b o, hp.get? b = some o → ((hp.push (PySem.W.kdv_tup us)).push (PySem.HandSPX.excO C hp.objs.size)).get? b = some o := fun b o e => Heap.get?_push_of_some _ (Heap.get?_push_of_some _ e)
  have hget : ((hp.push (PySem.W.kdv_tup us)).push (PySem.HandSPX.excO C hp.objs.size)).get? (hp.objs.size + 1) = some (PySem.HandSPX.excO C hp.objs.size) := by heap_get
  have I2 := I1.laid (t' := tk) (a := hp.objs.size + 1) (o := exo (hp.objs.size + 1) C none) kk hsz (exo_ok hget)
  have r2 : Vals (V.ref (hp.objs.size + 1) :: vs) (Value.ref (hp.objs.size + 1) :: us) := .cons rfl r1
  have hl : (Value.ref (hp.objs.size + 1) :: us).length = ps.length := by
    have e := r2.length
    rw [F1.len _ _ _ _ hq] at e
    exact e.symm
  have hus : us.length ≤ sizeLine := by
    rw [← Paired.length r1, sizeLine_eq]
    omega
  have bnd := hb ⟨(hp.push (PySem.W.kdv_tup us)).push (PySem.HandSPX.excO C hp.objs.size), g, dr, tk, os⟩ (Value.ref (hp.objs.size + 1) :: us) I2.kIn (by rw [List.append_nil]; exact hl)
  rw [List.append_nil] at bnd
  refine wpAny_call (PySem.HandSPX.call_own T.bf hT hC (PySem.W.looks_findIn I1.kIn iC) (fun self => PySem.W.bind_fn I1.kIn self tI) hus
    (codeAny_mono (F1.run _ X.stack _ _ ⟨Value.ref (hp.objs.size + 1) :: us, []⟩ _ _ _ (fun _ _ _ => False) (hr.make C us []) (I2.env0.make C us []) bnd r2 hq) fun r s' hq' => ?_))
  cases r with
  | error er => exact hx pins σ _ _ er s' I2 hq'
  | ok fl =>
    cases fl with
    | ret u =>
      obtain ⟨v, H2, os2, bare2, un2, hok2, rv, ev, d, fs, ea, ed, hd1, q2⟩ := hq'
      subst ev
      obtain ⟨h2, g2, d2, t2, os'⟩ := s'
      exact ⟨rv, mk_end (raises_own T.exC T.tyC) I1 hsz kk un2 hok2 os2 bare2 ea ed hd1 q2⟩
    | next => exact False.elim hq'
    | brk => exact False.elim hq'
    | cont => exact False.elim hq'
end
end Wn
/-! repr of data, defs that are called where no repr runs, the law's end for such a def -/
namespace Wn
open PySem PySem.Spec PyProof.Rows L2 LamX

/-! ### repr -/
/-! ### a def that is called where no repr runs -/
structure FnG (P : Program) (w : World) (K : PySem.W.Frag) (mg : Str → Option Value) (base : Heap) (CX : CXT) (k : Nat) (f : Addr) (fd : FuncData) (ps : List Str) (sp : Sp) : Prop where
  len : ∀ vs H Q E, sp vs H Q E → vs.length = ps.length
  run : ∀ (A : Around) (outer : List Env) (s : Shared) (H : Hp) (args : Args) (us : List Value) (vs : List V) (Q : VK) (E : XK), A.guards = some [] → Room k A → Env0 P w K mg base A outer s H →
    BindsTo s fd args (ps.zip us) → Vals vs us → sp vs H Q E → codeAny (model P w) A (.call (.ref f) args) (CR CX outer P w H s Q E) s
theorem FnG.of {P : Program} {w : World} {K : PySem.W.Frag} {mg : Str → Option Value} {base : Heap} {CX : CXT} {k : Nat} {f : Addr} {fd : FuncData} {ps : List Str} {sp : Sp} (F : FnOk P w K mg base CX k f fd ps sp) : FnG P w K mg base CX k f fd ps sp :=
  ⟨F.len, fun A outer s H args us vs Q E _ => F.run A outer s H args us vs Q E⟩
section
variable {P : Program} {w : World} {K : PySem.W.Frag} {mg : Str → Option Value} {base : Heap} {x qual : Str} {params : Arguments} {body : List Stmt} {scope : Scope} {dvs : List V} {kws : List (Str × V)} {f : Addr} {fd : FuncData}
theorem okG {CX : CXT} {N ps : List Str} {k : Nat} {sp : Sp} (F : FunD K x qual params body scope dvs kws f fd) (S : FnScope N ps scope) (len : ∀ vs H Q E, sp vs H Q E → vs.length = ps.length)
    (hbody : ∀ (cdv : Value) (A : Around) (outer : List Env) (s : Shared) (H : Hp) (vs : List V) (Q : VK) (E : XK), A.guards = some [] → Room k (A.deeper (envOfC qual scope s.heap.objs.size f cdv)) → sp vs H Q E →
      ∃ t, PSs (cxOf CX P w K mg base N qual scope f cdv A outer s H E) body t ∧ t { nx := fun _ H' => Q .non H', rt := Q } (L2.start N vs) H) : FnG P w K mg base CX (k + 1) f fd ps sp := by
  obtain ⟨oc, od, dV, kV, doc, pm, an, cdv, ct, osl, rfl, lk, hcd, _, _⟩ := F.ex
  refine ⟨len, fun A outer s H args us vs Q E hg hr e0 hb r hsp => ?_⟩
  exact run_ofS lk hcd S hr e0 hb r (len _ _ _ _ hsp) fun hr' => hbody cdv A outer s H vs Q E hg hr' hsp
end
section
variable {X : Cx} {CX : CXT} {k : Nat} {f C : Addr} {fd : FuncData} {ps : List Str} {sp : Sp} {dvs : List V} {ds : List Value} {E : XK} {x m : Str} {p pos apos : Pos} {e o : Expr} {es : List Expr} {ta : TE} {t : TA}
theorem run_g {pins : List (Addr × Obj)} {σ : L2.St} {H : Hp} {s : Shared} {Q : VK} {us : List Value} {vs : List V} (F : FnG X.prog X.w X.K X.mg X.base CX k f fd ps sp) (hgd : X.A.guards = some []) (hr : Room k X.A) (hb : Binds X.K fd ps ds) (hd : Vals dvs ds) (hx : Passes CX X E)
    (I : Inv X pins σ H s) (r : Vals vs us) (h : sp (vs ++ dvs) H Q E) : wpAny (model X.prog X.w) X.A (call (.ref f) us) (EP X pins σ Q) X.xe s := by
  have r2 : Vals (vs ++ dvs) (us ++ ds) := r.append hd
  have hl : (us ++ ds).length = ps.length := r2.length.symm.trans (F.len _ _ _ _ h)
  refine wpAny_call (codeAny_mono (F.run X.A X.stack s H ⟨us, []⟩ _ _ Q E hgd hr I.env0 (hb s us I.kIn hl) r2 h) fun r s' hq => ?_)
  cases r with
  | error z => exact hx pins σ H s z s' I hq
  | ok fl =>
    cases fl with
    | ret u => exact I.after hq
    | next => exact False.elim hq
    | brk => exact False.elim hq
    | cont => exact False.elim hq
/-- f(e, ..) of such a def -/
theorem pe_callG (F : FnG X.prog X.w X.K X.mg X.base CX k f fd ps sp) (hgd : X.A.guards = some []) (hr : Room k X.A) (hg : Gl X x) (hm : X.mg x = some (.ref f)) (hk : PySem.W.keepIn X.K (.ref f) = true) (hb : Binds X.K fd ps ds) (hd : Vals dvs ds) (hx : Passes CX X E)
    (ha : PA X (e :: es) t) (hdb : (x == ("__debug__" : Str)) = false := by decide) (he : starEach (e :: es) X.env = (false, eval e X.env) :: starEach es X.env := by rfl) (hpl : (backTo pos (starEach es X.env)).any (·.1) = false := by rfl) :
    PE X (.Call (.Name x p) (e :: es) [] pos) (tCall sp dvs E t) := by
  refine ⟨fun pins s σ H Q I h => wpAny_Call_Name_kw (ld_glob I hg hm ?_ hdb)⟩
  exact PySem.W.callWith_K (h₀ := X.base) I.ok.mod.kin hk (thn (ha.run pos pins s σ H _ I h) fun us s1 ⟨vs, H1, I1, r, q⟩ => ⟨I1.kIn, run_g F hgd hr hb hd hx I1 r q⟩) he hpl
end

/-! ### the law's end -/
section
variable {P : Program} {w : World} {K : PySem.W.Frag} {mg mb : Str → Option Value} {CX : CXT} {k : Nat} {fa a : Addr} {cs : List (Addr × Addr)} {fd : FuncData} {x : Str} {sp : Sp} {s1 : Shared} {vs : List Value} {ns : List Int}
/-- what is tracked at the law's entry: the tables, the script -/
def Ent (cs : List (Addr × Addr)) (a : Addr) (o : Obj) (ns : List Int) (H : Hp) : Prop :=
  ∀ b u, H b = some u → (b ∈ cs.map (·.2) ∧ u = .tbl #[]) ∨ (b = a ∧ u = .frz o (.lst (ns.map V.int)))
theorem law_core {H : Hp} (KX : K.In s1.heap) (hns : s1.heap.Ns mainGlobals mg) (hb : s1.heap.Ns builtinsNs mb) (hbb : ∀ x : Str, x ≠ "__name__" → mb x = bootBuiltins x) (hlim : s1.heap.NoLimit) (hg : s1.gens = #[])
    (hT : ∀ p ∈ cs, s1.heap.get? p.2 = some { cls := .none, data := .fields #[] }) (nT : ∀ p ∈ cs, K.lookup p.2 = none) (C : ∀ p ∈ cs, PySem.W.CodeHd s1.heap p.1 p.2)
    (hbm : ∃ (bm : Addr) (ob : Obj), mg "__builtins__" = some (.ref bm) ∧ bm ≠ builtinsNs ∧ s1.heap.get? bm = some ob ∧ ob.cls = .type "module" ∧ ob.dict = some builtinsNs ∧ ob.data = .plain)
    (ha : s1.heap.get? a = some { cls := .type "list", data := .seq vs.toArray }) (rv : Vals (ns.map V.int) vs) (hl : ns.length ≤ sizeLine) (hr : Room k callerA)
    (F : ∀ base : Heap, K.In base → base.Ns mainGlobals mg → (∀ p ∈ cs, TabB base mg p.1 p.2) → FnG P w K mg base CX k fa fd [x] sp) (hbind : ∀ (s : Shared) (u : Value), BindsTo s fd ⟨[u], []⟩ [(x, u)])
    (hH : ∀ p ∈ cs, H p.2 = some (.tbl #[])) (ent : Ent cs a { cls := .type "list", data := .seq vs.toArray } ns H) (hKa : H a ≠ none → K.lookup a = none)
    (hsp : sp [.ref a] H (fun v _ => v = .bl true) fun _ _ _ => False) (hCX : ∀ H e s', CX [] H s1 (fun _ _ _ => False) e s' → False) :
    codeAny (model P w) callerA (.call (.ref fa) ⟨[.ref a], []⟩) (fun r s' => r = .ok (.ret (.bool true)) ∧ OldK s1.heap s'.heap ∧ s'.os = s1.os ∧ AllBare s'.gens) s1 := by
  have tabAt : ∀ {b : Addr}, b ∈ cs.map (·.2) → s1.heap.get? b = some { cls := .none, data := .fields #[] } := fun {b} m => by
    obtain ⟨p, hp, rfl⟩ := List.mem_map.mp m
    exact hT p hp
  have hok : HOk P w H s1.heap := fun b u e => by
    rcases ent b u e with ⟨m, rfl⟩ | ⟨rfl, rfl⟩
    · exact tabAt m
    · exact ⟨ha, by rw [List.length_map]; exact hl, vs, _, rv, ha⟩
  -- what is neither a list nor an empty table is not tracked
  have unt : ∀ {b : Addr} {o : Obj}, s1.heap.get? b = some o → o.data ≠ .seq vs.toArray → o.data ≠ .fields #[] → H b = none := fun {b o} e n1 n2 => by
    cases q : H b with
    | none => rfl
    | some u =>
      rcases ent b u q with ⟨m, _⟩ | ⟨z, _⟩
      · rw [tabAt m] at e
        cases e
        exact (n2 rfl).elim
      · rw [z, ha] at e
        cases e
        exact (n1 rfl).elim
  have bs : ∀ {b : Addr} {o : Obj}, s1.heap.get? b = some o → o.data ≠ .seq vs.toArray → o.data ≠ .fields #[] → (hidT s1.heap H).get? b = some o := fun e n1 n2 => hidT_get e (unt e n1 n2)
  have nsB : ∀ {b : Addr} {m : Str → Option Value}, s1.heap.Ns b m → (hidT s1.heap H).Ns b m := fun {b m} ⟨o, es, ep, e, d, r⟩ => ⟨o, es, ep, bs e (by rw [d]; exact fun z => nomatch z) (by rw [d]; exact fun z => nomatch z), d, r⟩
  have hKb : K.In (hidT s1.heap H) := fun b o e => hidT_get (KX b o e) (by
    cases q : H b with
    | none => rfl
    | some u =>
      rcases ent b u q with ⟨m, _⟩ | ⟨z, _⟩
      · obtain ⟨p, hp, rfl⟩ := List.mem_map.mp m
        rw [nT p hp] at e
        cases e
      · subst z
        rw [hKa (by rw [q]; exact fun z => nomatch z)] at e
        cases e)
  have hM : L2.Mod K mg (hidT s1.heap H) := ⟨hKb, nsB hns, ⟨mb, nsB hb, hbb⟩, let ⟨mc, h1, h2⟩ := hlim; ⟨mc, nsB h1, h2⟩⟩
  have TB : ∀ p ∈ cs, TabB (hidT s1.heap H) mg p.1 p.2 := fun p hp => by
    refine ⟨?_, ?_, fun z => ?_⟩
    · obtain ⟨o, us, file, tf, flags, tg, inF, text, tt, e1, r1, r2, r3, rest⟩ := C p hp
      refine ⟨o, us, file, tf, flags, tg, inF, text, tt, bs e1 (by rw [r2]; exact fun z => nomatch z) (fun z => ?_), r1, r2, r3, rest⟩
      rw [r2] at z
      cases z
      simp at r3
    · obtain ⟨bm, ob, b1, b2, b3, b4, b5, b6⟩ := hbm
      refine ⟨bm, ob, b1, b2, fun q => ?_, fun q => ?_, bs b3 (by rw [b6]; exact fun z => nomatch z) (by rw [b6]; exact fun z => nomatch z), b4, b5, b6⟩
      · obtain ⟨o, es, ep, e, hd, _⟩ := hns
        rw [q, e] at b3
        cases b3
        rw [hd] at b6
        cases b6
      · rw [q, hT p hp] at b3
        cases b3
        cases b6
    · obtain ⟨o, es, ep, e, hd, _⟩ := hns
      rw [z, hT p hp] at e
      cases e
      cases hd
  have e0 : Env0 P w K mg (hidT s1.heap H) callerA [] s1 H := ⟨rfl, hM, fun b o e => of_hidT e, Nat.le_of_eq (hidT_size _ _), trivial, (fun b hb => absurd (show b ∈ ([] : List Addr) from hb) List.not_mem_nil), hok, .of_eq hg⟩
  refine codeAny_mono ((F _ hKb (nsB hns) TB).run callerA [] s1 H ⟨[.ref a], []⟩ [.ref a] [.ref a] _ _ rfl hr e0 (hbind s1 (.ref a)) (.cons rfl .nil) hsp) fun r s' h => ?_
  cases r with
  | error z => exact (hCX H z s' h).elim
  | ok fl =>
   cases fl with
   | next => exact False.elim h
   | brk => exact False.elim h
   | cont => exact False.elim h
   | ret u =>
    obtain ⟨v, H', os, bare, un, hok', r', q⟩ := h
    obtain rfl : v = .bl true := q
    obtain rfl : u = Value.bool true := r'
    have kept : ∀ b o, b ∉ cs.map (·.2) → s1.heap.get? b = some o → s'.heap.get? b = some o := fun b o nb e => by
      cases q : H b with
      | none => exact un.keep b o e q (fun z => absurd (show b ∈ ([] : List Addr) from z) List.not_mem_nil) List.not_mem_nil
      | some u =>
        rcases ent b u q with ⟨m, _⟩ | ⟨z, zu⟩
        · exact absurd m nb
        · subst zu
          have e1 := (hok b _ q).1
          have e2 := (hok' b _ (un.frzs b _ _ q)).1
          rw [e] at e1
          rw [e1]
          exact e2
    have tabN : ∀ b, b ∈ cs.map (·.2) → ∃ more : Array Value, s'.heap.get? b = some { cls := .none, data := .fields more } := fun b m => by
      obtain ⟨p, hp, rfl⟩ := List.mem_map.mp m
      obtain ⟨more, z⟩ := un.tbls p.2 #[] (hH p hp)
      exact ⟨_, hok' p.2 _ z⟩
    refine ⟨rfl, ⟨fun b o e => ?_, fun b o e => ?_⟩, os, bare⟩
    · by_cases m : b ∈ cs.map (·.2)
      · obtain ⟨more, hm⟩ := tabN b m
        obtain ⟨p, hp, rfl⟩ := List.mem_map.mp m
        rw [hT p hp] at e
        cases e
        exact .inr (.inl ⟨((C p hp).tab (hT p hp)).isCodeTable, rfl, #[], more, rfl, by rw [Array.empty_append]; exact hm⟩)
      · exact .inl (kept b o m e)
    · by_cases m : b ∈ cs.map (·.2)
      · obtain ⟨more, hm⟩ := tabN b m
        exact ⟨_, hm⟩
      · exact ⟨o, kept b o m e⟩
end
/-- what the law's def must keep, for the end below -/
def LawG (l : PySem.W.OpenLaw) (w : World) (K : PySem.W.Frag) (CX : CXT) (k n : Nat) (x : Str) (mg : Str → Option Value) (fa : Addr) (h : Heap) : Prop :=
  ∃ (fd : FuncData) (cs : List (Addr × Addr)) (sp : Sp), (∀ p ∈ cs, h.get? p.2 = some { cls := .none, data := .fields #[] }) ∧ (∀ p ∈ cs, K.lookup p.2 = none) ∧ (∀ p ∈ cs, PySem.W.CodeHd h p.1 p.2) ∧
    (∀ (s : Shared) (u : Value), BindsTo s fd ⟨[u], []⟩ [(x, u)]) ∧
    (∀ (H : Hp) (a : Addr) (ns : List Int), ns.length ≤ n → (∀ p ∈ cs, H p.2 = some (.tbl #[])) → SqL K H a (ns.map V.int) → sp [.ref a] H (fun v _ => v = .bl true) fun _ _ _ => False) ∧
    ∀ base : Heap, K.In base → base.Ns mainGlobals mg → (∀ p ∈ cs, TabB base mg p.1 p.2) → FnG l.prog w K mg base CX k fa fd [x] sp
theorem walk_g {l : PySem.W.OpenLaw} {n k : Nat} {q : Program} {loose : List Str} {XP : (Str → Option Value) → Heap → Prop} {YP : World → Heap → Prop} {d : DefRec} {CX : World → CXT} {x : Str}
    (hn : l.most = some n) (hn2 : n ≤ sizeLine) (hdf : d.params.defaults = []) (hr : Room k callerA)
    (F : ∀ (w : World) (mg : Str → Option Value) (fa : Addr) (h : Heap), YP w h → h.Ns mainGlobals mg → mg d.name = some (.ref fa) → ∃ K : PySem.W.Frag, K.In h ∧ LawG l w K (CX w) k n x mg fa h)
    (hCX : ∀ (w : World) (H : Hp) (s : Shared) (e : Value) (s' : Shared), CX w [] H s (fun _ _ _ => False) e s' → False) :
    PySem.W.WalkO q loose XP YP l.row.toRowW d [] (fun f vs => PySem.call f vs) := by
  refine Att.attach_callB hn hdf fun w s0 s1 mg mb fa o pm cd doc a vs ns G Y ho hd hcd hmg hobj hints hlen hbits hg => ?_
  obtain ⟨K, KX, fd, cs, sp, hT, nT, C, hb, hsp, hF⟩ := F w mg fa _ Y G.T.g hmg
  have rv := vals_ints hints
  have hl : ns.length ≤ sizeLine := Nat.le_trans hlen hn2
  have nm : ∀ {b : Addr}, b ∈ cs.map (·.2) → b ≠ a := fun {b} m z => by
    obtain ⟨p, hp, rfl⟩ := List.mem_map.mp m
    have e := hT p hp
    rw [z, hobj] at e
    cases e
  cases hk : K.lookup a with
  | some o =>
    have e := KX a o hk
    rw [hobj] at e
    cases e
    let HA : Hp := fun b => if b ∈ cs.map (·.2) then some (.tbl #[]) else none
    have hH : ∀ p ∈ cs, HA p.2 = some (.tbl #[]) := fun p hp => if_pos (List.mem_map.mpr ⟨p, hp, rfl⟩)
    refine law_core (H := HA) KX G.T.g G.T.b G.T.builtins G.T.nolimit hg hT nT C G.T.bmain hobj rv hl hr hF hb hH (fun b u z => ?_) (fun z => absurd (if_neg fun m => nm m rfl) z) (hsp HA a ns hlen hH (.inr ⟨_, vs.toArray, _, hk, rfl, rfl, rfl, by rw [List.size_toArray, hints.length]; exact hl, by simpa using rv⟩)) fun H e s' => hCX w H s1 e s'
    by_cases m : b ∈ cs.map (·.2)
    · exact .inl ⟨m, (Option.some.inj ((if_pos m).symm.trans z)).symm⟩
    · cases (if_neg m).symm.trans z
  | none =>
    let HB : Hp := fun b => if b = a then some (.frz { cls := .type "list", data := .seq vs.toArray } (.lst (ns.map V.int))) else if b ∈ cs.map (·.2) then some (.tbl #[]) else none
    have hH : ∀ p ∈ cs, HB p.2 = some (.tbl #[]) := fun p hp =>
      (if_neg (nm (List.mem_map.mpr ⟨p, hp, rfl⟩))).trans (if_pos (List.mem_map.mpr ⟨p, hp, rfl⟩))
    refine law_core (H := HB) KX G.T.g G.T.b G.T.builtins G.T.nolimit hg hT nT C G.T.bmain hobj rv hl hr hF hb hH (fun b u z => ?_) (fun _ => hk) (hsp HB a ns hlen hH (.inl (.inr ⟨{ cls := .type "list", data := .seq vs.toArray }, if_pos rfl⟩))) fun H e s' => hCX w H s1 e s'
    by_cases e : b = a
    · exact .inr ⟨e, (Option.some.inj ((if_pos e).symm.trans z)).symm⟩
    · have z2 := (if_neg e).symm.trans z
      by_cases m : b ∈ cs.map (·.2)
      · exact .inl ⟨m, (Option.some.inj ((if_pos m).symm.trans z2)).symm⟩
      · cases (if_neg m).symm.trans z2
end Wn
/-! the head's facts, by a Hook of one's own -/
namespace Wn
open PySem PySem.Spec PyProof.Rows L2 LamX He

/-! ### defs wherever they stand -/
def fnO (K : PySem.W.Frag) (a : Addr) : FnW := match K.lookup a with
  | some ⟨_, _, .func fd, _⟩ => some (fd.name, fd.qualname, fd.params, fd.body, fd.scope, fd.globals, fd.closure, fd.builtins)
  | _ => none
/-- one def, by a function that finds it -/
structure DefW where
  find : PySem.W.Frag → Addr
  name : Str
  qual : Str
  st : Stmt
  dfl : List Dv := []
  kwd : List (Str × Dv) := []
def DefW.val (d : DefW) : FnW := some (d.name, d.qual, defArgs d.st, .stmts (defBody d.st), defScope d.st, mainGlobals, [], builtinsNs)
def DefW.dvs (K : PySem.W.Frag) (d : DefW) : List V := d.dfl.map (Dv.v K)
def DefW.kws (K : PySem.W.Frag) (d : DefW) : List (Str × V) := d.kwd.map fun q => (q.1, q.2.v K)
def DefW.ok (K : PySem.W.Frag) (d : DefW) : Bool := PySem.W.keepIn K (.ref (d.find K)) && (match K.lookup (d.find K) with
  | some ⟨_, _, .func fd, _⟩ => PySem.W.codeIn K fd.code d.qual && (dflB K fd.defaults (d.dvs K) && kwdB K fd.kwdefaults (d.kws K))
  | _ => false)
/-- the function object at an address -/
def fdAt (K : PySem.W.Frag) (a : Addr) : FuncData := match K.lookup a with
  | some ⟨_, _, .func fd, _⟩ => fd
  | _ => PySem.W.fnOf "" "" ⟨[], [], none, [], [], none, []⟩ [] ⟨.function, [], false, false, []⟩ .none .none .none .none none .none .none
/-- the def of the statement st stands at a -/
abbrev FD (K : PySem.W.Frag) (x qual : Str) (st : Stmt) (dvs : List V) (kws : List (Str × V)) (a : Addr) : Prop := FunD K x qual (defArgs st) (defBody st) (defScope st) dvs kws a (fdAt K a)
theorem DefW.fd {K : PySem.W.Frag} {d : DefW} (e : fnO K (d.find K) = d.val) (c : d.ok K = true) : FD K d.name d.qual d.st (d.dvs K) (d.kws K) (d.find K) := by
  obtain ⟨kp, c2⟩ := ba c
  unfold fnO at e
  unfold FD fdAt
  cases q : K.lookup (d.find K) with
  | none =>
    rw [q] at c2
    cases c2
  | some o =>
    obtain ⟨oc, od, dt, osl⟩ := o
    rw [q] at c2 e
    cases dt with
    | func fd =>
      obtain ⟨n1, n2, n3, n4, n5, n6, n7, n8, n9, n10, n11, n12, n13, n14, n15⟩ := fd
      have e2 : (some (n1, n2, n3, n4, n5, n6, n7, n15) : FnW) = some (d.name, d.qual, defArgs d.st, .stmts (defBody d.st), defScope d.st, mainGlobals, [], builtinsNs) := e
      simp only [Option.some.injEq, Prod.mk.injEq] at e2
      obtain ⟨h1, h2, h3, h4, h5, h6, h7, h8⟩ := e2
      subst h1 h2 h3 h4 h5 h6 h7 h8
      obtain ⟨k1, k2⟩ := ba (show (PySem.W.codeIn K n13 d.qual && (dflB K n8 (d.dvs K) && kwdB K n9 (d.kws K))) = true from c2)
      obtain ⟨k3, k4⟩ := ba k2
      exact ⟨⟨oc, od, n8, n9, n10, n11, n12, n13, n14, osl, rfl, q, k1, dflB_ok k3, kwdB_ok k4⟩, kp⟩
    | _ => cases c2

/-! ### where things stand -/
/-- a method's def; a property's getter; a classmethod's def -/
def mA (C m : Str) (K : PySem.W.Frag) : Addr := ma K (ga K C) m
def kA (C m : Str) (K : PySem.W.Frag) : Addr := match PySem.W.recIn K (mA C m K) "classmethod" with
  | some (.ref g :: _) => g
  | _ => 0
def gA (x : Str) (K : PySem.W.Frag) : Addr := ga K x

/-! ### facts -/
inductive Fc where
  | fa (f : Fa)
  | prop (C f : Str)
  | exc (C : Str) (bm : List Value) (nw : String) (fs : List Str)
  | cval (C f : Str) (v : Dv)
  | isc (C T : Str) (b : Bool)
  | mro (C : Str)
  | ins (C : Str)
  | sub (C : Str) (T : String) (b : Bool)
  | tup (x : Str) (vs : List Dv)
  | bmt (C m : Str)
  | dkt (x key : Str) (vs : List Dv)
  | dko (x : Str) (ks : List Str)
  | fnd (C m : Str) (id : String)
  | tne (x y : Str)
  | cmet (C m : Str)
/-- a tuple that stands in a dict of the top -/
def tupA (K : PySem.W.Frag) (a : Addr) (vs : List Dv) : Bool := match K.lookup a with
  | some ⟨.type c, _, .seq its _, _⟩ => decide (c = "tuple") && (decide (its.size ≤ sizeLine) && relAll (vs.map (Dv.v K)) its.toList)
  | _ => false
theorem tupA_ok {K : PySem.W.Frag} {a : Addr} {vs : List Dv} (h : tupA K a vs = true) (H : Hp) : SqT K H a (vs.map (Dv.v K)) := by
  unfold tupA at h
  cases q : K.lookup a with
  | none =>
    rw [q] at h
    cases h
  | some o =>
    obtain ⟨oc, od, dt, osl⟩ := o
    rw [q] at h
    cases oc with
    | type c =>
      cases dt with
      | seq its n =>
        obtain ⟨h1, h2⟩ := ba (show (decide (c = "tuple") && (decide (its.size ≤ sizeLine) && relAll (vs.map (Dv.v K)) its.toList)) = true from h)
        obtain ⟨h3, h4⟩ := ba h2
        exact .inr ⟨_, its, n, q, congrArg Value.type (of_decide_eq_true h1), rfl, of_decide_eq_true h3, relAll_ok h4⟩
      | _ => cases h
    | _ => cases dt <;> cases h
def dktB (K : PySem.W.Frag) (x key : Str) (vs : List Dv) : Bool := match PySem.W.nsIn K (ga K x) key with
  | some (some (.ref a)) => tupA K a vs
  | _ => false
theorem dktB_ok {K : PySem.W.Frag} {x key : Str} {vs : List Dv} (h : dktB K x key vs = true) : ∃ a, PySem.W.nsIn K (ga K x) key = some (some (.ref a)) ∧ ∀ H : Hp, SqT K H a (vs.map (Dv.v K)) := by
  unfold dktB at h
  split at h
  · rename_i a e
    exact ⟨a, e, fun H => tupA_ok h H⟩
  · cases h
/-- a dict of the top has no keys but these texts -/
def dkoB (K : PySem.W.Frag) (x : Str) (ks : List Str) : Bool := match K.lookup (ga K x) with
  | some ⟨_, _, .dict es _, _⟩ => es.toList.all fun e => !e.refKey && (ks.any fun k => e.key.isStr k)
  | _ => false
theorem isStr_one {v : Value} {x y : Str} (hx : v.isStr x = true) (hy : v.isStr y = true) : x = y := by
  cases v with
  | str s t =>
    have hx : (s == x) = true := hx
    have hy : (s == y) = true := hy
    exact (eq_of_beq hx).symm.trans (eq_of_beq hy)
  | _ => cases hx
theorem dkoB_ok {K : PySem.W.Frag} {x : Str} {ks : List Str} (h : dkoB K x ks = true) {z : Str} (hz : z ∉ ks) : PySem.W.nsIn K (ga K x) z = some none := by
  unfold dkoB at h
  unfold PySem.W.nsIn
  cases hk : K.lookup (ga K x) with
  | none => rw [hk] at h; cases h
  | some o =>
    obtain ⟨c, d, dt, sl⟩ := o
    rw [hk] at h
    cases dt with
    | dict es n =>
      have h : (es.toList.all fun e => !e.refKey && (ks.any fun k => e.key.isStr k)) = true := h
      rw [List.all_eq_true] at h
      have h1 : es.toList.find? (fun e => e.key.isStr z) = none := by
        rw [List.find?_eq_none]
        intro e he q
        obtain ⟨_, b⟩ := Bool.and_eq_true_iff.mp (h e he)
        obtain ⟨k, hk1, hk2⟩ := List.any_eq_true.mp b
        exact hz (isStr_one hk2 q ▸ hk1)
      have h2 : es.toList.any (fun e => e.refKey) = false := by
        rw [List.any_eq_false]
        intro e he q
        obtain ⟨a, _⟩ := Bool.and_eq_true_iff.mp (h e he)
        rw [q] at a
        cases a
      simp only [h1, h2]
      rfl
    | _ => cases h
def cmetB (K : PySem.W.Frag) (C : Addr) (m : Str) (p : Addr) : Bool := match PySem.W.findCls K (.ref C) (.type "type") m with
  | some (.get (.builtin i) (.ref p') .none (.ref c')) => decide (i = "classmethod.__get__") && (Nat.beq p' p && Nat.beq c' C)
  | _ => false
def crecB (K : PySem.W.Frag) (p : Addr) : Bool := match PySem.W.recIn K p "classmethod" with
  | some (.ref _ :: _) => true
  | _ => false
def clsRd (K : PySem.W.Frag) (C : Addr) : Bool := PySem.W.readsIn K C (.type "type") && eqO (PySem.W.specialIn K (.ref C) "__getattribute__") (some (some (.builtin "type.__getattribute__")))
def cvalB (K : PySem.W.Frag) (C : Addr) (f : Str) (v : V) : Bool := match PySem.W.findCls K (.ref C) (.type "type") f with
  | some (.val u) => relB v u
  | _ => false
/-- an instance of C is asked for its class in the plain way -/
def insB (K : PySem.W.Frag) (C : Addr) : Bool := eqO (PySem.W.findIn K (.ref C) "__class__") (some (some (.builtin "object.__class__")))
def Fc.ok (K : PySem.W.Frag) : Fc → Bool
  | .fa f => f.ok K
  | .prop C f => eqO (PySem.W.findIn K (.ref (ga K C)) f) (some (some (.ref (mA C f K)))) && (eqO (PySem.W.specialIn K (.ref (mA C f K)) "__get__") (some (some (.builtin "property.__get__"))) &&
      (decide (PySem.W.takesIn K (.ref (mA C f K)) = some true) && (match PySem.W.recIn K (mA C f K) "property" with
        | some (.ref _ :: _) => true
        | _ => false)))
  | .exc C bm nw fs => PySem.W.excInitIn K (ga K C) bm nw && (PySem.W.excOver K (ga K C) bm && (PySem.W.hasDictIn K (ga K C) && (eqO (PySem.W.findIn K (.ref (ga K C)) "__setattr__") (some (some (.builtin "object.__setattr__"))) &&
      (decide (PySem.W.subIn K (.ref (ga K C)) (.type "BaseException") = some true) && (decide (PySem.W.typeIn K (.ref (ga K C)) = some (.type "type")) && (PySem.W.keepIn K (.ref (ga K C)) &&
      (eqO (PySem.W.findIn K (.ref (ga K C)) "__init__") (some (some (.ref (mA C "__init__" K)))) && (decide (PySem.W.typeIn K (.ref (mA C "__init__" K)) = some (.type "function")) && (xfB K (ga K C) &&
      (fs.all (fun f => eqO (PySem.W.findIn K (.ref (ga K C)) f) (some none)) && eqO (PySem.W.findIn K (.ref (ga K C)) "__class__") (some (some (.builtin "object.__class__")))))))))))))
  | .cval C f v => clsRd K (ga K C) && cvalB K (ga K C) f (v.v K)
  | .isc C T b => decide (PySem.W.kitOne K (.ref (ga K C)) (.ref (ga K T)) = some b)
  | .mro C => decide (PySem.W.mroIn K (ga K C) (.type "object") = some true)
  | .ins C => insB K (ga K C)
  | .sub C T b => decide (PySem.W.kitOne K (.ref (ga K C)) (.type T) = some b)
  | .tup x vs => tupB K x vs
  | .dkt x key vs => dktB K x key vs
  | .dko x ks => dkoB K x ks
  | .fnd C m id => eqO (PySem.W.findIn K (.ref (ga K C)) m) (some (some (.builtin id)))
  | .cmet C m => clsRd K (ga K C) && (cmetB K (ga K C) m (mA C m K) && (crecB K (mA C m K) && PySem.W.fnIn K (kA C m K)))
  | .tne x y => !Nat.beq (cT K (x, none)).2 (cT K (y, none)).2
  | .bmt C m => eqO (PySem.W.specialIn K (.ref (mA C m K)) "__get__") (some (some (.builtin "function.__get__"))) && (decide (PySem.W.takesIn K (.ref (mA C m K)) = some false) && PySem.W.fnIn K (mA C m K))

/-! ### the Hook -/
/-- what is looked at: what the module's names reach in n steps, and the statics -/
def refsB (g : Addr → Option Obj) (a : Addr) : List Addr := match g a with
  | some o => refsD o
  | none => []
/-- what is new among them, told by the bits of m -/
def seeB : List Addr → Nat → List Addr → (Nat → List Addr → List Addr) → List Addr
  | [], m, l, k => k m l
  | a :: r, m, l, k => match Nat.beq (Nat.land (Nat.shiftRight m a) 1) 1 with
    | true => seeB r m l k
    | false => HandSHeadRun.frNat (Nat.lor m (Nat.shiftLeft 1 a)) fun m => seeB r m (a :: l) k
def growB (g : Addr → Option Obj) : Nat → Nat → List Addr → List Addr → List Addr
  | 0, _, _, all => all
  | n + 1, m, front, all => seeB (front.flatMap (refsB g)) m [] fun m new => growB g n m new (all ++ new)
def asW (g : Addr → Option Obj) (n : Nat) : List Addr := growB g n (Nat.lor (Nat.shiftLeft 1 mainGlobals) (Nat.shiftLeft 1 cStatics)) [mainGlobals] [mainGlobals, cStatics]
structure SaysW (fc : List Fc) (fw : List DefW) (ts : List Tab) (tf : List Defn) (w : World) (h : Heap) (K : PySem.W.Frag) : Prop where
  x : SaysX [] [] ts tf (fun K => fc.all fun f => f.ok K) w h K
  d : ∀ d ∈ fw, FD K d.name d.qual d.st (d.dvs K) (d.kws K) (d.find K)
theorem SaysW.fact {fc : List Fc} {fw : List DefW} {ts : List Tab} {tf : List Defn} {w : World} {h : Heap} {K : PySem.W.Frag} (c : SaysW fc fw ts tf w h K) (i : Nat) {f : Fc} (e : fc[i]? = some f := by rfl) : f.ok K = true :=
  List.all_eq_true.mp c.x.more f (List.mem_of_getElem? e)
theorem SaysW.def_ {fc : List Fc} {fw : List DefW} {ts : List Tab} {tf : List Defn} {w : World} {h : Heap} {K : PySem.W.Frag} (c : SaysW fc fw ts tf w h K) (i : Nat) {d : DefW} (e : fw[i]? = some d := by rfl) :
    FD K d.name d.qual d.st (d.dvs K) (d.kws K) (d.find K) := c.d d (List.mem_of_getElem? e)
abbrev AlW : Type := AlX × (Bool × List FnW)
def obsK (fc : List Fc) (fw : List DefW) (ts : List Tab) (tf : List Defn) (g : Addr → Option Obj) (K : PySem.W.Frag) : AlW :=
  ((obsT [] [] ts K, (fc.all fun f => f.ok K) && tabsB g tf K), (fw.all fun d => d.ok K, fw.map fun d => fnO K (d.find K)))
def obsW (n : Nat) (fc : List Fc) (fw : List DefW) (ts : List Tab) (tf : List Defn) (g : Addr → Option Obj) : AlW := obsK fc fw ts tf g (frT g (asW g n))
def valW (fw : List DefW) (ts : List Tab) (w : World) : AlW := (valX [] ts w, (true, fw.map DefW.val))
theorem saysW_of {n : Nat} {fc : List Fc} {fw : List DefW} {ts : List Tab} {tf : List Defn} {w : World} {h : Heap} (e : obsW n fc fw ts tf h.get? = valW fw ts w) : SaysW fc fw ts tf w h (frT h.get? (asW h.get? n)) := by
  unfold obsW at e
  generalize eK : frT h.get? (asW h.get? n) = K at e
  have out : ∀ {a : Addr} {o : Obj}, h.get? a = some o → emptyTab o = true → K.lookup a = none := fun {a o} q z => by rw [← eK]; exact frT_none q z
  have t1 : obsT [] [] ts K = valT [] ts w := congrArg (fun z : AlW => z.1.1) e
  have t2 : ((fc.all fun f => f.ok K) && tabsB h.get? tf K) = true := congrArg (fun z : AlW => z.1.2) e
  have e1 : (fw.all fun d => d.ok K) = true := congrArg (fun z : AlW => z.2.1) e
  have e2 : (fw.map fun d => fnO K (d.find K)) = fw.map DefW.val := congrArg (fun z : AlW => z.2.2) e
  obtain ⟨t3, t4⟩ := ba t2
  have key : ∀ p ∈ tf, PySem.W.codeHdIn K (cT K p).1 (cT K p).2 = true ∧ ∃ o, h.get? (cT K p).2 = some o ∧ emptyTab o = true := fun p hp => by
    obtain ⟨y1, y2⟩ := ba (List.all_eq_true.mp t4 p hp)
    refine ⟨y1, ?_⟩
    cases q : h.get? (cT K p).2 with
    | none =>
      rw [q] at y2
      cases y2
    | some o =>
      rw [q] at y2
      exact ⟨o, rfl, y2⟩
  refine ⟨⟨t1, t3, fun p hp => (key p hp).1, fun p hp => ?_, fun p hp => ?_⟩, fun d hd => ?_⟩
  · obtain ⟨_, o, q, z⟩ := key p hp
    exact out q z
  · obtain ⟨_, o, q, z⟩ := key p hp
    rw [q, emptyTab_eq z]
  · obtain ⟨i, hi, ei⟩ := List.mem_iff_getElem.mp hd
    have h3 : fw[i]? = some d := by rw [List.getElem?_eq_getElem hi, ei]
    have e3 : (fw.map fun d => fnO K (d.find K))[i]? = (fw.map DefW.val)[i]? := by rw [e2]
    rw [List.getElem?_map, List.getElem?_map, h3] at e3
    exact DefW.fd (Option.some.inj e3) (List.all_eq_true.mp e1 d hd)
def hookW (n : Nat) (fc : List Fc) (fw : List DefW) (ts : List Tab) (tf : List Defn) : PySem.W.Hook where
  α := AlW
  obs := fun s => obsW n fc fw ts tf s.heap.get?
  val := fun w => valW fw ts w
  says := fun w h => ∃ K : PySem.W.Frag, K.In h ∧ SaysW fc fw ts tf w h K
  of := fun _ _ e => ⟨_, frT_in, saysW_of e⟩
  keeps := fun _ _ _ ⟨K, hK, c⟩ k => ⟨K, PySem.W.Frag.In.keeps hK k, ⟨⟨c.x.t, c.x.more, c.x.hd, c.x.out, fun p hp => k _ _ (c.x.empty p hp)⟩, c.d⟩⟩
theorem obsW_eq {n : Nat} {fc : List Fc} {fw : List DefW} {ts : List Tab} {tf : List Defn} {g : Addr → Option Obj} {s : Shared} (h : ∀ a, g a = s.heap.get? a) : obsW n fc fw ts tf g = (hookW n fc fw ts tf).obs s := by
  have e : g = s.heap.get? := funext h
  rw [e] <;> rfl

/-! ### what the facts say -/
section
variable {K : PySem.W.Frag} {h : Heap} {mg : Str → Option Value}
/-- an own error class: what is raised, what its fields need -/
structure XT (K : PySem.W.Frag) (C : Str) (B nw it : String) (bm : List Value) (fs : List Str) : Prop where
  xc : XC K (ga K C) B nw it bm
  ini : PySem.W.findIn K (.ref (ga K C)) "__init__" = some (some (.ref (mA C "__init__" K)))
  fn : PySem.W.typeIn K (.ref (mA C "__init__" K)) = some (.type "function")
  xf : XfC K (ga K C)
  no : ∀ f ∈ fs, PySem.W.findIn K (.ref (ga K C)) f = some none
  cl : PySem.W.findIn K (.ref (ga K C)) "__class__" = some (some (.builtin "object.__class__"))
theorem exc_okW {C : Str} {B nw it : String} {bm : List Value} {fs : List Str} (bf : ExcBaseFacts B nw it bm) (sf : StoreFacts B bm "object.__setattr__" "object") (c : (Fc.exc C bm nw fs).ok K = true) : XT K C B nw it bm fs := by
  obtain ⟨h1, c⟩ := ba c
  obtain ⟨h2, c⟩ := ba c
  obtain ⟨h3, c⟩ := ba c
  obtain ⟨h4, c⟩ := ba c
  obtain ⟨h5, c⟩ := ba c
  obtain ⟨h6, c⟩ := ba c
  obtain ⟨h7, c⟩ := ba c
  obtain ⟨h8, c⟩ := ba c
  obtain ⟨h9, c⟩ := ba c
  obtain ⟨h10, c⟩ := ba c
  obtain ⟨h11, h12⟩ := ba c
  exact ⟨⟨bf, sf, h1, h2, h3, eqO_ok h4, of_decide_eq_true h5, of_decide_eq_true h6, h7⟩, eqO_ok h8, of_decide_eq_true h9, xfB_ok h10, fun f hf => eqO_ok (List.all_eq_true.mp h11 f hf), eqO_ok h12⟩
end
end Wn
/-! isinstance of a caught error that has a dict of its own -/
namespace Wn
open PySem PySem.Spec PyProof.Rows L2 LamX He
theorem cls_get (K : PySem.W.Frag) : PySem.W.specialIn K (.builtin "object.__class__") "__get__" = some (some (.builtin "getset_descriptor.__get__")) := by
  first | rfl | kernel_rfl
theorem cls_tak (K : PySem.W.Frag) : PySem.W.takesIn K (.builtin "object.__class__") = some true := by
  first | rfl | kernel_rfl
theorem some_cls {K : PySem.W.Frag} {C : Addr} (h : PySem.W.hasDictIn K C = true) : (PySem.W.clsIn K C).isSome = true := by
  obtain ⟨cd, e, _⟩ := hasD h
  rw [e]
  rfl
/-- isinstance(e, c) where the suite holds e, an error of the own class D -/
def rIsX (K : PySem.W.Frag) (cls : Value) (a : Addr) : List V → Hp → VK → Prop := fun xs H Q => ∃ (D : Str) (B nw it : String) (bm : List Value) (fs : List Str) (c : V) (cv : Value) (b : Bool), cls = .ref (ga K D) ∧ XT K D B nw it bm fs ∧
  PySem.W.mroIn K (ga K D) (.type "object") = some true ∧ xs = [.ref a, c] ∧ (∀ u, RelV c u → u = cv) ∧ PySem.W.kitOne K cls cv = some b ∧ Q (.bl b) H
theorem call_isX {X : Cx} {a : Addr} {oe : Obj} {cls : Value} {d : Option Addr} {pn : List (Addr × Obj)} (hz : Zc cls d oe) (hf : ∃ vs, oe.data = .fields vs) : CallR (X.suite a ((a, oe) :: pn)) (.builtin "isinstance") (fun xs H Q => rIsX X.K cls a xs H fun v H' => (∃ dd fs, d = some dd ∧ H dd = some (.xd fs)) ∧ Q v H') := by
  intro pins s σ H xs us Q I r h
  obtain ⟨D, B, nw, it, bm, fs, c, cv, b, ec, T, hm, rfl, hcv, e, ⟨dd, fl, ed, hdd⟩, q⟩ := h
  obtain ⟨u1, u2, rfl, r1, r2⟩ := vals2 r
  cases (show u1 = Value.ref a from r1)
  have e2 := hcv _ r2
  subst e2
  subst ec
  subst ed
  obtain ⟨hget, _⟩ := I.pin (a, oe) (List.mem_append.mpr (.inl List.mem_cons_self))
  obtain ⟨vs, hv⟩ := hf
  have hx : ObjOk X.prog X.w H s.heap dd (.xd fl) := I.hok dd _ hdd
  obtain ⟨mA, hns, hr⟩ := hx
  obtain ⟨od, ho, hl⟩ := lookIn_ns hns
  have J : PySem.W.InstAt s.heap a oe (ga X.K D) (some od) := ⟨hget, hz.1, by unfold PySem.W.notCls; rw [hv] <;> rfl, by rw [hz.2]; exact ho⟩
  exact PySem.W.kia_one (PySem.W.kitx_exc (some_cls T.xc.hdi) T.xf.ga T.xf.gg T.xf.exC T.cl (cls_get _) (cls_tak _) hm) I.kIn J e (fun z => nomatch z) fun tk => ⟨.bl b, H, I.kept (t' := tk) fun _ _ z => z, rfl, q⟩
end Wn
/-! the head's run in parts: each part is a theorem of its own, so that the kernel lets go of one ahead of the next -/
namespace Wn
open PySem PySem.Spec PyProof.Rows L2 LamX He
noncomputable section
/-- the state behind the top -/
def runA (r : PySem.W.OpenRow) (M : Nat) (w : World) (os : OsState) : Option PySem.W.SharedT := HandSHeadRun.endF (HandSHeadRun.stepQ (HandSHeadRun.denQ HandSHeadRun.tabQ) r.prog w) M r.prog w os
def RunP (r : PySem.W.OpenRow) (M : Nat) {α : Type} (f : World → PySem.W.SharedT → α) (v : World → α) : Prop := ∀ (w : World) (os : OsState), (runA r M w os).map (f w) = some (v w)
def lookP (r : PySem.W.OpenRow) (w : World) (s : PySem.W.SharedT) : Bool := HandSHeadRun.looksF r.prog (PySem.W.boot_heap w.params) s.abs
def seenP (r : PySem.W.OpenRow) (q : Program) (loose : List PySem.Str) (_ : World) (s : PySem.W.SharedT) := HandSHeadRun.seenQ q loose (PySem.importedModules r.prog.main.body) (fun s => PySem.W.xlAt q [] s && PySem.W.recOk r.toRowW.records s) s.abs
section
variable {r : PySem.W.OpenRow} {M : Nat} {α β : Type} {f : World → PySem.W.SharedT → α} {v : World → α} {g : World → PySem.W.SharedT → β} {u : World → β}
theorem RunP.pair (h1 : RunP r M f v) (h2 : RunP r M g u) : RunP r M (fun w s => (f w s, g w s)) (fun w => (v w, u w)) := fun w os => by
  have a := h1 w os
  have b := h2 w os
  cases e : runA r M w os with
  | none => rw [e] at a; cases a
  | some s =>
    rw [e] at a b
    have a := Option.some.inj a
    have b := Option.some.inj b
    exact congrArg some (Prod.ext a b)
theorem RunP.map (h : RunP r M f v) (k : World → α → β) : RunP r M (fun w s => k w (f w s)) (fun w => k w (v w)) := fun w os => by
  have a := h w os
  cases e : runA r M w os with
  | none => rw [e] at a; cases a
  | some s =>
    rw [e] at a
    exact congrArg some (congrArg (k w) (Option.some.inj a))
theorem RunP.and {f g : World → PySem.W.SharedT → Bool} (h1 : RunP r M f fun _ => true) (h2 : RunP r M g fun _ => true) : RunP r M (fun w s => f w s && g w s) fun _ => true := (h1.pair h2).map fun _ p => p.1 && p.2
theorem RunP.congr {f' : World → PySem.W.SharedT → α} {v' : World → α} (h : RunP r M f v) (e : ∀ w s, f w s = f' w s) (e2 : ∀ w, v w = v' w) : RunP r M f' v' := by
  have : f = f' := funext fun w => funext fun s => e w s
  have z : v = v' := funext e2
  rw [← this, ← z]
  exact h
theorem run_of {q : Program} {H : PySem.W.Hook} {ob : PySem.W.SharedT → H.α} {loose : List PySem.Str} (h1 : RunP r M (lookP r) fun _ => true) (h2 : RunP r M (seenP r q loose) fun _ => PySem.W.openGood q loose) (h3 : RunP r M (fun _ s => ob s) H.val) (w : World) : HandSHeadRun.RunEq r q H ob M loose w := fun os => (h1.pair (h2.pair h3)) w os
end
/-- what the top asks of the world ('special-get-raises', at a dict display of texts): both answers, one after the other -/
abbrev askRow : String := "special-get-raises"
def RunB (r : PySem.W.OpenRow) (M : Nat) (b : Bool) {α : Type} (f : World → PySem.W.SharedT → α) (v : World → α) : Prop := ∀ (w : World) (os : OsState), (runA r M (w.withFollow askRow b) os).map (f (w.withFollow askRow b)) = some (v (w.withFollow askRow b))
theorem RunB.both {r : PySem.W.OpenRow} {M : Nat} {α : Type} {f : World → PySem.W.SharedT → α} {v : World → α} (h0 : RunB r M false f v) (h1 : RunB r M true f v) : RunP r M f v := fun w os => by
  have e := World.withFollow_self w askRow
  cases hb : w.params.followText askRow <;> rw [hb] at e
  · have := h0 w os
    rw [e] at this
    exact this
  · have := h1 w os
    rw [e] at this
    exact this
/-! the Hook in parts -/
/-- what is known of the heap -/
def obK (n : Nat) (s : PySem.W.SharedT) : PySem.W.Frag := frT (HandSHeadRun.getT s) (asW (HandSHeadRun.getT s) n)
def fcP (n : Nat) (fc : List Fc) (_ : World) (s : PySem.W.SharedT) : Bool := fc.all fun f => f.ok (obK n s)
def fwP (n : Nat) (fw : List DefW) (_ : World) (s : PySem.W.SharedT) : Bool × List FnW := (fw.all fun d => d.ok (obK n s), fw.map fun d => fnO (obK n s) (d.find (obK n s)))
def tbP (n : Nat) (ts : List Tab) (tf : List Defn) (_ : World) (s : PySem.W.SharedT) := (obsT [] [] ts (obK n s), tabsB (HandSHeadRun.getT s) tf (obK n s))
section
variable {r : PySem.W.OpenRow} {M n : Nat} {fc : List Fc} {fw : List DefW} {ts : List Tab} {tf : List Defn}
theorem ob_of (h1 : RunP r M (tbP n ts tf) fun w => (valT [] ts w, true)) (h2 : RunP r M (fcP n fc) fun _ => true) (h3 : RunP r M (fwP n fw) fun _ => (true, fw.map DefW.val)) : RunP r M (fun _ s => obsW n fc fw ts tf (HandSHeadRun.getT s)) (hookW n fc fw ts tf).val :=
  ((h1.pair (h2.pair h3)).map fun _ p => ((p.1.1, p.2.1 && p.1.2), p.2.2)).congr (fun _ _ => rfl) fun _ => rfl
end
end
end Wn
/-! several clauses 'except x as n' of one name -/
namespace Wn
open PySem PySem.Spec PyProof.Rows L2 LamX He
abbrev Clause := Value × (Addr → Value → Option Addr → TS)
/-- the ends, with the clause's name gone -/
def gone (i : Nat) (D : Ends) : Ends := { nx := fun σ H => D.nx (σ.set i none) H, rt := D.rt, bk := fun σ H => D.bk (σ.set i none) H, ct := fun σ H => D.ct (σ.set i none) H }
def wAsN (K : PySem.W.Frag) (i : Nat) (Wout : WX) (D : Ends) : List Clause → WX
  | [] => Wout
  | (c, ts) :: r => fun cls d σ H => ∃ b, PySem.W.exmOne K cls c = some b ∧ (b = true → ∀ a, H a = none → ts a cls d (gone i D) (σ.set i (some (.ref a))) H) ∧ (b = false → wAsN K i Wout D r cls d σ H)
inductive HdsA (X : Cx) (n : Str) : List ExceptHandler → List Clause → Prop
  | nil : HdsA X n [] []
  | cons {x : Str} {c : Value} {ts : Addr → Value → Option Addr → TS} {b₀ : Stmt} {suite : List Stmt} {np pos' : Pos} {hds : List ExceptHandler} {l : List Clause} (hc : Names X x c)
      (hsu : ∀ (a : Addr) (oe : Obj) (cls : Value) (d : Option Addr) (pn : List (Addr × Obj)), Zc cls d oe → (∃ vs, oe.data = .fields vs) → PSs (X.suite a ((a, oe) :: pn)) (b₀ :: suite) (ts a cls d)) (r : HdsA X n hds l) :
      HdsA X n (.ExceptHandler (some (.Name x np)) (some n) (b₀ :: suite) pos' :: hds) ((c, ts) :: l)
section
variable {X : Cx} {body : List Stmt} {h₀ : ExceptHandler} {hds : List ExceptHandler} {l : List Clause} {pos : Pos} {tb : WX → TS} {Wout : WX} {i : Nat} {n : Str}
theorem ps_try_asN (hs : X.stack = X.env :: X.outer) (hf : X.env.frame = some X.env.locals) (hN : X.N.Nodup) (hi : X.N[i]? = some n) (hln : X.env.kindOf n = some .local) (tk : Takes X Wout)
    (hb : ∀ (W : WX) (pn : List (Addr × Obj)) (xe : Value → Shared → Prop), Takes (X.tr pn xe) W → PassesOwn (model X.prog X.w) X.A X.env xe → PSs (X.tr pn xe) body (tb W))
    (hh : HdsA X n (h₀ :: hds) l) : PS X (.Try body (h₀ :: hds) [] [] pos) (fun D σ H => tb (wAsN X.K i Wout D l) D σ H) := by
  refine ⟨fun pins s σ H D I h => ?_⟩
  have ok := I.ok
  have hfr : X.A.frames = some (X.env :: X.outer) := by rw [ok.frames, hs]
  have hloc : Loc X.env.scope n := .inl hln
  refine wpAny_Try_except ?_
  refine wpAny_mono ((hb (wAsN X.K i Wout D l) (X.pn ++ pins) (fun e s₁ => wpAny (model X.prog X.w) X.A (noteFrame e X.env) (fun _ s₂ => wpAny (model X.prog X.w) X.A (setFlight e none) (fun _ s₃ =>
    wpAny (model X.prog X.w) X.A (handleBy e X.env (h₀ :: hds)) (SP X pins D) X.xe s₃) X.xe s₂) X.xe s₁) (fun u s' xx => ?_) PassesOwn.looking).run [] s σ H D (I.toTry _) h) (fun f s1 hsp => ?_) (fun e s1 he => he)
  · obtain ⟨a, B, sI, pins', σ', H', cls, d, rfl, J', nb, up, sky, na, os, ag, w⟩ := xx
    have J : Inv X pins σ' H' sI := J'.ofTry ok
    have sky' : Sky B (X.env :: X.outer) a (Zc cls d) X.env.locals s'.heap := by rw [← hs]; exact sky
    show wpAny (model X.prog X.w) X.A (noteFrame (.ref a) X.env) _ _ _
    refine Sky.land Zc.steady hfr hf sky' fun h3 fl3 up3 => ?_
    have J3 : Inv X pins σ' H' { s' with heap := h3 } := J.landed nb fl3.1 (up.trans up3) os ag
    obtain ⟨oe3, vs3, he3, hz3, hd3⟩ := fl3.there
    have nfr : a ∉ frs (X.env :: X.outer) := fun hm => by
      obtain ⟨_, o', e', hnf⟩ := fl3.2.2.1.mem hm
      rw [he3] at e'; cases e'
      exact hnf _ hd3
    have nL : a ≠ X.env.locals := fun z => nfr (List.mem_filterMap.mpr ⟨X.env, List.mem_cons_self, by rw [hf, z]⟩)
    have nF : a ∉ X.fs := fun hm => by
      obtain ⟨e, he, q⟩ := List.mem_filterMap.mp hm
      exact nfr (List.mem_filterMap.mpr ⟨e, List.mem_cons_of_mem _ he, q⟩)
    have S3 := J3.suite he3 hd3 na nL nF
    have go : ∀ {hds' : List ExceptHandler} {l' : List Clause}, HdsA X n hds' l' → wAsN X.K i Wout D l' cls d σ' H' →
        wpAny (model X.prog X.w) X.A (handleBy (.ref a) X.env hds') (SP X pins D) X.xe { s' with heap := h3 } := by
      intro hds' l' hk
      induction hk with
      | nil =>
        intro w
        refine wpAny_handleBy_nil ?_
        obtain ⟨k1, k2, k3, oe, vs, T, oT, ts', he, hz, hd, h1, hr⟩ := id fl3
        unfold PySem.passOn
        refine wpAny_bind (wpAny_field he hd h1 ?_)
        rw [if_neg (show ¬ ((Value.ref T == Value.none) = true) from by simp)]
        have fin : wpAny (model X.prog X.w) X.A (setFlight (.ref a) X.env.frame) (fun _ s4 => wpAny (model X.prog X.w) X.A (throw (.ref a) : Sem Flow) (SP X pins D) X.xe s4) X.xe { s' with heap := h3 } := by
          rw [hf]
          refine HandSPX.setFlight_upZ fl3 fun h4 hh4 up4 => wpAny_throw (tk _ _ ?_)
          exact ⟨a, B, sI, pins, σ', H', cls, d, rfl, J, nb, (up.trans up3).trans up4, .inr (.inr (by rw [hs]; exact hh4)), na, os, ag, w⟩
        first
          | exact wpAny_bind (wpAny_pure (wpAny_bind fin))
          | exact wpAny_bind fin
      | @cons x c ts b₀ suite np pos' hds2 l2 hc hsu r ih =>
        intro w
        obtain ⟨b, hb1, hyes, hno⟩ := w
        refine wpAny_handleBy_cons (codeAny_handlers_test ?_) (by intro q; cases q)
        have LT : PySem.W.Looks (model X.prog X.w) h3 (typeOf (.ref a)) cls := fun A Q E s k q => wpAny_typeOf_ref (k _ _ he3) (by rw [hz3.1]; exact q)
        have LM := PySem.W.exm_one (M := model X.prog X.w) (J3.kIn) LT hb1
        have test : ∀ {Q : Value → Shared → Prop} {E : Value → Shared → Prop}, Q c { s' with heap := h3 } → wpAny (model X.prog X.w) (X.A.mark (some (.ref a))) (eval (.Name x np) X.env) Q E { s' with heap := h3 } := fun {Q E} q => by
          obtain ⟨hg, hdbg, hm | ⟨hm, hv, hnn⟩⟩ := hc
          · exact ld_glob (X := X.suite a ((a, oe3) :: (X.pn ++ pins))) S3 hg hm q hdbg
          · exact ld_blt (X := X.suite a ((a, oe3) :: (X.pn ++ pins))) S3 hg hm hv q hnn hdbg
        refine test (LM.here ?_)
        cases b with
        | true =>
          refine codeAny_handlers_suite_as ?_
          refine HandSPX.lands_againZ fl3 fun h4 fl4 up4 => ?_
          have J4 : Inv X pins σ' H' { s' with heap := h4 } := J.landed nb fl4.1 ((up.trans up3).trans up4) os ag
          obtain ⟨oe4, vs4, he4, hz4, hd4⟩ := fl4.there
          have S4 := J4.suite he4 hd4 na nL nF
          refine store_ok (X := X.suite a ((a, oe4) :: (X.pn ++ pins))) (v := .ref a) S4 hN hi hloc rfl (fun s5 S5 => ?_) (.inr hln)
          refine wpAny_mono ((hsu a oe4 cls d (X.pn ++ pins) hz4 ⟨_, hd4⟩).run [] s5 _ H' _ S5 (hyes rfl a na)) (fun f s6 hsp => ?_) (fun _ _ z => False.elim z)
          have end_ : ∀ {σ6 : L2.St} {H6 : Hp} {Q : Shared → Prop}, Inv (X.suite a ((a, oe4) :: (X.pn ++ pins))) [] σ6 H6 s6 → (∀ s7, Inv X pins (σ6.set i none) H6 s7 → Q s7) →
              wpAny (model X.prog X.w) X.A (do bindName X.env n .none; unbindBehindTheSuite X.env n pos') (fun _ s7 => Q s7) X.xe s6 := fun {σ6 H6 Q} S6 hq => gone_ok (S6.unsuite ok) hN hi hln hq
          cases f with
          | next =>
            obtain ⟨σ6, H6, S6, q6⟩ := hsp
            exact end_ S6 fun s7 J7 => ⟨_, _, J7, q6⟩
          | brk =>
            obtain ⟨σ6, H6, S6, q6⟩ := hsp
            exact end_ S6 fun s7 J7 => ⟨_, _, J7, q6⟩
          | cont =>
            obtain ⟨σ6, H6, S6, q6⟩ := hsp
            exact end_ S6 fun s7 J7 => ⟨_, _, J7, q6⟩
          | ret u =>
            obtain ⟨v6, σ6, H6, S6, r6, q6⟩ := hsp
            exact end_ S6 fun s7 J7 => ⟨_, _, _, J7, r6, q6⟩
        | false =>
          show wpAny _ X.A (handleBy (.ref a) X.env hds2) _ _ _
          exact ih (hno rfl)
    exact go hh w
  · cases f with
    | next =>
      obtain ⟨σ', H', J', q⟩ := hsp
      exact wpAny_execs_nil ⟨σ', H', J'.ofTry ok, q⟩
    | brk =>
      obtain ⟨σ', H', J', q⟩ := hsp
      exact ⟨σ', H', J'.ofTry ok, q⟩
    | cont =>
      obtain ⟨σ', H', J', q⟩ := hsp
      exact ⟨σ', H', J'.ofTry ok, q⟩
    | ret u =>
      obtain ⟨v, σ', H', J', r, q⟩ := hsp
      exact ⟨v, σ', H', J'.ofTry ok, r, q⟩
end
end Wn
/-! clauses 'except (x, y, ..) as n' -/
namespace Wn
open PySem PySem.Spec PyProof.Rows L2 LamX He
section
variable {M : Model} {A : Around} {E : Value → Shared → Prop} {s : Shared}
end
section
variable {M : Model} {K : PySem.W.Frag}
end

/-! ### the clauses -/
section
variable {X : Cx} {M : Model}
end
section
variable {X : Cx} {body : List Stmt} {h₀ : ExceptHandler} {hds : List ExceptHandler} {l : List ClauseT} {pos : Pos} {tb : WX → TS} {Wout : WX} {i : Nat} {n : Str}
end
end Wn
/-! raise C(e) where C's __init__ stores a caption and one field -/
namespace Wn
open PySem PySem.Spec PyProof.Rows L2 LamX He

def spErr (C : Addr) (f cap : Str) : Sp := fun vs H Q _ => ∃ (a : Addr) (v : V), vs = [.ref a, v] ∧ H a = some (exo a C none) ∧ ∀ dx, H dx = none → dx ≠ a →
  Q .non (upd (upd (upd H dx (exd dx [("caption", .str cap)])) a (exo a C (some dx))) dx (exd dx [(f, v), ("caption", .str cap)]))
/-- raise C(e): for every new d the way out, d the error's own dict -/
def tErr (C : Addr) (f cap : Str) (te : TE) : L2.St → Hp → XK → Prop := fun σ H Q => te σ H fun v H1 => ∀ d, H1 d = none → Q (.ref C) (some d) (upd H1 d (.xd [(f, v), ("caption", .str cap)]))
theorem err_heap {H : Hp} {a d C : Addr} {f1 f2 fs : List (Str × V)} (ha : H a = none) (ne : d ≠ a) :
    upd (del (upd (upd (upd (upd H a (exo a C none)) d (exd d f1)) a (exo a C (some d))) d (exd d f2)) a) d (.xd fs) = upd H d (.xd fs) := by
  funext b
  by_cases h1 : b = d
  · subst h1
    rw [upd_same, upd_same]
  · rw [upd_ne h1, upd_ne h1]
    by_cases h2 : b = a
    · subst h2
      rw [del_same, ha]
    · rw [del_ne h2, upd_ne h1, upd_ne h2, upd_ne h1, upd_ne h2]
section
variable {X : Cx} {e : Expr} {te : TE} {f cap : Str} {p pos : Pos} {CX : CXT} {x C : Str} {k : Nat} {fd : FuncData} {B nw it : String} {bm : List Value} {fs : List Str}
/-- what is wanted behind one argument -/
def one1 (R : V → Hp → Prop) : List V → Hp → Prop := fun vs H => match vs with
  | [v] => R v H
  | _ => False
theorem pmk_err (T : XT X.K C B nw it bm fs) (F1 : FnOk X.prog X.w X.K X.mg X.base CX k (mA C "__init__" X.K) fd ["self", f] (spErr (ga X.K C) f cap)) (hr : Room (k + 1) X.A) (hb : Binds X.K fd ["self", f] []) (hx : Passes CX X (fun _ _ _ => False))
    (hg : Gl X x) (hm : X.mg x = some (.ref (ga X.K C))) (he : PE X e te) (hdb : (x == ("__debug__" : Str)) = false := by decide) (hst : starEach [e] X.env = [(false, eval e X.env)] := by rfl) :
    PMk X (.Call (.Name x p) [e] [] pos) (tErr (ga X.K C) f cap te) := by
  intro pins s σ H Q I h
  refine wpAny_Call_Name_kw (ld_glob I hg hm ?_ hdb)
  refine PySem.W.callWith_K (h₀ := X.base) I.ok.mod.kin T.xc.kC (thn ((pa_cons he pa_nil hst).run pos pins s σ H (one1 fun v H1 => ∀ d, H1 d = none → Q (.ref (ga X.K C)) (some d) (upd H1 d (.xd [(f, v), ("caption", .str cap)]))) I h) fun us s1 ⟨vs, H1, I1, r1, q1⟩ => ⟨I1.kIn, ?_⟩) hst rfl
  match vs, r1, q1 with
  | [v], r1, q1 =>
    refine xm_run T.xc T.ini T.fn F1 hr hb hx I1 r1 (by show 1 ≤ 1000; decide) fun a ha => ⟨a, v, rfl, upd_same, fun dx hd ne => ⟨rfl, dx, [(f, v), ("caption", .str cap)], ?_, upd_same, ?_, ?_⟩⟩
    · rw [upd_ne (Ne.symm ne), upd_same]
    · rw [upd_ne ne] at hd
      exact hd
    · rw [err_heap ha ne]
      rw [upd_ne ne] at hd
      exact q1 dx hd
/-- an error's __init__ keeps its promise -/
theorem err_init {P : Program} {w : World} {K : PySem.W.Frag} {mg : Str → Option Value} {base : Heap} {st : Stmt} {p1 p2 p3 p4 p5 p6 p7 p8 : Pos} {j : Nat} (T : XT K C B nw it bm fs) (F : FD K "__init__" cap st [] [] (mA C "__init__" K)) (S : FnScope ["self", f] ["self", f] (defScope st))
    (hbd : defBody st = [.Assign [.Attribute (.Name "self" p1) "caption" p2] (.Constant (.str x) j p3) p4, .Assign [.Attribute (.Name "self" p5) f p6] (.Name f p7) p8])
    (h1 : (("caption" : Str) ∈ fs) ∧ f ∈ fs) (hn : (f == ("__debug__" : Str)) = false ∧ (f == ("__classdict__" : Str)) = false)
    (hs : ∀ env : Env, swapsWith (.Constant (.str x) j p3) (some (.Attribute (.Name "self" p1) "caption" p2)) p4.line env = pure false ∧ swapsWith (.Name f p7) (some (.Attribute (.Name "self" p5) f p6)) p8.line env = pure false)
    (hv : Vis (defScope st) "self" ∧ Vis (defScope st) f) :
    FnOk P w K mg base CX0 1 (mA C "__init__" K) (fdAt K (mA C "__init__" K)) ["self", f] (spErr (ga K C) f x) := by
  refine FunD.ok F S (fun vs H Q E h => ?_) (fun cdv A outer s H vs Q E hr h => ?_)
  · obtain ⟨a, v, rfl, _⟩ := h
    rfl
  · obtain ⟨a, v, rfl, ha, k⟩ := h
    rw [hbd]
    refine ⟨_, pss_cons (ps_xs (pe_var (i := 0) rfl hv.1) pe_str (hs _).1) (pss_one (ps_xs (pe_var (i := 0) rfl hv.1) (pe_var (i := 1) rfl hv.2 hn.1 hn.2) (hs _).2)), ?_⟩
    refine ⟨_, rfl, a, ga K C, B, nw, it, bm, rfl, T.xc, T.no _ h1.1, .inl ⟨ha, fun dx hd ne => ?_⟩⟩
    refine ⟨_, rfl, _, rfl, a, ga K C, B, nw, it, bm, rfl, T.xc, T.no _ h1.2, .inr ⟨dx, [("caption", .str x)], upd_same, ?_, (by show 1 ≤ 900; decide), ?_⟩⟩
    · rw [upd_ne ne, upd_same]
    · exact k dx hd ne
end
end Wn
/-! sorted(xs, key=f): f is called as a def of the text is -/
namespace Wn
open PySem PySem.Spec PyProof.Rows L2 LamX PySem.W

theorem Same.sqt {K : PySem.W.Frag} {H H' : Hp} {a : Addr} {xs : List V} (e : Same H H') (h : SqT K H a xs) : SqT K H' a xs := by
  rcases h with (h | ⟨o, h⟩) | h
  · exact .inl (.inl (e _ _ h))
  · exact .inl (.inr ⟨o, e _ _ h⟩)
  · exact .inr h
mutual
theorem Dp.same {K : PySem.W.Frag} {H H' : Hp} (e : Same H H') : ∀ (d : PyData) (v : V), Dp K H v d → Dp K H' v d
  | .none, _, h => by cases h; exact .non
  | .bool b, _, h => by cases h; exact .bl b
  | .int i, _, h => by cases h; exact .int i
  | .str x, _, h => by cases h; exact .str x
  | .list ds, _, h => by cases h with | lst hs ha => exact .lst (e.seq hs) (DpAll.same e ds _ ha)
  | .tuple ds, _, h => by cases h with | tup hs ha => exact .tup (Same.sqt e hs) (DpAll.same e ds _ ha)
  | .dict kvs, _, h => by cases h
theorem DpAll.same {K : PySem.W.Frag} {H H' : Hp} (e : Same H H') : ∀ (ds : List PyData) (vs : List V), DpAll K H vs ds → DpAll K H' vs ds
  | [], _, h => by cases h; exact .nil
  | d :: ds, _, h => by cases h with | cons h1 h2 => exact .cons (Dp.same e d _ h1) (DpAll.same e ds _ h2)
end

theorem dpLen {K : PySem.W.Frag} {H : Hp} : ∀ {vs : List V} {ds : List PyData}, DpAll K H vs ds → vs.length = ds.length
  | _, _, .nil => rfl
  | _, _, .cons _ t => congrArg Nat.succ (dpLen t)
theorem dpApp {K : PySem.W.Frag} {H : Hp} : ∀ {vs ws : List V} {ds es : List PyData}, DpAll K H vs ds → DpAll K H ws es → DpAll K H (vs ++ ws) (ds ++ es)
  | _, _, _, _, .nil, h => h
  | _, _, _, _, .cons a t, h => .cons a (dpApp t h)
section
variable {X : Cx} {pins : List (Addr × Obj)} {σ : L2.St} {H : Hp} {s : Shared}
variable {Q : VK} {l q : Addr} {xs : List V} {kd : V → PyData}
end
end Wn
/-! systems: what stands in the heap, and its plain picture -/
namespace Wn
open PySem PySem.Spec PyProof.Rows L2 LamX He

/-! ### lists of pairs with whole numbers as keys -/
section
variable {α β : Type}
def lk : List (Int × α) → Int → Option α
  | [], _ => none
  | r :: l, n => if r.1 = n then some r.2 else lk l n
def pt : List (Int × α) → Int → α → List (Int × α)
  | [], n, x => [(n, x)]
  | r :: l, n, x => if r.1 = n then (n, x) :: l else r :: pt l n x
def dr (l : List (Int × α)) (n : Int) : List (Int × α) := l.filter fun r => decide (r.1 ≠ n)
def kv (g : α → V) (l : List (Int × α)) : List (Key × V) := l.map fun r => (Sum.inl r.1, g r.2)
theorem lk_pos {r : Int × α} {l : List (Int × α)} {n : Int} (e : r.1 = n) : lk (r :: l) n = some r.2 := if_pos e
theorem lk_neg {r : Int × α} {l : List (Int × α)} {n : Int} (e : ¬ r.1 = n) : lk (r :: l) n = lk l n := if_neg e
theorem val_kv (g : α → V) (n : Int) : ∀ l : List (Int × α), valV (kv g l) (Sum.inl n : Key) = (lk l n).map g
  | [] => rfl
  | r :: l => by
    show valV (((Sum.inl r.1 : Key), g r.2) :: kv g l) (Sum.inl n) = _
    by_cases e : r.1 = n
    · rw [valV_pos (show (Sum.inl r.1 : Key) = Sum.inl n by rw [e]), lk_pos e]
      rfl
    · rw [valV_neg (fun z => e (Sum.inl.inj z)), lk_neg e, val_kv g n l]
theorem lk_mem {n : Int} {x : α} : ∀ {l : List (Int × α)}, lk l n = some x → (n, x) ∈ l
  | [], h => nomatch h
  | r :: l, h => by
    by_cases e : r.1 = n
    · rw [lk_pos e] at h
      cases h
      subst e
      exact List.mem_cons_self
    · rw [lk_neg e] at h
      exact List.mem_cons_of_mem _ (lk_mem h)
theorem lk_of_mem {n : Int} {x : α} : ∀ {l : List (Int × α)}, (l.map (·.1)).Nodup → (n, x) ∈ l → lk l n = some x
  | [], _, h => nomatch h
  | r :: l, nd, h => by
    obtain ⟨h1, h2⟩ := List.nodup_cons.mp (show (r.1 :: l.map (·.1)).Nodup from nd)
    rcases List.mem_cons.mp h with z | z
    · subst z
      exact lk_pos rfl
    · rw [lk_neg fun e => h1 (e ▸ List.mem_map.mpr ⟨_, z, rfl⟩)]
      exact lk_of_mem h2 z
theorem lk_app {n : Int} {l m : List (Int × α)} : lk (l ++ m) n = (lk l n).or (lk m n) := by
  induction l with
  | nil => rfl
  | cons r l ih =>
    show lk (r :: (l ++ m)) n = _
    by_cases e : r.1 = n
    · rw [lk_pos e, lk_pos e]
      rfl
    · rw [lk_neg e, lk_neg e, ih]
end

/-! ### what stands in the heap -/
structure En where
  ad : Addr
  dx : Addr
  num : Int
  ser : Int
  lab : Int
  wrd : Str
  arm : Bool
inductive Tg where
  | src (dx : Addr) (u : Int) (f : Bool)
  | set (dx L R : Addr) (es : List En) (row : List Int)
structure Th where
  ad : Addr
  tg : Tg
structure Tb where
  ad : Addr
  rows : List (Int × Int)
structure Sy where
  p : Addr
  dx : Addr
  T : Addr
  G : Addr
  P : Int
  N : Int
  made : Int
  tabs : List (Int × Tb)
  ths : List (Int × Th)
def sysF (P N : Int) (T G : Addr) (m : Int) : List (Str × V) := [("process_limit", .int P), ("number_limit", .int N), ("tables", .ref T), ("things", .ref G), ("serials_made", .int m)]
def srcF (u : Int) (f : Bool) : List (Str × V) := [("unread", .int u), ("finished", .bl f)]
def setF (L R : Addr) : List (Str × V) := [("entries", .ref L), ("row", .ref R)]
def entF (e : En) : List (Str × V) := [("number", .int e.num), ("serial", .int e.ser), ("label", .int e.lab), ("word", .str e.wrd), ("armed", .bl e.arm)]
def tbV (t : Tb) : V := .ref t.ad
def thV (t : Th) : V := .ref t.ad
def TgAt (K : PySem.W.Frag) (H : Hp) (a : Addr) : Tg → Prop
  | .src dx u f => H a = some (.ins (ga K "Source") dx (srcF u f))
  | .set dx L R es row => H a = some (.ins (ga K "WaitSet") dx (setF L R)) ∧ H L = some (.lst (es.map fun e => .ref e.ad)) ∧ H R = some (.lst (row.map V.int)) ∧ ∀ e ∈ es, H e.ad = some (.ins (ga K "Entry") e.dx (entF e))
/-- the lists and the registrations of a thing -/
def Tg.lsts : Tg → List Addr
  | .src _ _ _ => []
  | .set _ L R _ _ => [L, R]
def Tg.ents : Tg → List Addr
  | .src _ _ _ => []
  | .set _ _ _ es _ => es.map (·.ad)
def Sy.dcs (s : Sy) : List Addr := s.T :: s.G :: s.tabs.map (·.2.ad)
def Sy.ths' (s : Sy) : List Addr := s.ths.map (·.2.ad)
def Sy.lsts (s : Sy) : List Addr := s.ths.flatMap (·.2.tg.lsts)
def Sy.ents (s : Sy) : List Addr := s.ths.flatMap (·.2.tg.ents)
/-- all that a system owns -/
def Sy.foot (s : Sy) : List Addr := s.p :: (s.dcs ++ (s.ths' ++ (s.lsts ++ s.ents)))
structure SyAt (K : PySem.W.Frag) (H : Hp) (s : Sy) : Prop where
  ob : H s.p = some (.ins (ga K "System") s.dx (sysF s.P s.N s.T s.G s.made))
  tb : H s.T = some (.dK (kv tbV s.tabs))
  tt : ∀ t ∈ s.tabs, H t.2.ad = some (.dK (kv V.int t.2.rows))
  gb : H s.G = some (.dK (kv thV s.ths))
  gt : ∀ t ∈ s.ths, TgAt K H t.2.ad t.2.tg
  nd : s.dcs.Nodup
  nt : s.ths'.Nodup
  nl : s.lsts.Nodup
  ne : s.ents.Nodup
/-! ### the plain picture -/
structure Ev where
  num : Int
  ser : Int
  lab : Int
  wrd : Str
  arm : Bool
  deriving DecidableEq
inductive Tv where
  | src (u : Int) (f : Bool)
  | set (es : List Ev) (row : List Int)
  deriving DecidableEq
structure Sv where
  P : Int
  N : Int
  made : Int
  tabs : List (Int × List (Int × Int))
  ths : List (Int × Tv)
def En.v (e : En) : Ev := ⟨e.num, e.ser, e.lab, e.wrd, e.arm⟩
def Tg.v : Tg → Tv
  | .src _ u f => .src u f
  | .set _ _ _ es row => .set (es.map En.v) row
def Sy.v (s : Sy) : Sv := ⟨s.P, s.N, s.made, s.tabs.map fun t => (t.1, t.2.rows), s.ths.map fun t => (t.1, t.2.tg.v)⟩
/-- behind a call: what is not the system's stands, what is the system's was or is new -/
structure Fr' (s s' : Sy) (H H' : Hp) : Prop where
  keep : ∀ b o, H b = some o → b ∉ s.foot → H' b = some o
  foot : ∀ b ∈ s'.foot, b ∈ s.foot ∨ H b = none
  same : s'.p = s.p
theorem Fr'.refl (s : Sy) (H : Hp) : Fr' s s H H := ⟨fun _ _ e _ => e, fun _ h => .inl h, rfl⟩
theorem Fr'.more {s s' : Sy} {H H' H'' : Hp} (f : Fr' s s' H H') (e : Same H' H'') : Fr' s s' H H'' := ⟨fun b o h n => e _ _ (f.keep b o h n), f.foot, f.same⟩
theorem Fr'.out {s s' : Sy} {H H' : Hp} (f : Fr' s s' H H') {b : Addr} {o : HO} (h : H b = some o) (n : b ∉ s.foot) : b ∉ s'.foot := fun m => by
  rcases f.foot b m with z | z
  · exact n z
  · rw [h] at z
    cases z
theorem Fr'.trans {s s1 s2 : Sy} {H H1 H2 : Hp} (f : Fr' s s1 H H1) (g : Fr' s1 s2 H1 H2) : Fr' s s2 H H2 := by
  refine ⟨fun b o h n => g.keep b o (f.keep b o h n) (f.out h n), fun b m => ?_, g.same.trans f.same⟩
  rcases g.foot b m with z | z
  · exact f.foot b z
  · by_cases n : b ∈ s.foot
    · exact .inl n
    · cases e : H b with
      | none => exact .inr rfl
      | some o =>
        rw [f.keep b o e n] at z
        cases z
theorem SyAt.same {K : PySem.W.Frag} {H H' : Hp} {s : Sy} (S : SyAt K H s) (e : ∀ b o, H b = some o → b ∈ s.foot → H' b = some o) : SyAt K H' s := by
  have fT : ∀ {b}, b ∈ s.dcs → b ∈ s.foot := fun h => List.mem_cons_of_mem _ (List.mem_append_left _ h)
  have fH : ∀ {b}, b ∈ s.ths' → b ∈ s.foot := fun h => List.mem_cons_of_mem _ (List.mem_append_right _ (List.mem_append_left _ h))
  have fL : ∀ {b}, b ∈ s.lsts → b ∈ s.foot := fun h => List.mem_cons_of_mem _ (List.mem_append_right _ (List.mem_append_right _ (List.mem_append_left _ h)))
  have fE : ∀ {b}, b ∈ s.ents → b ∈ s.foot := fun h => List.mem_cons_of_mem _ (List.mem_append_right _ (List.mem_append_right _ (List.mem_append_right _ h)))
  refine ⟨e _ _ S.ob List.mem_cons_self, e _ _ S.tb (fT List.mem_cons_self), fun t h => e _ _ (S.tt t h) (fT (List.mem_cons_of_mem _ (List.mem_cons_of_mem _ (List.mem_map.mpr ⟨t, h, rfl⟩)))), e _ _ S.gb (fT (List.mem_cons_of_mem _ List.mem_cons_self)),
    fun t h => ?_, S.nd, S.nt, S.nl, S.ne⟩
  have ha : t.2.ad ∈ s.foot := fH (List.mem_map.mpr ⟨t, h, rfl⟩)
  have q := S.gt t h
  cases ht : t.2.tg with
  | src dx u f =>
    rw [ht] at q
    exact e _ _ q ha
  | set dx L R es row =>
    rw [ht] at q
    obtain ⟨q1, q2, q3, q4⟩ := q
    have mL : ∀ b ∈ [L, R], b ∈ s.foot := fun b hb => fL (List.mem_flatMap.mpr ⟨t, h, by rw [ht]; exact hb⟩)
    exact ⟨e _ _ q1 ha, e _ _ q2 (mL L (by simp)), e _ _ q3 (mL R (by simp)), fun x hx => e _ _ (q4 x hx) (fE (List.mem_flatMap.mpr ⟨t, h, by rw [ht]; exact List.mem_map.mpr ⟨x, hx, rfl⟩⟩))⟩
theorem SyAt.ext {K : PySem.W.Frag} {H H' : Hp} {s : Sy} (S : SyAt K H s) (e : Same H H') : SyAt K H' s := S.same fun b o h _ => e b o h
/-- the tables, also while a dict is walked -/
structure SyT (K : PySem.W.Frag) (H : Hp) (s : Sy) : Prop where
  ob : H s.p = some (.ins (ga K "System") s.dx (sysF s.P s.N s.T s.G s.made))
  tb : Rd H s.T (.dK (kv tbV s.tabs))
  tt : ∀ t ∈ s.tabs, Rd H t.2.ad (.dK (kv V.int t.2.rows))
theorem rd_same {H H' : Hp} {a : Addr} {o : HO} (h : Rd H a o) (e : Same H H') : Rd H' a o := h.elim (fun h => .inl (e _ _ h)) fun ⟨u, h⟩ => .inr ⟨u, e _ _ h⟩
theorem SyT.ext {K : PySem.W.Frag} {H H' : Hp} {s : Sy} (S : SyT K H s) (e : Same H H') : SyT K H' s := ⟨e _ _ S.ob, rd_same S.tb e, fun t h => rd_same (S.tt t h) e⟩
theorem SyAt.t {K : PySem.W.Frag} {H : Hp} {s : Sy} (S : SyAt K H s) : SyT K H s := ⟨S.ob, .inl S.tb, fun t h => .inl (S.tt t h)⟩
instance {K : PySem.W.Frag} {H : Hp} {s : Sy} : Coe (SyAt K H s) (SyT K H s) := ⟨SyAt.t⟩
end Wn
/-! plain facts of systems -/
namespace Wn
open PySem PySem.Spec PyProof.Rows L2 LamX He

/-! ### sorted lists of whole numbers -/
def srtI (l : List Int) : List Int := l.mergeSort fun a b => decide (a ≤ b)
/-- numbers below n, none twice, are at most n -/
theorem few : ∀ (n : Nat) {l : List Int}, l.Nodup → (∀ x ∈ l, 0 ≤ x ∧ x < (n : Int)) → l.length ≤ n
  | 0, l, _, h => by
    cases l with
    | nil => exact Nat.le_refl _
    | cons a l =>
      have := h a List.mem_cons_self
      omega
  | n + 1, l, nd, h => by
    have h1 := few n (l := l.filter fun x => decide (x ≠ (n : Int))) (nd.filter _) (fun x hx => by
      obtain ⟨h1, h2⟩ := List.mem_filter.mp hx
      have h3 := h x h1
      have h4 : x ≠ (n : Int) := of_decide_eq_true h2
      omega)
    have h2 : l.length ≤ (l.filter fun x => decide (x ≠ (n : Int))).length + 1 := by
      clear h h1
      induction l with
      | nil => exact Nat.zero_le _
      | cons a l ih =>
        obtain ⟨n1, n2⟩ := List.nodup_cons.mp nd
        by_cases e : a = (n : Int)
        · have : l.filter (fun x => decide (x ≠ (n : Int))) = l := List.filter_eq_self.mpr fun x hx => decide_eq_true fun z => n1 (by rw [e, ← z]; exact hx)
          rw [List.filter_cons, if_neg (by simp [e]), this]
          exact Nat.le_refl _
        · rw [List.filter_cons, if_pos (by simp [e])]
          have := ih n2
          simp only [List.length_cons]
          omega
    omega

/-! ### well formed systems -/
def SetOk (v : Sv) (es : List Ev) (row : List Int) : Prop :=
  (es.map (·.lab)).Nodup ∧ (es.map fun e => (e.num, e.ser)).Nodup ∧ row.Nodup ∧ (∀ x ∈ row, ∃ e ∈ es, e.lab = x ∧ e.arm = true) ∧ (∀ e ∈ es, ∃ u f, lk v.ths e.ser = some (.src u f)) ∧ es.length ≤ mostE
structure WF (v : Sv) : Prop where
  p : 2 ≤ v.P ∧ v.P ≤ 6
  n : 3 ≤ v.N ∧ v.N ≤ 8
  ndp : (v.tabs.map (·.1)).Nodup
  rp : ∀ t ∈ v.tabs, 0 ≤ t.1 ∧ t.1 < v.P
  ndn : ∀ t ∈ v.tabs, (t.2.map (·.1)).Nodup
  rn : ∀ t ∈ v.tabs, ∀ r ∈ t.2, 0 ≤ r.1 ∧ r.1 < v.N
  th : ∀ t ∈ v.tabs, ∀ r ∈ t.2, r.2 ∈ v.ths.map (·.1)
  nds : (v.ths.map (·.1)).Nodup
  rs : ∀ t ∈ v.ths, 0 ≤ t.1 ∧ t.1 < v.made
  held : ∀ t ∈ v.ths, ∃ u ∈ v.tabs, ∃ r ∈ u.2, r.2 = t.1
  ok : ∀ t ∈ v.ths, ∀ es row, t.2 = .set es row → SetOk v es row
/-- what the tables and serials alone say -/
structure WF0 (v : Sv) : Prop where
  p : 2 ≤ v.P ∧ v.P ≤ 6
  n : 3 ≤ v.N ∧ v.N ≤ 8
  ndp : (v.tabs.map (·.1)).Nodup
  rp : ∀ t ∈ v.tabs, 0 ≤ t.1 ∧ t.1 < v.P
  ndn : ∀ t ∈ v.tabs, (t.2.map (·.1)).Nodup
  rn : ∀ t ∈ v.tabs, ∀ r ∈ t.2, 0 ≤ r.1 ∧ r.1 < v.N
  nds : (v.ths.map (·.1)).Nodup
  rs : ∀ t ∈ v.ths, 0 ≤ t.1 ∧ t.1 < v.made
theorem WF.w0 {v : Sv} (h : WF v) : WF0 v := ⟨h.p, h.n, h.ndp, h.rp, h.ndn, h.rn, h.nds, h.rs⟩
theorem WF.new {P N : Int} (h1 : 2 ≤ P ∧ P ≤ 6) (h2 : 3 ≤ N ∧ N ≤ 8) : WF ⟨P, N, 0, [(0, [])], []⟩ where
  p := h1
  n := h2
  ndp := by simp
  rp := fun t ht => by
    cases List.mem_singleton.mp ht
    show (0 : Int) ≤ 0 ∧ (0 : Int) < P
    omega
  ndn := fun t ht => by
    cases List.mem_singleton.mp ht
    exact List.nodup_nil
  rn := fun t ht r hr => by
    cases List.mem_singleton.mp ht
    cases hr
  th := fun t ht r hr => by
    cases List.mem_singleton.mp ht
    cases hr
  nds := List.nodup_nil
  rs := fun t ht => nomatch ht
  held := fun t ht => nomatch ht
  ok := fun t ht => nomatch ht
/-- the picture of the tables and of the things -/
theorem lk_map {α β : Type} (f : α → β) (n : Int) : ∀ l : List (Int × α), lk (l.map fun r => (r.1, f r.2)) n = (lk l n).map f
  | [] => rfl
  | r :: l => by
    show lk ((r.1, f r.2) :: l.map fun r => (r.1, f r.2)) n = _
    by_cases e : r.1 = n
    · rw [lk_pos (r := (r.1, f r.2)) e, lk_pos e]
      rfl
    · rw [lk_neg (r := (r.1, f r.2)) e, lk_neg e, lk_map f n l]
theorem Sy.tabs_v (s : Sy) (n : Int) : lk s.v.tabs n = (lk s.tabs n).map (·.rows) := lk_map (fun t : Tb => t.rows) n s.tabs
theorem Sy.ths_v (s : Sy) (n : Int) : lk s.v.ths n = (lk s.ths n).map (·.tg.v) := lk_map (fun t : Th => t.tg.v) n s.ths
theorem Sy.pids (s : Sy) : s.v.tabs.map (·.1) = s.tabs.map (·.1) := by
  show (s.tabs.map fun t => (t.1, t.2.rows)).map (·.1) = _
  rw [List.map_map]
  rfl
theorem Sy.sers (s : Sy) : s.v.ths.map (·.1) = s.ths.map (·.1) := by
  show (s.ths.map fun t => (t.1, t.2.tg.v)).map (·.1) = _
  rw [List.map_map]
  rfl
/-- the numbers that mean a thing -/
def holdsIn (ser p : Int) (rows : List (Int × Int)) : List (Int × Int) := ((srtI (rows.map (·.1))).filter fun n => decide (lk rows n = some ser)).map fun n => (p, n)
def holds (tabs : List (Int × List (Int × Int))) (ser : Int) : List (Int × Int) := (srtI (tabs.map (·.1))).flatMap fun p => match lk tabs p with
  | none => []
  | some rows => holdsIn ser p rows
end Wn
namespace Wn
open PySem PySem.Spec PyProof.Rows L2 LamX He
/-! ### things are placed -/
section
variable {α β : Type}
def upAt (l : List (Int × α)) (i : Int) (f : α → α) : List (Int × α) := l.map fun t => if t.1 = i then (t.1, f t.2) else t
theorem upAt_keys (l : List (Int × α)) (i : Int) (f : α → α) : (upAt l i f).map (·.1) = l.map (·.1) := by
  unfold upAt
  rw [List.map_map]
  refine List.map_congr_left fun t _ => ?_
  show (if t.1 = i then (t.1, f t.2) else t).1 = t.1
  split <;> rfl
theorem upAt_mem {l : List (Int × α)} {i : Int} {f : α → α} {t : Int × α} (h : t ∈ upAt l i f) : (t.1 ≠ i ∧ t ∈ l) ∨ ∃ x, (i, x) ∈ l ∧ t = (i, f x) := by
  obtain ⟨u, hu, rfl⟩ := List.mem_map.mp h
  by_cases e : u.1 = i
  · right
    refine ⟨u.2, ?_, ?_⟩
    · rw [← e]; exact hu
    · rw [if_pos e, e]
  · left
    rw [if_neg e]
    exact ⟨e, hu⟩
theorem upAt_kv (g : α → V) (f : α → α) (h : ∀ x, g (f x) = g x) (l : List (Int × α)) (i : Int) : kv g (upAt l i f) = kv g l := by
  unfold upAt kv
  rw [List.map_map]
  refine List.map_congr_left fun t _ => ?_
  show (Sum.inl (if t.1 = i then (t.1, f t.2) else t).1, g (if t.1 = i then (t.1, f t.2) else t).2) = ((Sum.inl t.1 : Key), g t.2)
  split
  · rw [h]
  · rfl
end
/-- the rows of one table are changed -/
def Tb.fn (f : List (Int × Int) → List (Int × Int)) (t : Tb) : Tb := ⟨t.ad, f t.rows⟩
theorem Sy.in_dcs {s : Sy} {b : Addr} (h : b ∈ s.dcs) : b ∈ s.foot := List.mem_cons_of_mem _ (List.mem_append_left _ h)
theorem Sy.in_ths {s : Sy} {b : Addr} (h : b ∈ s.ths') : b ∈ s.foot := List.mem_cons_of_mem _ (List.mem_append_right _ (List.mem_append_left _ h))
theorem Sy.in_lsts {s : Sy} {b : Addr} (h : b ∈ s.lsts) : b ∈ s.foot := List.mem_cons_of_mem _ (List.mem_append_right _ (List.mem_append_right _ (List.mem_append_left _ h)))
theorem Sy.in_ents {s : Sy} {b : Addr} (h : b ∈ s.ents) : b ∈ s.foot := List.mem_cons_of_mem _ (List.mem_append_right _ (List.mem_append_right _ (List.mem_append_right _ h)))
section
variable {K : PySem.W.Frag} {H : Hp} {s : Sy}
theorem SyAt.dc (S : SyAt K H s) {b : Addr} (h : b ∈ s.dcs) : ∃ kvs, H b = some (.dK kvs) := by
  rcases List.mem_cons.mp h with z | z
  · exact ⟨_, z ▸ S.tb⟩
  · rcases List.mem_cons.mp z with z | z
    · exact ⟨_, z ▸ S.gb⟩
    · obtain ⟨t, ht, rfl⟩ := List.mem_map.mp z
      exact ⟨_, S.tt t ht⟩
theorem SyAt.th' (S : SyAt K H s) {b : Addr} (h : b ∈ s.ths') : ∃ C dx fs, fs.lookup ("tables" : Str) = none ∧ fs.lookup ("label" : Str) = none ∧ H b = some (.ins C dx fs) := by
  obtain ⟨t, ht, rfl⟩ := List.mem_map.mp h
  have q := S.gt t ht
  cases e : t.2.tg with
  | src dx u f =>
    rw [e] at q
    exact ⟨_, _, _, rfl, rfl, q⟩
  | set dx L R es row =>
    rw [e] at q
    exact ⟨_, _, _, rfl, rfl, q.1⟩
theorem SyAt.ls (S : SyAt K H s) {b : Addr} (h : b ∈ s.lsts) : ∃ xs, H b = some (.lst xs) := by
  obtain ⟨t, ht, hb⟩ := List.mem_flatMap.mp h
  have q := S.gt t ht
  cases e : t.2.tg with
  | src dx u f =>
    rw [e] at hb
    cases hb
  | set dx L R es row =>
    rw [e] at q hb
    rcases List.mem_cons.mp hb with z | z
    · exact ⟨_, z ▸ q.2.1⟩
    · cases List.mem_singleton.mp z
      exact ⟨_, q.2.2.1⟩
theorem SyAt.en (S : SyAt K H s) {b : Addr} (h : b ∈ s.ents) : ∃ dx fs, fs.lookup ("tables" : Str) = none ∧ (fs.lookup ("label" : Str)).isSome = true ∧ H b = some (.ins (ga K "Entry") dx fs) := by
  obtain ⟨t, ht, hb⟩ := List.mem_flatMap.mp h
  have q := S.gt t ht
  cases e : t.2.tg with
  | src dx u f =>
    rw [e] at hb
    cases hb
  | set dx L R es row =>
    rw [e] at q hb
    obtain ⟨x, hx, rfl⟩ := List.mem_map.mp hb
    exact ⟨_, _, rfl, rfl, q.2.2.2 x hx⟩
/-- a table's rows are changed -/
theorem SyAt.rows (S : SyAt K H s) {i : Int} {t : Tb} {f : List (Int × Int) → List (Int × Int)} (hl : lk s.tabs i = some t) (nd : (s.tabs.map (·.1)).Nodup) :
    SyAt K (upd H t.ad (.dK (kv V.int (f t.rows)))) { s with tabs := upAt s.tabs i (Tb.fn f) } := by
  have hm := lk_mem hl
  have ht := S.tt _ hm
  have np : s.p ≠ t.ad := ne_of S.ob ht (fun z => nomatch z)
  obtain ⟨d1, d2⟩ := List.nodup_cons.mp S.nd
  obtain ⟨d3, d4⟩ := List.nodup_cons.mp d2
  have mA : t.ad ∈ s.tabs.map (·.2.ad) := List.mem_map.mpr ⟨_, hm, rfl⟩
  have nT : s.T ≠ t.ad := fun z => d1 (z ▸ List.mem_cons_of_mem _ mA)
  have nG : s.G ≠ t.ad := fun z => d3 (z ▸ mA)
  have ads : (upAt s.tabs i (Tb.fn f)).map (·.2.ad) = s.tabs.map (·.2.ad) := by
    unfold upAt
    rw [List.map_map]
    refine List.map_congr_left fun u _ => ?_
    show (if u.1 = i then (u.1, Tb.fn f u.2) else u).2.ad = u.2.ad
    split <;> rfl
  refine ⟨by rw [upd_ne np]; exact S.ob, ?_, fun u hu => ?_, by rw [upd_ne nG]; exact S.gb, fun u hu => ?_, ?_, S.nt, S.nl, S.ne⟩
  · rw [upd_ne nT]
    show H s.T = some (.dK (kv tbV (upAt s.tabs i (Tb.fn f))))
    rw [upAt_kv tbV (Tb.fn f) (fun _ => rfl)]
    exact S.tb
  · rcases upAt_mem hu with ⟨ni, hm'⟩ | ⟨x, hx, rfl⟩
    · have na : u.2.ad ≠ t.ad := fun z => by
        have e1 : u = (i, t) := inj_of_nodup d4 hm' hm z
        exact ni (by rw [e1])
      rw [upd_ne na]
      exact S.tt u hm'
    · have e : x = t := by
        have := lk_of_mem nd hx
        rw [hl] at this
        exact (Option.some.inj this).symm
      subst e
      exact upd_same
  · have q := S.gt u hu
    have hk : ∀ {b : Addr} {o : HO}, H b = some o → (∀ kvs, o ≠ .dK kvs) → upd H t.ad (.dK (kv V.int (f t.rows))) b = some o := fun {b o} e ne => by
      rw [upd_ne (ne_of e ht (ne _))]
      exact e
    cases e : u.2.tg with
    | src dx v fi =>
      rw [e] at q
      exact hk q fun _ z => nomatch z
    | set dx L R es row =>
      rw [e] at q
      exact ⟨hk q.1 fun _ z => (nomatch z), hk q.2.1 fun _ z => (nomatch z), hk q.2.2.1 fun _ z => (nomatch z), fun x hx => hk (q.2.2.2 x hx) fun _ z => (nomatch z)⟩
  · show (s.T :: s.G :: (upAt s.tabs i (Tb.fn f)).map (·.2.ad)).Nodup
    rw [ads]
    exact S.nd
where
  inj_of_nodup {l : List (Int × Tb)} (nd : (l.map (·.2.ad)).Nodup) {x y : Int × Tb} (hx : x ∈ l) (hy : y ∈ l) (e : x.2.ad = y.2.ad) : x = y := by
    induction l with
    | nil => cases hx
    | cons a l ih =>
      obtain ⟨n1, n2⟩ := List.nodup_cons.mp (show (a.2.ad :: l.map (·.2.ad)).Nodup from nd)
      rcases List.mem_cons.mp hx with zx | zx
      · rcases List.mem_cons.mp hy with zy | zy
        · rw [zx, zy]
        · subst zx
          exact (n1 (e ▸ List.mem_map.mpr ⟨_, zy, rfl⟩)).elim
      · rcases List.mem_cons.mp hy with zy | zy
        · subst zy
          exact (n1 (e ▸ List.mem_map.mpr ⟨_, zx, rfl⟩)).elim
        · exact ih n2 zx zy
end

section
variable {K : PySem.W.Frag} {H : Hp} {s : Sy}
/-- what the object at a is not: a change there keeps the things -/
theorem TgAt.keep {a b : Addr} {o : HO} {tg : Tg} (h : TgAt K H a tg) (ha : a ≠ b) (hl : ∀ x ∈ tg.lsts, x ≠ b) (he : ∀ x ∈ tg.ents, x ≠ b) : TgAt K (upd H b o) a tg := by
  cases tg with
  | src dx u f =>
    show upd H b o a = _
    rw [upd_ne ha]
    exact h
  | set dx L R es row =>
    obtain ⟨q1, q2, q3, q4⟩ := h
    refine ⟨by rw [upd_ne ha]; exact q1, by rw [upd_ne (hl L (by simp [Tg.lsts]))]; exact q2, by rw [upd_ne (hl R (by simp [Tg.lsts]))]; exact q3, fun e h => ?_⟩
    rw [upd_ne (he e.ad (List.mem_map.mpr ⟨e, h, rfl⟩))]
    exact q4 e h
/-- the parts of a system stand apart -/
theorem ins_ne {C C' dx dx' : Addr} {fs fs' : List (Str × V)} (f : Str) (h : fs.lookup f ≠ fs'.lookup f) : HO.ins C dx fs ≠ HO.ins C' dx' fs' := fun z => by
  cases z
  exact h rfl
theorem SyAt.np (S : SyAt K H s) {b : Addr} (h : b ∈ s.dcs ∨ b ∈ s.ths' ∨ b ∈ s.lsts ∨ b ∈ s.ents) : b ≠ s.p := by
  rcases h with z | z | z | z
  · obtain ⟨_, q⟩ := S.dc z
    exact ne_of q S.ob fun z => nomatch z
  · obtain ⟨_, _, _, e, _, q⟩ := S.th' z
    exact ne_of q S.ob (ins_ne "tables" (by rw [e]; exact fun z => nomatch z))
  · obtain ⟨_, q⟩ := S.ls z
    exact ne_of q S.ob fun z => nomatch z
  · obtain ⟨_, _, e, _, q⟩ := S.en z
    exact ne_of q S.ob (ins_ne "tables" (by rw [e]; exact fun z => nomatch z))
theorem Sy.th_in {s : Sy} {t : Int × Th} (h : t ∈ s.ths) : t.2.ad ∈ s.ths' := List.mem_map.mpr ⟨t, h, rfl⟩
theorem Sy.ls_in {s : Sy} {t : Int × Th} (h : t ∈ s.ths) {x : Addr} (hx : x ∈ t.2.tg.lsts) : x ∈ s.lsts := List.mem_flatMap.mpr ⟨t, h, hx⟩
theorem Sy.en_in {s : Sy} {t : Int × Th} (h : t ∈ s.ths) {x : Addr} (hx : x ∈ t.2.tg.ents) : x ∈ s.ents := List.mem_flatMap.mpr ⟨t, h, hx⟩
theorem SyAt.dc_th (S : SyAt K H s) {a b : Addr} (ha : a ∈ s.dcs) (hb : b ∈ s.ths' ∨ b ∈ s.lsts ∨ b ∈ s.ents) : b ≠ a := by
  obtain ⟨_, q⟩ := S.dc ha
  rcases hb with z | z | z
  · obtain ⟨_, _, _, _, _, q'⟩ := S.th' z
    exact ne_of q' q fun z => nomatch z
  · obtain ⟨_, q'⟩ := S.ls z
    exact ne_of q' q fun z => nomatch z
  · obtain ⟨_, _, _, _, q'⟩ := S.en z
    exact ne_of q' q fun z => nomatch z
/-- the counter -/
theorem SyAt.count (S : SyAt K H s) (m : Int) : SyAt K (upd H s.p (.ins (ga K "System") s.dx (sysF s.P s.N s.T s.G m))) { s with made := m } := by
  refine ⟨upd_same, by rw [upd_ne (S.np (.inl List.mem_cons_self))]; exact S.tb, fun t h => ?_, by rw [upd_ne (S.np (.inl (List.mem_cons_of_mem _ List.mem_cons_self)))]; exact S.gb, fun t h => ?_, S.nd, S.nt, S.nl, S.ne⟩
  · rw [upd_ne (S.np (.inl (List.mem_cons_of_mem _ (List.mem_cons_of_mem _ (List.mem_map.mpr ⟨t, h, rfl⟩)))))]
    exact S.tt t h
  · exact (S.gt t h).keep (S.np (.inr (.inl (Sy.th_in h)))) (fun x hx => S.np (.inr (.inr (.inl (Sy.ls_in h hx))))) (fun x hx => S.np (.inr (.inr (.inr (Sy.en_in h hx)))))
/-- a new thing, which stands apart, is kept under a new serial -/
theorem SyAt.thing (S : SyAt K H s) {n : Int} {t : Th} (ht : TgAt K H t.ad t.tg) (h1 : t.ad ∉ s.foot) (h2 : ∀ x ∈ t.tg.lsts, x ∉ s.foot) (h3 : ∀ x ∈ t.tg.ents, x ∉ s.foot) (n2 : t.tg.lsts.Nodup) (n3 : t.tg.ents.Nodup) :
    SyAt K (upd H s.G (.dK (kv thV (s.ths ++ [(n, t)])))) { s with ths := s.ths ++ [(n, t)] } := by
  have mG : s.G ∈ s.dcs := List.mem_cons_of_mem _ List.mem_cons_self
  obtain ⟨d1, d2⟩ := List.nodup_cons.mp S.nd
  obtain ⟨d3, d4⟩ := List.nodup_cons.mp d2
  have fG : s.G ∈ s.foot := Sy.in_dcs mG
  have nTG : s.T ≠ s.G := fun z => d1 (by rw [z]; exact List.mem_cons_self)
  have nG : ∀ {u : Int × Tb}, u ∈ s.tabs → u.2.ad ≠ s.G := fun {u} h z => d3 (by rw [← z]; exact List.mem_map.mpr ⟨u, h, rfl⟩)
  refine ⟨by rw [upd_ne (Ne.symm (S.np (.inl mG)))]; exact S.ob, by rw [upd_ne nTG]; exact S.tb, fun u h => ?_, upd_same, fun u h => ?_, S.nd, ?_, ?_, ?_⟩
  · rw [upd_ne (nG h)]
    exact S.tt u h
  · rcases List.mem_append.mp h with h | h
    · exact (S.gt u h).keep (S.dc_th mG (.inl (Sy.th_in h))) (fun x hx => S.dc_th mG (.inr (.inl (Sy.ls_in h hx)))) (fun x hx => S.dc_th mG (.inr (.inr (Sy.en_in h hx))))
    · cases List.mem_singleton.mp h
      exact ht.keep (fun z => h1 (z ▸ fG)) (fun x hx z => h2 x hx (z ▸ fG)) (fun x hx z => h3 x hx (z ▸ fG))
  · show ((s.ths ++ [(n, t)]).map (·.2.ad)).Nodup
    rw [List.map_append]
    exact List.nodup_append.mpr ⟨S.nt, by simp, fun a ha b hb z => by
      have z' : a = t.ad := z.trans (List.mem_singleton.mp hb)
      exact h1 (by rw [← z']; exact Sy.in_ths ha)⟩
  · show ((s.ths ++ [(n, t)]).flatMap (·.2.tg.lsts)).Nodup
    rw [List.flatMap_append]
    refine List.nodup_append.mpr ⟨S.nl, by simpa using n2, fun a ha b hb z => ?_⟩
    have hb' : b ∈ t.tg.lsts := by simpa using hb
    exact h2 b hb' (z ▸ Sy.in_lsts ha)
  · show ((s.ths ++ [(n, t)]).flatMap (·.2.tg.ents)).Nodup
    rw [List.flatMap_append]
    refine List.nodup_append.mpr ⟨S.ne, by simpa using n3, fun a ha b hb z => ?_⟩
    have hb' : b ∈ t.tg.ents := by simpa using hb
    exact h3 b hb' (z ▸ Sy.in_ents ha)
end

/-! ### the pictures of these changes -/
def Sv.place (v : Sv) (i n : Int) (tv : Tv) : Sv := { v with made := v.made + 1, tabs := upAt v.tabs i (· ++ [(n, v.made)]), ths := v.ths ++ [(v.made, tv)] }
def Sv.fork (v : Sv) (c : Int) (rows : List (Int × Int)) : Sv := { v with tabs := v.tabs ++ [(c, rows)] }
def Tv.fresh : Tv → Prop
  | .src u f => 0 ≤ u
  | .set es row => es = [] ∧ row = []
theorem WF.place {v : Sv} (h : WF v) {i n : Int} {rows : List (Int × Int)} {tv : Tv} (hl : lk v.tabs i = some rows) (hn : 0 ≤ n ∧ n < v.N ∧ n ∉ rows.map (·.1)) (hf : tv.fresh) (hm : 0 ≤ v.made) : WF (v.place i n tv) := by
  have mem : (i, rows) ∈ v.tabs := lk_mem hl
  have one : ∀ {t : Int × List (Int × Int)}, t ∈ (v.place i n tv).tabs → t ∈ v.tabs ∨ t = (i, rows ++ [(n, v.made)]) := fun {t} ht => by
    rcases upAt_mem (show t ∈ upAt v.tabs i (· ++ [(n, v.made)]) from ht) with ⟨_, z⟩ | ⟨x, hx, rfl⟩
    · exact .inl z
    · have := lk_of_mem h.ndp hx
      rw [hl] at this
      cases this
      exact .inr rfl
  have old : ∀ {k : Int}, k ∈ v.ths.map (·.1) → k ∈ (v.place i n tv).ths.map (·.1) := fun {k} hk => by
    show k ∈ (v.ths ++ [(v.made, tv)]).map (·.1)
    rw [List.map_append]
    exact List.mem_append_left _ hk
  have nm : v.made ∉ v.ths.map (·.1) := fun z => by
    obtain ⟨t, ht, e⟩ := List.mem_map.mp z
    have := h.rs t ht
    omega
  refine ⟨h.p, h.n, ?_, fun t ht => ?_, fun t ht => ?_, fun t ht r hr => ?_, fun t ht r hr => ?_, ?_, fun t ht => ?_, fun t ht => ?_, fun t ht es row e => ?_⟩
  · show ((upAt v.tabs i (· ++ [(n, v.made)])).map (·.1)).Nodup
    rw [upAt_keys]
    exact h.ndp
  · rcases one ht with z | z
    · exact h.rp t z
    · subst z
      exact h.rp (i, rows) mem
  · rcases one ht with z | z
    · exact h.ndn t z
    · subst z
      show ((rows ++ [(n, v.made)]).map (·.1)).Nodup
      rw [List.map_append]
      exact nd_snoc (h.ndn (i, rows) mem) hn.2.2
  · rcases one ht with z | z
    · exact h.rn t z r hr
    · subst z
      rcases List.mem_append.mp hr with y | y
      · exact h.rn (i, rows) mem r y
      · cases List.mem_singleton.mp y
        exact ⟨hn.1, hn.2.1⟩
  · rcases one ht with z | z
    · exact old (h.th t z r hr)
    · subst z
      rcases List.mem_append.mp hr with y | y
      · exact old (h.th (i, rows) mem r y)
      · cases List.mem_singleton.mp y
        show v.made ∈ (v.ths ++ [(v.made, tv)]).map (·.1)
        simp
  · show ((v.ths ++ [(v.made, tv)]).map (·.1)).Nodup
    rw [List.map_append]
    exact nd_snoc h.nds nm
  · show 0 ≤ t.1 ∧ t.1 < v.made + 1
    rcases List.mem_append.mp ht with y | y
    · have := h.rs t y
      omega
    · cases List.mem_singleton.mp y
      show 0 ≤ v.made ∧ v.made < v.made + 1
      omega
  · have up : ∀ {u : Int × List (Int × Int)}, u ∈ v.tabs → ∃ u' ∈ (v.place i n tv).tabs, ∀ r ∈ u.2, r ∈ u'.2 := fun {u} hu => by
      refine ⟨_, List.mem_map.mpr ⟨u, hu, rfl⟩, fun r hr => ?_⟩
      show r ∈ (if u.1 = i then (u.1, u.2 ++ [(n, v.made)]) else u).2
      split
      · exact List.mem_append_left _ hr
      · exact hr
    rcases List.mem_append.mp ht with y | y
    · obtain ⟨u, hu, r, hr, e⟩ := h.held t y
      obtain ⟨u', hu', k⟩ := up hu
      exact ⟨u', hu', r, k r hr, e⟩
    · cases List.mem_singleton.mp y
      refine ⟨(i, rows ++ [(n, v.made)]), List.mem_map.mpr ⟨(i, rows), mem, if_pos rfl⟩, (n, v.made), List.mem_append_right _ (List.mem_singleton.mpr rfl), rfl⟩
  · have ext : ∀ {k : Int} {x : Tv}, lk v.ths k = some x → lk (v.ths ++ [(v.made, tv)]) k = some x := fun {k x} hk => by rw [lk_app, hk]; rfl
    rcases List.mem_append.mp ht with y | y
    · obtain ⟨h1, h2, h3, h4, h5, h6⟩ := h.ok t y es row e
      exact ⟨h1, h2, h3, h4, fun x hx => (h5 x hx).imp fun u ⟨f, q⟩ => ⟨f, ext q⟩, h6⟩
    · cases List.mem_singleton.mp y
      have e' : tv = .set es row := e
      subst e'
      obtain ⟨rfl, rfl⟩ := hf
      exact ⟨List.nodup_nil, List.nodup_nil, List.nodup_nil, fun x hx => (nomatch hx), fun x hx => (nomatch hx), Nat.zero_le _⟩
theorem WF.fork {v : Sv} (h : WF v) {i c : Int} {rows : List (Int × Int)} (hl : lk v.tabs i = some rows) (hc : 0 ≤ c ∧ c < v.P ∧ c ∉ v.tabs.map (·.1)) : WF (v.fork c rows) := by
  have mem : (i, rows) ∈ v.tabs := lk_mem hl
  have one : ∀ {t : Int × List (Int × Int)}, t ∈ v.tabs ++ [(c, rows)] → t ∈ v.tabs ∨ t = (c, rows) := fun {t} ht => by simpa using ht
  refine ⟨h.p, h.n, ?_, fun t ht => ?_, fun t ht => ?_, fun t ht r hr => ?_, fun t ht r hr => ?_, h.nds, h.rs, fun t ht => ?_, h.ok⟩
  · show ((v.tabs ++ [(c, rows)]).map (·.1)).Nodup
    rw [List.map_append]
    exact nd_snoc h.ndp hc.2.2
  · rcases one ht with z | z
    · exact h.rp t z
    · subst z
      exact ⟨hc.1, hc.2.1⟩
  · rcases one ht with z | z
    · exact h.ndn t z
    · subst z
      exact h.ndn (i, rows) mem
  · rcases one ht with z | z
    · exact h.rn t z r hr
    · subst z
      exact h.rn (i, rows) mem r hr
  · rcases one ht with z | z
    · exact h.th t z r hr
    · subst z
      exact h.th (i, rows) mem r hr
  · obtain ⟨u, hu, q⟩ := h.held t ht
    exact ⟨u, List.mem_append_left _ hu, q⟩

end Wn
namespace Wn
open PySem PySem.Spec PyProof.Rows L2 LamX He
/-! ### a dict made by a walk -/
/-! ### data that is new -/
/-- what stands in H' and not in H -/
def frs (H H' : Hp) : Hp := fun a => match H a with
  | none => H' a
  | some _ => none
def off (D : Addr) (H : Hp) : Hp := fun a => if a = D then none else H a
theorem off_le {D : Addr} {H : Hp} : Same (off D H) H := fun b o h => by
  unfold off at h
  split at h
  · cases h
  · exact h
theorem frs_new {H H' : Hp} {p : Addr} (h : H p = none) : frs H H' p = H' p := by
  unfold frs
  rw [h]
theorem off_ne {D p : Addr} {H : Hp} (h : p ≠ D) : off D H p = H p := if_neg h
theorem frs_mono {H H1 H2 : Hp} (e : Same H1 H2) : Same (frs H H1) (frs H H2) := fun b o h => by
  unfold frs at h ⊢
  cases q : H b with
  | none => rw [q] at h; exact e b o h
  | some _ => rw [q] at h; cases h
theorem off_mono {D : Addr} {H1 H2 : Hp} (e : Same H1 H2) : Same (off D H1) (off D H2) := fun b o h => by
  unfold off at h ⊢
  split at h
  · cases h
  · rw [if_neg (by assumption)]; exact e b o h
theorem off_upd {D : Addr} {H : Hp} {o : HO} : off D (upd H D o) = off D H := by
  funext b
  unfold off
  split
  · rfl
  · rw [upd_ne (by assumption)]
/-- a list that is being made at D: what is in it is new, and not D -/
structure Gro (K : PySem.W.Frag) (H1 : Hp) (D : Addr) (H' : Hp) (ds : List PyData) : Prop where
  new : H1 D = none
  same : Same H1 H'
  has : ∃ xs, H' D = some (.lst xs) ∧ DpAll K (frs H1 (off D H')) xs ds
section
variable {K : PySem.W.Frag} {H1 H' H4 : Hp} {D : Addr} {ds : List PyData} {d : PyData} {y : V}
theorem Gro.start (h : H1 D = none) : Gro K H1 D (upd H1 D (.lst [])) [] := ⟨h, fun b o e => by rw [upd_ne (ne_of_none e h)]; exact e, [], upd_same, .nil⟩
theorem Gro.add (g : Gro K H1 D H' ds) (e : Same H' H4) (hy : Dp K (frs H1 (off D H4)) y d) : ∃ xs, H4 D = some (.lst xs) ∧ xs.length = ds.length ∧ Gro K H1 D (upd H4 D (.lst (xs ++ [y]))) (ds ++ [d]) := by
  obtain ⟨xs, h1, h2⟩ := g.has
  refine ⟨xs, e _ _ h1, dpLen h2, g.new, fun b o q => by rw [upd_ne (ne_of_none q g.new)]; exact e _ _ (g.same _ _ q), _, upd_same, ?_⟩
  rw [off_upd]
  exact dpApp (DpAll.same (frs_mono (off_mono e)) _ _ h2) (.cons hy .nil)
theorem Gro.fin (g : Gro K H1 D H' ds) : Dp K (frs H1 H') (.ref D) (.list ds) := by
  obtain ⟨xs, h1, h2⟩ := g.has
  exact .lst (SqL.of (by rw [frs_new g.new]; exact h1)) (DpAll.same (frs_mono off_le) _ _ h2)
theorem Gro.ext (g : Gro K H1 D H' ds) (e : Same H' H4) : Gro K H1 D H4 ds := by
  obtain ⟨xs, h1, h2⟩ := g.has
  exact ⟨g.new, g.same.trans e, xs, e _ _ h1, DpAll.same (frs_mono (off_mono e)) _ _ h2⟩
/-- a new tuple of data, made while D grows -/
theorem Gro.tup (g : Gro K H1 D H' ds) {p : Addr} {vs : List V} {es : List PyData} (e : Same H' H4) (hp : H4 p = none) (h : DpAll K (frs H1 (off D (upd H4 p (.tup vs)))) vs es) : Dp K (frs H1 (off D (upd H4 p (.tup vs)))) (.ref p) (.tuple es) := by
  obtain ⟨xs, h1, _⟩ := g.has
  have ne : p ≠ D := fun z => by
    subst z
    rw [e _ _ h1] at hp
    cases hp
  refine .tup (SqT.of ?_) h
  rw [frs_new ((g.same.trans e).free hp), off_ne ne, upd_same]
end
theorem DpAll.get {K : PySem.W.Frag} {H : Hp} : ∀ {xs : List V} {ds : List PyData} {i : Nat} {d : PyData}, DpAll K H xs ds → ds[i]? = some d → ∃ v, xs[i]? = some v ∧ Dp K H v d
  | _, _, 0, _, .cons h _, e => by
    cases e
    exact ⟨_, rfl, h⟩
  | _, _, i + 1, _, .cons _ t, e => DpAll.get (i := i) t e
/-! ### a property of one of two classes -/
end Wn
namespace Wn
open PySem PySem.Spec PyProof.Rows L2 LamX He
/-! ### calls in the body of a try: the wish looks at the slots -/
section
variable {X : Cx} {CX : CXT} {k : Nat} {f C : Addr} {fd : FuncData} {ps ks : List Str} {sp : Sp} {dvs : List V} {ds : List Value} {E : L2.St → XK} {x m : Str} {p pos apos : Pos} {e o : Expr} {es : List Expr} {kws : List Keyword} {ta : TE} {t tk : TA} {g : List Value → List Value → List Value} {gV : List V → List V → List V}
end
end Wn
namespace Wn
open PySem PySem.Spec PyProof.Rows L2 LamX He
/-! ### list(range(..)) -/
def rngV (lo : Int) (n : Nat) : List V := (List.range n).map fun k => .int (lo + (k : Nat))
section
variable {X : Cx} {a b : Expr} {ta : TA} {p p2 pos pos2 : Pos}
end
end Wn
namespace Wn
open PySem PySem.Spec PyProof.Rows L2 LamX He
/-! ### len(o), o an instance of an own class -/
end Wn
/-! match on a tuple by its length -/
namespace Wn
open PySem PySem.Spec PyProof.Rows L2 LamX He
def cap (q : Str × Pos) : Pattern := .MatchAs none (some q.1) q.2
section
variable {X : Cx}
end
end Wn
namespace Wn
open PySem PySem.Spec PyProof.Rows L2 LamX He
/-! ### one thing of a system is another -/
section
variable {α : Type} {f : α → List Addr} {n : Int} {x y : α}
end
section
variable {K : PySem.W.Frag} {H H' : Hp} {s : Sy} {n : Int} {t : Th} {tg : Tg}
end
end Wn
namespace Wn
open PySem PySem.Spec PyProof.Rows L2 LamX He
/-! ### the things of a system changed, their kinds kept -/
/-! ### pending -/
def RowOk (es : List Ev) (row : List Int) : Prop := row.Nodup ∧ ∀ x ∈ row, ∃ e ∈ es, e.lab = x ∧ e.arm = true
theorem nodup_le : ∀ {l m : List Int}, l.Nodup → (∀ x ∈ l, x ∈ m) → l.length ≤ m.length
  | [], _, _, _ => Nat.zero_le _
  | a :: l, m, nd, h => by
    obtain ⟨n1, n2⟩ := List.nodup_cons.mp nd
    have hm := h a List.mem_cons_self
    have k := nodup_le (m := m.erase a) n2 fun x hx => (List.mem_erase_of_ne (show x ≠ a from fun z => n1 (z ▸ hx))).mpr (h x (List.mem_cons_of_mem _ hx))
    rw [List.length_erase_of_mem hm] at k
    have := List.length_pos_of_mem hm
    rw [List.length_cons]
    omega
theorem RowOk.len {es : List Ev} {row : List Int} (h : RowOk es row) : row.length ≤ es.length := by
  have := nodup_le (m := es.map (·.lab)) h.1 fun x hx => by
    obtain ⟨e, he, q, _⟩ := h.2 x hx
    exact List.mem_map.mpr ⟨e, he, q⟩
  rw [List.length_map] at this
  exact this
theorem SetOk.row {v : Sv} {es : List Ev} {row : List Int} (h : SetOk v es row) : RowOk es row := ⟨h.2.2.1, h.2.2.2.1⟩
end Wn
/-! the law's level: values, objects by places, what they stand for in the heap -/
namespace Wn
open PySem PySem.Spec PyProof.Rows L2 LamX He

/-- a place within a system -/
inductive Pth where
  | tabs | tab (p : Int) | ths | th (ser : Int) | ents (ser : Int) | ent (ser : Int) (i : Nat) | row (ser : Int)
  deriving DecidableEq
inductive Val where
  | non | bl (b : Bool) | int (i : Int) | str (x : Str) | tup (vs : List Val) | loc (n : Nat)
  /-- what stands within the system at n, as it is at its k-th state -/
  | vw (n k : Nat) (p : Pth)
inductive Ob where
  | lst (vs : List Val)
  | dct (kvs : List (Key × Val))
  | ro (vs : List Val)
  | rod (kvs : List (Key × Val))
  | sys (v : Sv)
  /-- a system whose dict at p is walked -/
  | sysL (v : Sv) (p : Pth)
  | ins (C : Str) (fs : List (Str × Val))
  | dtt (kvs : List (List Key × Val))
  | rodt (kvs : List (List Key × Val))
structure Mu where
  nx : Nat
  ob : Nat → Option Ob
  vr : Nat → Nat
def Mu.put (μ : Mu) (n : Nat) (o : Ob) : Mu := ⟨μ.nx, fun m => if m = n then some o else μ.ob m, match o with
  | .sys _ => fun m => if m = n then μ.vr m + 1 else μ.vr m
  | _ => μ.vr⟩
def Mu.new (μ : Mu) (o : Ob) : Mu := ⟨μ.nx + 1, fun m => if m = μ.nx then some o else μ.ob m, μ.vr⟩
theorem Mu.put_vrN (μ : Mu) {n m : Nat} (o : Ob) (h : m ≠ n) : (μ.put n o).vr m = μ.vr m := by
  cases o with
  | sys v => exact if_neg h
  | _ => rfl
theorem Mu.new_vr (μ : Mu) (o : Ob) : (μ.new o).vr = μ.vr := rfl
theorem Mu.put_nx (μ : Mu) (n : Nat) (o : Ob) : (μ.put n o).nx = μ.nx := rfl
theorem Mu.new_nx (μ : Mu) (o : Ob) : (μ.new o).nx = μ.nx + 1 := rfl
theorem Mu.put_same (μ : Mu) (n : Nat) (o : Ob) : (μ.put n o).ob n = some o := if_pos rfl
theorem Mu.put_ne (μ : Mu) {n m : Nat} (o : Ob) (h : m ≠ n) : (μ.put n o).ob m = μ.ob m := if_neg h
theorem Mu.new_same (μ : Mu) (o : Ob) : (μ.new o).ob μ.nx = some o := if_pos rfl
theorem Mu.new_ne (μ : Mu) {m : Nat} (o : Ob) (h : m ≠ μ.nx) : (μ.new o).ob m = μ.ob m := if_neg h
/-- the places' addresses, the systems' parts -/
structure Adr where
  at_ : Nat → Addr
  sy : Nat → Sy
  /-- how many states each system had -/
  ver : Nat → Nat
instance : CoeFun Adr (fun _ => Nat → Addr) := ⟨Adr.at_⟩
structure Wt where
  ad : Adr
  /-- whose dict is locked at an address -/
  own : Addr → Nat
abbrev Wt.sy (w : Wt) : Nat → Sy := w.ad.sy
def Th.row : Th → Option Addr
  | ⟨_, .set _ _ R _ _⟩ => some R
  | _ => none
def Th.lst : Th → Option Addr
  | ⟨_, .set _ L _ _ _⟩ => some L
  | _ => none
def Th.ens : Th → List En
  | ⟨_, .set _ _ _ es _⟩ => es
  | _ => []
/-- where it stands -/
def pAdr (s : Sy) : Pth → Option Addr
  | .tabs => some s.T
  | .tab p => (lk s.tabs p).map (·.ad)
  | .ths => some s.G
  | .th ser => (lk s.ths ser).map (·.ad)
  | .ents ser => (lk s.ths ser).bind (·.lst)
  | .row ser => (lk s.ths ser).bind (·.row)
  | .ent ser i => (lk s.ths ser).bind fun t => t.ens[i]?.map (·.ad)

mutual
inductive VR (K : PySem.W.Frag) (ad : Adr) (b : Nat) (H : Hp) : Val → V → Prop
  | non : VR K ad b H .non .non
  | bl (x : Bool) : VR K ad b H (.bl x) (.bl x)
  | int (i : Int) : VR K ad b H (.int i) (.int i)
  | str (x : Str) : VR K ad b H (.str x) (.str x)
  | tup {a : Addr} {vs : List Val} {us : List V} : SqT K H a us → VRs K ad b H vs us → VR K ad b H (.tup vs) (.ref a)
  | loc {n : Nat} : n < b → VR K ad b H (.loc n) (.ref (ad n))
  | vw {n k : Nat} {p : Pth} {a : Addr} : n < b → k ≤ ad.ver n → (ad.ver n = k → pAdr (ad.sy n) p = some a) → VR K ad b H (.vw n k p) (.ref a)
inductive VRs (K : PySem.W.Frag) (ad : Adr) (b : Nat) (H : Hp) : List Val → List V → Prop
  | nil : VRs K ad b H [] []
  | cons {v : Val} {vs : List Val} {u : V} {us : List V} : VR K ad b H v u → VRs K ad b H vs us → VRs K ad b H (v :: vs) (u :: us)
end
structure Grow0 (K : PySem.W.Frag) (w : Wt) (b : Nat) (H : Hp) (w' : Wt) (b' : Nat) (H' : Hp) : Prop where
  le : b ≤ b'
  ad : ∀ n, n < b → w'.ad n = w.ad n
  vr : ∀ n, n < b → w.ad.ver n ≤ w'.ad.ver n ∧ (w'.ad.ver n = w.ad.ver n → w'.ad.sy n = w.ad.sy n)
  tp : ∀ a xs, SqT K H a xs → SqT K H' a xs
structure Grow (K : PySem.W.Frag) (w : Wt) (b : Nat) (H : Hp) (w' : Wt) (b' : Nat) (H' : Hp) : Prop extends Grow0 K w b H w' b' H' where
  fz : ∀ a o u, H a = some (.frz o u) → H' a = some (.frz o u)
theorem Grow.refl {K : PySem.W.Frag} {w : Wt} {b : Nat} {H : Hp} : Grow K w b H w b H := ⟨⟨Nat.le_refl _, fun _ _ => rfl, fun _ _ => ⟨Nat.le_refl _, fun _ => rfl⟩, fun _ _ h => h⟩, fun _ _ _ h => h⟩
theorem Grow.trans {K : PySem.W.Frag} {w w1 w2 : Wt} {b b1 b2 : Nat} {H H1 H2 : Hp} (x : Grow K w b H w1 b1 H1) (y : Grow K w1 b1 H1 w2 b2 H2) : Grow K w b H w2 b2 H2 :=
  ⟨⟨Nat.le_trans x.le y.le, fun n h => (y.ad n (Nat.lt_of_lt_of_le h x.le)).trans (x.ad n h), fun n h => by
    obtain ⟨x1, x2⟩ := x.vr n h
    obtain ⟨y1, y2⟩ := y.vr n (Nat.lt_of_lt_of_le h x.le)
    exact ⟨Nat.le_trans x1 y1, fun e => by
      have e1 : w1.ad.ver n = w.ad.ver n := Nat.le_antisymm (e ▸ y1) x1
      rw [y2 (e.trans e1.symm), x2 e1]⟩, fun a xs h => y.tp a xs (x.tp a xs h)⟩, fun a o u h => y.fz a o u (x.fz a o u h)⟩
mutual
theorem VR.grow0 {K : PySem.W.Frag} {w w' : Wt} {b b' : Nat} {H H' : Hp} (g : Grow0 K w b H w' b' H') : ∀ {v : Val} {u : V}, VR K w.ad b H v u → VR K w'.ad b' H' v u
  | _, _, .non => .non
  | _, _, .bl x => .bl x
  | _, _, .int x => .int x
  | _, _, .str x => .str x
  | _, _, .tup h r => .tup (g.tp _ _ h) (VRs.grow0 g r)
  | _, _, .loc (n := n) h => by
    have z := VR.loc (K := K) (ad := w'.ad) (H := H') (Nat.lt_of_lt_of_le h g.le)
    rw [g.ad n h] at z
    exact z
  | _, _, .vw (n := n) (k := k) h hk e => by
    obtain ⟨g1, g2⟩ := g.vr n h
    refine .vw (Nat.lt_of_lt_of_le h g.le) (Nat.le_trans hk g1) fun z => ?_
    have z1 : w.ad.ver n = k := Nat.le_antisymm (z ▸ g1) hk
    rw [g2 (z.trans z1.symm)]
    exact e z1
theorem VRs.grow0 {K : PySem.W.Frag} {w w' : Wt} {b b' : Nat} {H H' : Hp} (g : Grow0 K w b H w' b' H') : ∀ {v : List Val} {u : List V}, VRs K w.ad b H v u → VRs K w'.ad b' H' v u
  | _, _, .nil => .nil
  | _, _, .cons h r => .cons (VR.grow0 g h) (VRs.grow0 g r)
end
theorem VR.grow {K : PySem.W.Frag} {w w' : Wt} {b b' : Nat} {H H' : Hp} (g : Grow K w b H w' b' H') {v : Val} {u : V} (h : VR K w.ad b H v u) : VR K w'.ad b' H' v u := h.grow0 g.toGrow0
theorem VRs.grow {K : PySem.W.Frag} {w w' : Wt} {b b' : Nat} {H H' : Hp} (g : Grow K w b H w' b' H') {v : List Val} {u : List V} (h : VRs K w.ad b H v u) : VRs K w'.ad b' H' v u := h.grow0 g.toGrow0
section
variable {K : PySem.W.Frag} {ad : Adr} {b : Nat} {H : Hp}
theorem VRs.length : ∀ {vs : List Val} {us : List V}, VRs K ad b H vs us → us.length = vs.length
  | _, _, .nil => rfl
  | _, _, .cons _ r => by simp [r.length]
theorem VRs.get : ∀ {vs : List Val} {us : List V}, VRs K ad b H vs us → ∀ (i : Nat) (v : Val), vs[i]? = some v → ∃ u, us[i]? = some u ∧ VR K ad b H v u
  | _, _, .nil, _, _, h => by simp at h
  | _, _, .cons (u := u) h r, 0, v, e => by
    simp at e
    subst e
    exact ⟨u, by simp, h⟩
  | _, _, .cons _ r, i + 1, v, e => by
    obtain ⟨u, h1, h2⟩ := r.get i v (by simpa using e)
    exact ⟨u, by simpa using h1, h2⟩
theorem VRs.app : ∀ {vs vs' : List Val} {us us' : List V}, VRs K ad b H vs us → VRs K ad b H vs' us' → VRs K ad b H (vs ++ vs') (us ++ us')
  | _, _, _, _, .nil, s => s
  | _, _, _, _, .cons h r, s => .cons h (r.app s)
theorem VRs.one {v : Val} {u : V} (h : VR K ad b H v u) : VRs K ad b H [v] [u] := .cons h .nil
theorem VRs.take : ∀ {vs : List Val} {us : List V} (n : Nat), VRs K ad b H vs us → VRs K ad b H (vs.take n) (us.take n)
  | _, _, 0, _ => by simp; exact .nil
  | _, _, n + 1, .nil => by simp; exact .nil
  | _, _, n + 1, .cons h r => .cons h (r.take n)
theorem VRs.drop : ∀ {vs : List Val} {us : List V} (n : Nat), VRs K ad b H vs us → VRs K ad b H (vs.drop n) (us.drop n)
  | _, _, 0, r => r
  | _, _, n + 1, .nil => by simp; exact .nil
  | _, _, n + 1, .cons h r => r.drop n
theorem VRs.set : ∀ {vs : List Val} {us : List V} (n : Nat) {v : Val} {u : V}, VRs K ad b H vs us → VR K ad b H v u → VRs K ad b H (vs.set n v) (us.set n u)
  | _, _, _, _, _, .nil, _ => by simp; exact .nil
  | _, _, 0, _, _, .cons h r, q => .cons q r
  | _, _, n + 1, _, _, .cons h r, q => .cons h (r.set n q)
theorem VRs.erase : ∀ {vs : List Val} {us : List V} (n : Nat), VRs K ad b H vs us → VRs K ad b H (vs.eraseIdx n) (us.eraseIdx n)
  | _, _, _, .nil => by simp; exact .nil
  | _, _, 0, .cons h r => r
  | _, _, n + 1, .cons h r => .cons h (r.erase n)
theorem VRs.ints : ∀ (l : List Int), VRs K ad b H (l.map Val.int) (l.map V.int)
  | [] => .nil
  | _ :: l => .cons (.int _) (VRs.ints l)
theorem VRs.ints_eq : ∀ {l : List Int} {us : List V}, VRs K ad b H (l.map Val.int) us → us = l.map V.int
  | [], _, .nil => rfl
  | i :: l, _, .cons h r => by
    cases h
    rw [VRs.ints_eq r]
    rfl
theorem VRs.flat : ∀ (k : Nat) {vs : List Val} {us : List V}, VRs K ad b H vs us → VRs K ad b H (List.replicate k vs).flatten (List.replicate k us).flatten
  | 0, _, _, _ => .nil
  | k + 1, vs, us, h => by
    rw [List.replicate_succ, List.replicate_succ, List.flatten_cons, List.flatten_cons]
    exact h.app (VRs.flat k h)
end
/-- a list that is never written -/
def RoL (K : PySem.W.Frag) (H : Hp) (a : Addr) (us : List V) : Prop := (∃ o, H a = some (.frz o (.lst us))) ∨ ∃ (o : Obj) (its : Array Value) (n : Nat), K.lookup a = some o ∧ o.cls = .type "list" ∧ o.dict = none ∧ o.data = .seq its n ∧ its.size ≤ sizeLine ∧ Vals us its.toList
theorem RoL.sq {K : PySem.W.Frag} {H : Hp} {a : Addr} {us : List V} (h : RoL K H a us) : SqL K H a us := by
  rcases h with h | h
  · exact .inl (.inr h)
  · exact .inr h
/-- a system one of whose dicts is walked -/
def SyL (K : PySem.W.Frag) (H : Hp) (s : Sy) (p : Pth) (f : Addr → Prop) : Prop := ∃ d o us, pAdr s p = some d ∧ f d ∧ H d = some (.frz o (.dK us)) ∧ SyAt K (upd H d (.dK us)) s
def ObR (K : PySem.W.Frag) (w : Wt) (b : Nat) (H : Hp) (n : Nat) : Ob → Prop
  | .lst vs => ∃ us, H (w.ad n) = some (.lst us) ∧ VRs K w.ad b H vs us
  | .dct kvs => ∃ us, H (w.ad n) = some (.dK us) ∧ us.map (·.1) = kvs.map (·.1) ∧ VRs K w.ad b H (kvs.map (·.2)) (us.map (·.2))
  | .ro vs => ∃ us, RoL K H (w.ad n) us ∧ VRs K w.ad b H vs us
  | .rod kvs => w.own (w.ad n) = n ∧ ∃ o us, H (w.ad n) = some (.frz o (.dK us)) ∧ us.map (·.1) = kvs.map (·.1) ∧ VRs K w.ad b H (kvs.map (·.2)) (us.map (·.2))
  | .sys v => (w.sy n).p = w.ad n ∧ SyAt K H (w.sy n) ∧ (w.sy n).v = v ∧ WF v
  | .sysL v p => (w.sy n).p = w.ad n ∧ SyL K H (w.sy n) p (fun d => w.own d = n) ∧ (w.sy n).v = v ∧ WF v
  | .ins C fs => ∃ dx us, H (w.ad n) = some (.ins (ga K C) dx us) ∧ us.map (·.1) = fs.map (·.1) ∧ VRs K w.ad b H (fs.map (·.2)) (us.map (·.2))
  | .rodt kvs => w.own (w.ad n) = n ∧ ∃ o us, H (w.ad n) = some (.frz o (.dT us)) ∧ us.map (·.1) = kvs.map (·.1) ∧ VRs K w.ad b H (kvs.map (·.2)) (us.map (·.2))
  | .dtt kvs => ∃ us, H (w.ad n) = some (.dT us) ∧ us.map (·.1) = kvs.map (·.1) ∧ VRs K w.ad b H (kvs.map (·.2)) (us.map (·.2))
def ft (w : Wt) (n : Nat) : Option Ob → List Addr
  | some (.lst _) => [w.ad n]
  | some (.dct _) => [w.ad n]
  | some (.sys _) => (w.sy n).foot
  | some (.sysL _ p) => (w.sy n).foot.filter fun a => decide (pAdr (w.sy n) p ≠ some a)
  | some (.ins _ _) => [w.ad n]
  | some (.dtt _) => [w.ad n]
  | _ => []
/-- what may be written: a list, a dict, an instance -/
def isM : HO → Bool
  | .lst _ => true
  | .dK _ => true
  | .ins _ _ _ => true
  | .dT _ => true
  | _ => false
/-- the tables of code objects of the defs that make lambdas -/
def TbK (K : PySem.W.Frag) : List (Addr × Str) := lamL.map fun x => ((cT K (x, none)).2, x ++ ".<locals>." ++ "<lambda>")
theorem tabs_keep {K : PySem.W.Frag} {H H' : Hp} {T : List (Addr × Str)} (t : Tabs T H) (k : ∀ a o, H a = some o → isM o = false → H' a = some o) : Tabs T H' := fun p hp => by
  obtain ⟨ps, h1, h2, h3⟩ := t p hp
  refine ⟨ps, k _ _ h1 rfl, h2, fun pos cv hc => ?_⟩
  obtain ⟨c, e1, e2⟩ := h3 pos cv hc
  exact ⟨c, e1, k _ _ e2 rfl⟩
structure Sim (K : PySem.W.Frag) (w : Wt) (μ : Mu) (H : Hp) : Prop where
  bd : ∀ n, μ.nx ≤ n → μ.ob n = none
  vr : ∀ n, w.ad.ver n = μ.vr n
  ok : ∀ n o, μ.ob n = some o → ObR K w μ.nx H n o
  dj : ∀ n m, n ≠ m → ∀ a ∈ ft w n (μ.ob n), a ∉ ft w m (μ.ob m)
  tb : Tabs (TbK K) H
section
variable {K : PySem.W.Frag} {w w' : Wt} {μ : Mu} {H H' : Hp}
theorem Sim.lt (S : Sim K w μ H) {n : Nat} {o : Ob} (h : μ.ob n = some o) : n < μ.nx := by
  rcases Nat.lt_or_ge n μ.nx with z | z
  · exact z
  · rw [S.bd n z] at h
    cases h
theorem foot_m {s : Sy} (S : SyAt K H s) {a : Addr} (h : a ∈ s.foot) : ∃ o, H a = some o ∧ isM o = true := by
  rcases List.mem_cons.mp h with z | z
  · subst z
    exact ⟨_, S.ob, rfl⟩
  · rcases List.mem_append.mp z with z | z
    · obtain ⟨k, q⟩ := S.dc z
      exact ⟨_, q, rfl⟩
    · rcases List.mem_append.mp z with z | z
      · obtain ⟨C, dx, fs, _, _, q⟩ := S.th' z
        exact ⟨_, q, rfl⟩
      · rcases List.mem_append.mp z with z | z
        · obtain ⟨xs, q⟩ := S.ls z
          exact ⟨_, q, rfl⟩
        · obtain ⟨dx, fs, _, _, q⟩ := S.en z
          exact ⟨_, q, rfl⟩
theorem foot_l {s : Sy} {p : Pth} {f : Addr → Prop} (S : SyL K H s p f) {a : Addr} (h : a ∈ s.foot.filter fun a => decide (pAdr s p ≠ some a)) : ∃ o, H a = some o ∧ isM o = true := by
  obtain ⟨d, o, us, h1, h2, h3, h4⟩ := S
  obtain ⟨m1, m2⟩ := List.mem_filter.mp h
  have ne : a ≠ d := fun z => of_decide_eq_true m2 (by rw [h1, z])
  obtain ⟨o', e1, e2⟩ := foot_m h4 m1
  rw [upd_ne ne] at e1
  exact ⟨o', e1, e2⟩
theorem SyL.same {s : Sy} {p : Pth} {f f' : Addr → Prop} (S : SyL K H s p f) (hf : ∀ d, (∃ o u, H d = some (.frz o u)) → f d → f' d) (k : ∀ d o u, H d = some (.frz o u) → H' d = some (.frz o u)) (e : ∀ b o, H b = some o → b ∈ (s.foot.filter fun a => decide (pAdr s p ≠ some a)) → H' b = some o) : SyL K H' s p f' := by
  obtain ⟨d, o, us, h1, h2, h3, h4⟩ := S
  refine ⟨d, o, us, h1, hf d ⟨_, _, h3⟩ h2, k _ _ _ h3, h4.same fun b u hb mb => ?_⟩
  by_cases c : b = d
  · subst c
    rw [upd_same] at hb ⊢
    exact hb
  · rw [upd_ne c] at hb ⊢
    exact e b u hb (List.mem_filter.mpr ⟨mb, decide_eq_true fun z => c (by rw [h1] at z; exact (Option.some.inj z).symm)⟩)
theorem Sim.ftm (S : Sim K w μ H) {n : Nat} {a : Addr} (h : a ∈ ft w n (μ.ob n)) : ∃ o, H a = some o ∧ isM o = true := by
  cases e : μ.ob n with
  | none => rw [e] at h; cases h
  | some o =>
    have q := S.ok n o e
    rw [e] at h
    cases o with
    | lst vs =>
      obtain ⟨us, q, _⟩ := q
      cases List.mem_singleton.mp h
      exact ⟨_, q, rfl⟩
    | dct kvs =>
      obtain ⟨us, q, _⟩ := q
      cases List.mem_singleton.mp h
      exact ⟨_, q, rfl⟩
    | ro vs => cases h
    | rod kvs => cases h
    | rodt kvs => cases h
    | sys v => exact foot_m q.2.1 h
    | sysL v p => exact foot_l q.2.1 h
    | ins C fs =>
      obtain ⟨dx, us, q, _⟩ := q
      cases List.mem_singleton.mp h
      exact ⟨_, q, rfl⟩
    | dtt kvs =>
      obtain ⟨us, q, _⟩ := q
      cases List.mem_singleton.mp h
      exact ⟨_, q, rfl⟩
theorem sqt_keep (k : ∀ a o, H a = some o → isM o = false → H' a = some o) {a : Addr} {xs : List V} (h : SqT K H a xs) : SqT K H' a xs := by
  rcases h with (h | ⟨o, h⟩) | h
  · exact .inl (.inl (k _ _ h rfl))
  · exact .inl (.inr ⟨o, k _ _ h rfl⟩)
  · exact .inr h
theorem rol_keep (k : ∀ a o, H a = some o → isM o = false → H' a = some o) {a : Addr} {xs : List V} (h : RoL K H a xs) : RoL K H' a xs := by
  rcases h with ⟨o, h⟩ | h
  · exact .inl ⟨o, k _ _ h rfl⟩
  · exact .inr h
/-- an object whose part of the heap stands as before -/
theorem ObR.keep {b b' : Nat} {n : Nat} {o : Ob} (h : ObR K w b H n o) (g : Grow K w b H w' b' H') (hn : n < b) (hs : w'.sy n = w.sy n) (ho : ∀ a, (∃ o u, H a = some (.frz o u)) → w'.own a = w.own a) (k : ∀ a o, H a = some o → isM o = false → H' a = some o) (kf : ∀ a u, a ∈ ft w n (some o) → H a = some u → H' a = some u) : ObR K w' b' H' n o := by
  have ea := g.ad n hn
  cases o with
  | lst vs =>
    obtain ⟨us, h1, h2⟩ := h
    refine ⟨us, ?_, h2.grow g⟩
    rw [ea]
    exact kf _ _ (by simp [ft]) h1
  | dct kvs =>
    obtain ⟨us, h1, h2, h3⟩ := h
    refine ⟨us, ?_, h2, h3.grow g⟩
    rw [ea]
    exact kf _ _ (by simp [ft]) h1
  | ro vs =>
    obtain ⟨us, h1, h2⟩ := h
    refine ⟨us, ?_, h2.grow g⟩
    rw [ea]
    exact rol_keep k h1
  | rod kvs =>
    obtain ⟨h0, o, us, h1, h2, h3⟩ := h
    refine ⟨?_, o, us, ?_, h2, h3.grow g⟩
    · rw [ea, ho _ ⟨_, _, h1⟩]
      exact h0
    · rw [ea]
      exact k _ _ h1 rfl
  | rodt kvs =>
    obtain ⟨h0, o, us, h1, h2, h3⟩ := h
    refine ⟨?_, o, us, ?_, h2, h3.grow g⟩
    · rw [ea, ho _ ⟨_, _, h1⟩]
      exact h0
    · rw [ea]
      exact k _ _ h1 rfl
  | sys v =>
    obtain ⟨h1, h2, h3, h4⟩ := h
    refine ⟨by rw [ea, hs]; exact h1, by rw [hs]; exact h2.same fun b o e m => kf b o m e, by rw [hs]; exact h3, h4⟩
  | sysL v p =>
    obtain ⟨h1, h2, h3, h4⟩ := h
    refine ⟨by rw [ea, hs]; exact h1, ?_, by rw [hs]; exact h3, h4⟩
    rw [hs]
    exact h2.same (fun d hd e => by rw [ho d hd]; exact e) (fun d o u e => k _ _ e rfl) fun b o e m => kf b o m e
  | ins C fs =>
    obtain ⟨dx, us, h1, h2, h3⟩ := h
    refine ⟨dx, us, ?_, h2, h3.grow g⟩
    rw [ea]
    exact kf _ _ (by simp [ft]) h1
  | dtt kvs =>
    obtain ⟨us, h1, h2, h3⟩ := h
    refine ⟨us, ?_, h2, h3.grow g⟩
    rw [ea]
    exact kf _ _ (by simp [ft]) h1
/-- the heap grows -/
theorem Sim.same (S : Sim K w μ H) (e : Same H H') : Sim K w μ H' ∧ Grow K w μ.nx H w μ.nx H' := by
  have g : Grow K w μ.nx H w μ.nx H' := ⟨⟨Nat.le_refl _, fun _ _ => rfl, fun _ _ => ⟨Nat.le_refl _, fun _ => rfl⟩, fun a xs h => sqt_keep (fun a o h _ => e a o h) h⟩, fun a o u h => e _ _ h⟩
  exact ⟨⟨S.bd, S.vr, fun n o h => (S.ok n o h).keep g (S.lt h) rfl (fun _ _ => rfl) (fun a o h _ => e a o h) (fun a u _ h => e a u h), S.dj, S.tb.ext e⟩, g⟩
/-- the tables grow -/
theorem Sim.extN (S : Sim K w μ H) (e : ExtN H H') (t : Tabs (TbK K) H') : Sim K w μ H' ∧ Grow K w μ.nx H w μ.nx H' := by
  have k1 : ∀ a o, H a = some o → isM o = true → H' a = some o := fun a o h z => e a o h (fun ps q => by subst q; cases z)
  have k0 : ∀ a o xs, H a = some o → (o = .tup xs ∨ ∃ q y, o = .frz q y) → H' a = some o := fun a o xs h z => e a o h (fun ps q => by
    subst q
    rcases z with z | ⟨_, _, z⟩ <;> cases z)
  have g : Grow K w μ.nx H w μ.nx H' := ⟨⟨Nat.le_refl _, fun _ _ => rfl, fun _ _ => ⟨Nat.le_refl _, fun _ => rfl⟩, fun a xs h => by
    rcases h with (h | ⟨o, h⟩) | h
    · exact .inl (.inl (k0 _ _ xs h (.inl rfl)))
    · exact .inl (.inr ⟨o, k0 _ _ xs h (.inr ⟨_, _, rfl⟩)⟩)
    · exact .inr h⟩, fun a o u h => k0 _ _ [] h (.inr ⟨_, _, rfl⟩)⟩
  refine ⟨⟨S.bd, S.vr, fun n o h => ?_, S.dj, t⟩, g⟩
  have q := S.ok n o h
  have fm : ∀ a u, a ∈ ft w n (some o) → H a = some u → H' a = some u := fun a u m z => by
    obtain ⟨u', h', q'⟩ := S.ftm (n := n) (by rw [h]; exact m)
    rw [z] at h'
    cases h'
    exact k1 a u z q'
  cases o with
  | lst vs =>
    obtain ⟨us, h1, h2⟩ := q
    exact ⟨us, fm _ _ (by simp [ft]) h1, h2.grow g⟩
  | dct kvs =>
    obtain ⟨us, h1, h2, h3⟩ := q
    exact ⟨us, fm _ _ (by simp [ft]) h1, h2, h3.grow g⟩
  | ro vs =>
    obtain ⟨us, h1, h2⟩ := q
    refine ⟨us, ?_, h2.grow g⟩
    rcases h1 with ⟨o, h1⟩ | h1
    · exact .inl ⟨o, k0 _ _ us h1 (.inr ⟨_, _, rfl⟩)⟩
    · exact .inr h1
  | rod kvs =>
    obtain ⟨h0, o, us, h1, h2, h3⟩ := q
    exact ⟨h0, o, us, k0 _ _ [] h1 (.inr ⟨_, _, rfl⟩), h2, h3.grow g⟩
  | rodt kvs =>
    obtain ⟨h0, o, us, h1, h2, h3⟩ := q
    exact ⟨h0, o, us, k0 _ _ [] h1 (.inr ⟨_, _, rfl⟩), h2, h3.grow g⟩
  | sys v =>
    obtain ⟨h1, h2, h3, h4⟩ := q
    exact ⟨h1, h2.same fun b o e m => fm b o m e, h3, h4⟩
  | sysL v p =>
    obtain ⟨h1, h2, h3, h4⟩ := q
    exact ⟨h1, h2.same (fun d _ e => e) (fun d o u e => k0 _ _ [] e (.inr ⟨_, _, rfl⟩)) fun b o e m => fm b o m e, h3, h4⟩
  | ins C fs =>
    obtain ⟨dx, us, h1, h2, h3⟩ := q
    exact ⟨dx, us, fm _ _ (by simp [ft]) h1, h2, h3.grow g⟩
  | dtt kvs =>
    obtain ⟨us, h1, h2, h3⟩ := q
    exact ⟨us, fm _ _ (by simp [ft]) h1, h2, h3.grow g⟩
/-- one object changes -/
theorem Sim.step (S : Sim K w μ H) {n : Nat} {o o' : Ob} (hn : μ.ob n = some o) {μ' : Mu} (f1 : μ'.nx = μ.nx) (f2 : μ'.ob n = some o') (f3 : ∀ m, m ≠ n → μ'.ob m = μ.ob m) (hv : ∀ m, w'.ad.ver m = μ'.vr m) (ha : ∀ m, w'.ad m = w.ad m) (hw : ∀ m, w.ad.ver m ≤ w'.ad.ver m ∧ (w'.ad.ver m = w.ad.ver m → w'.ad.sy m = w.ad.sy m)) (hs : ∀ m, m ≠ n → w'.sy m = w.sy m) (k : ∀ a u, H a = some u → a ∉ ft w n (some o) → H' a = some u) (hf : ∀ a ∈ ft w' n (some o'), a ∈ ft w n (some o) ∨ H a = none)
    (hr : Grow K w μ.nx H w' μ.nx H' → ObR K w' μ.nx H' n o') (ho : ∀ a, (∃ o u, H a = some (.frz o u)) → w'.own a = w.own a := by exact fun _ _ => rfl) : Sim K w' μ' H' ∧ Grow K w μ.nx H w' μ.nx H' := by
  have fm : ∀ a ∈ ft w n (some o), ∃ u, H a = some u ∧ isM u = true := fun a h => S.ftm (n := n) (by rw [hn]; exact h)
  have km : ∀ a u, H a = some u → isM u = false → H' a = some u := fun a u h z => k a u h fun m => by
    obtain ⟨u', h', q⟩ := fm a m
    rw [h] at h'
    cases h'
    rw [z] at q
    cases q
  have g : Grow K w μ.nx H w' μ.nx H' := ⟨⟨Nat.le_refl _, fun m _ => ha m, fun m _ => hw m, fun a xs h => sqt_keep km h⟩, fun a o u h => km _ _ h rfl⟩
  have fo : ∀ m, m ≠ n → ∀ p, ft w' m p = ft w m p := fun m hm p => by
    unfold ft
    rw [ha, hs m hm]
  have disj : ∀ m, m ≠ n → ∀ a ∈ ft w' n (some o'), a ∉ ft w m (μ.ob m) := fun m hm a h z => by
    rcases hf a h with q | q
    · exact S.dj n m (Ne.symm hm) a (by rw [hn]; exact q) z
    · obtain ⟨u, h', _⟩ := S.ftm z
      rw [q] at h'
      cases h'
  refine ⟨⟨fun m h => ?_, hv, fun m p h => ?_, fun m1 m2 hm a h1 h2 => ?_, tabs_keep (K := K) S.tb km⟩, g⟩
  · rw [f1] at h
    have : m ≠ n := fun z => by
      have := S.lt hn
      rw [z] at h
      exact absurd this (Nat.not_lt.mpr h)
    rw [f3 _ this]
    exact S.bd m h
  · rw [f1]
    by_cases e : m = n
    · subst e
      rw [f2] at h
      cases h
      exact hr g
    · rw [f3 _ e] at h
      exact (S.ok m p h).keep g (S.lt h) (hs m e) ho km fun a u m' h' => k a u h' fun z => S.dj m n e a (by rw [h]; exact m') (by rw [hn]; exact z)
  · by_cases e1 : m1 = n
    · subst e1
      rw [f2] at h1
      rw [f3 _ (Ne.symm hm), fo m2 (Ne.symm hm)] at h2
      exact disj m2 (Ne.symm hm) a h1 h2
    · by_cases e2 : m2 = n
      · subst e2
        rw [f2] at h2
        rw [f3 _ e1, fo m1 e1] at h1
        exact disj m1 e1 a h2 h1
      · rw [f3 _ e1, fo m1 e1] at h1
        rw [f3 _ e2, fo m2 e2] at h2
        exact S.dj m1 m2 hm a h1 h2
def Wt.add (w : Wt) (n : Nat) (p : Addr) (s : Sy) : Wt := ⟨⟨fun m => if m = n then p else w.ad m, fun m => if m = n then s else w.sy m, w.ad.ver⟩, w.own⟩
theorem Wt.add_ad (w : Wt) (n : Nat) (p : Addr) (s : Sy) : (w.add n p s).ad n = p := if_pos rfl
theorem Wt.add_sy (w : Wt) (n : Nat) (p : Addr) (s : Sy) : (w.add n p s).sy n = s := if_pos rfl
theorem Wt.add_ne (w : Wt) {n m : Nat} (p : Addr) (s : Sy) (h : m ≠ n) : (w.add n p s).ad m = w.ad m ∧ (w.add n p s).sy m = w.sy m := ⟨if_neg h, if_neg h⟩
/-- an object that stands in the heap is taken in -/
theorem Sim.add (S : Sim K w μ H) {p : Addr} {s : Sy} {o : Ob} (hf : ∀ a ∈ ft (w.add μ.nx p s) μ.nx (some o), ∀ m, a ∉ ft w m (μ.ob m)) (hr : Grow K w μ.nx H (w.add μ.nx p s) (μ.nx + 1) H → ObR K (w.add μ.nx p s) (μ.nx + 1) H μ.nx o) :
    Sim K (w.add μ.nx p s) (μ.new o) H ∧ Grow K w μ.nx H (w.add μ.nx p s) (μ.nx + 1) H := by
  have g : Grow K w μ.nx H (w.add μ.nx p s) (μ.nx + 1) H := ⟨⟨Nat.le_succ _, fun n h => (w.add_ne p s (Nat.ne_of_lt h)).1, fun n h => ⟨Nat.le_refl _, fun _ => (w.add_ne p s (Nat.ne_of_lt h)).2⟩, fun _ _ h => h⟩, fun _ _ _ h => h⟩
  have fo : ∀ m, m ≠ μ.nx → ∀ q, ft (w.add μ.nx p s) m q = ft w m q := fun m hm q => by
    unfold ft
    rw [(w.add_ne p s hm).1, (w.add_ne p s hm).2]
  refine ⟨⟨fun m h => ?_, fun m => S.vr m, fun m q h => ?_, fun m1 m2 hm a h1 h2 => ?_, S.tb⟩, g⟩
  · have h : μ.nx + 1 ≤ m := h
    rw [Mu.new_ne _ _ (by omega)]
    exact S.bd m (by omega)
  · by_cases e : m = μ.nx
    · subst e
      rw [Mu.new_same] at h
      cases h
      exact hr g
    · rw [Mu.new_ne _ _ e] at h
      exact (S.ok m q h).keep g (S.lt h) (w.add_ne p s e).2 (fun _ _ => rfl) (fun _ _ h _ => h) (fun _ _ _ h => h)
  · by_cases e1 : m1 = μ.nx
    · subst e1
      rw [Mu.new_same] at h1
      rw [Mu.new_ne _ _ (Ne.symm hm), fo m2 (Ne.symm hm)] at h2
      exact hf a h1 m2 h2
    · by_cases e2 : m2 = μ.nx
      · subst e2
        rw [Mu.new_same] at h2
        rw [Mu.new_ne _ _ e1, fo m1 e1] at h1
        exact hf a h2 m1 h1
      · rw [Mu.new_ne _ _ e1, fo m1 e1] at h1
        rw [Mu.new_ne _ _ e2, fo m2 e2] at h2
        exact S.dj m1 m2 hm a h1 h2
/-- a new list is laid -/
theorem Sim.newL (S : Sim K w μ H) {p : Addr} (hp : H p = none) {vs : List Val} {us : List V} (r : VRs K w.ad μ.nx H vs us) : ∃ w', Sim K w' (μ.new (.lst vs)) (upd H p (.lst us)) ∧ Grow K w μ.nx H w' (μ.nx + 1) (upd H p (.lst us)) ∧ w'.ad μ.nx = p := by
  obtain ⟨S1, g1⟩ := S.same (H' := upd H p (.lst us)) (fun b o h => by rw [upd_ne (ne_of_none h hp)]; exact h)
  obtain ⟨S2, g2⟩ := S1.add (p := p) (s := w.sy 0) (o := .lst vs) (fun a ha m z => by
    have e : a = p := by simpa [ft, Wt.add] using ha
    subst e
    obtain ⟨u, h, _⟩ := S.ftm z
    rw [hp] at h
    cases h) (fun g => ⟨us, by rw [Wt.add_ad]; exact upd_same, (r.grow g1).grow g⟩)
  exact ⟨_, S2, g1.trans g2, Wt.add_ad ..⟩
/-- a new tuple is laid -/
theorem Sim.newT (S : Sim K w μ H) {p : Addr} (hp : H p = none) {vs : List Val} {us : List V} (r : VRs K w.ad μ.nx H vs us) : Sim K w μ (upd H p (.tup us)) ∧ Grow K w μ.nx H w μ.nx (upd H p (.tup us)) ∧ VR K w.ad μ.nx (upd H p (.tup us)) (.tup vs) (.ref p) := by
  obtain ⟨S1, g1⟩ := S.same (H' := upd H p (.tup us)) (fun b o h => by rw [upd_ne (ne_of_none h hp)]; exact h)
  exact ⟨S1, g1, .tup (SqT.of upd_same) (r.grow g1)⟩
theorem Sim.newD (S : Sim K w μ H) {p : Addr} (hp : H p = none) {kvs : List (Key × Val)} {us : List (Key × V)} (hk : us.map (·.1) = kvs.map (·.1)) (r : VRs K w.ad μ.nx H (kvs.map (·.2)) (us.map (·.2))) : ∃ w', Sim K w' (μ.new (.dct kvs)) (upd H p (.dK us)) ∧ Grow K w μ.nx H w' (μ.nx + 1) (upd H p (.dK us)) ∧ w'.ad μ.nx = p := by
  obtain ⟨S1, g1⟩ := S.same (H' := upd H p (.dK us)) (fun b o h => by rw [upd_ne (ne_of_none h hp)]; exact h)
  obtain ⟨S2, g2⟩ := S1.add (p := p) (s := w.sy 0) (o := .dct kvs) (fun a ha m z => by
    have e : a = p := by simpa [ft, Wt.add] using ha
    subst e
    obtain ⟨u, h, _⟩ := S.ftm z
    rw [hp] at h
    cases h) (fun g => ⟨us, by rw [Wt.add_ad]; exact upd_same, hk, (r.grow g1).grow g⟩)
  exact ⟨_, S2, g1.trans g2, Wt.add_ad ..⟩
/-- a list, a dict is written -/
theorem Sim.setL (S : Sim K w μ H) {n : Nat} {vs0 vs : List Val} {us : List V} (hn : μ.ob n = some (.lst vs0)) (r : VRs K w.ad μ.nx H vs us) : Sim K w (μ.put n (.lst vs)) (upd H (w.ad n) (.lst us)) ∧ Grow K w μ.nx H w μ.nx (upd H (w.ad n) (.lst us)) := by
  refine S.step hn rfl (Mu.put_same _ _ _) (fun m h => Mu.put_ne _ _ h) S.vr (fun _ => rfl) (fun _ => ⟨Nat.le_refl _, fun _ => rfl⟩) (fun _ _ => rfl) (fun a u h m => ?_) (fun a h => .inl h) (fun g => ⟨us, upd_same, r.grow g⟩)
  rw [upd_ne (fun z => m (by simp [ft, z]))]
  exact h
theorem Sim.setD (S : Sim K w μ H) {n : Nat} {k0 kvs : List (Key × Val)} {us : List (Key × V)} (hn : μ.ob n = some (.dct k0)) (hk : us.map (·.1) = kvs.map (·.1)) (r : VRs K w.ad μ.nx H (kvs.map (·.2)) (us.map (·.2))) : Sim K w (μ.put n (.dct kvs)) (upd H (w.ad n) (.dK us)) ∧ Grow K w μ.nx H w μ.nx (upd H (w.ad n) (.dK us)) := by
  refine S.step hn rfl (Mu.put_same _ _ _) (fun m h => Mu.put_ne _ _ h) S.vr (fun _ => rfl) (fun _ => ⟨Nat.le_refl _, fun _ => rfl⟩) (fun _ _ => rfl) (fun a u h m => ?_) (fun a h => .inl h) (fun g => ⟨us, upd_same, hk, r.grow g⟩)
  rw [upd_ne (fun z => m (by simp [ft, z]))]
  exact h
/-- a new system is taken in -/
theorem Sim.newS (S : Sim K w μ H) {v : Sv} {s : Sy} (e : Same H H') (h1 : SyAt K H' s) (h2 : s.v = v) (h3 : WF v) (f : ∀ c ∈ s.foot, H c = none) : ∃ w', Sim K w' (μ.new (.sys v)) H' ∧ Grow K w μ.nx H w' (μ.nx + 1) H' ∧ w'.ad μ.nx = s.p := by
  obtain ⟨S1, g1⟩ := S.same e
  obtain ⟨S2, g2⟩ := S1.add (p := s.p) (s := s) (o := .sys v) (fun a ha m z => by
    have ha : a ∈ ((w.add μ.nx s.p s).sy μ.nx).foot := ha
    rw [Wt.add_sy] at ha
    obtain ⟨u, h, _⟩ := S.ftm z
    rw [f a ha] at h
    cases h) (fun g => by
    show ((w.add μ.nx s.p s).sy μ.nx).p = (w.add μ.nx s.p s).ad μ.nx ∧ SyAt K H' ((w.add μ.nx s.p s).sy μ.nx) ∧ ((w.add μ.nx s.p s).sy μ.nx).v = v ∧ WF v
    rw [Wt.add_sy, Wt.add_ad]
    exact ⟨rfl, h1, h2, h3⟩)
  exact ⟨_, S2, g1.trans g2, Wt.add_ad ..⟩
end
section
variable {K : PySem.W.Frag} {w w' : Wt} {μ : Mu} {H H' : Hp} {n : Nat} {kvs : List (Key × Val)} {us : List (Key × V)} {o : Obj}
end
section
variable {K : PySem.W.Frag} {w w' : Wt} {μ : Mu} {H H' : Hp} {n : Nat} {kvs : List (List Key × Val)} {us : List (List Key × V)} {o : Obj}
end
end Wn
/-! the law's level: expressions -/
namespace Wn
open PySem PySem.Spec PyProof.Rows L2 LamX He

inductive R (α : Type) where
  | ok (a : α) (μ : Mu)
  | er (c : Str) (fs : List (Str × Val)) (μ : Mu)
  | no
def R.bind {α β : Type} (r : R α) (k : α → Mu → R β) : R β := match r with
  | .ok a μ => k a μ
  | .er c fs μ => .er c fs μ
  | .no => .no
@[simp] theorem R.bind_ok {α β : Type} (a : α) (μ : Mu) (k : α → Mu → R β) : (R.ok a μ).bind k = k a μ := rfl
@[simp] theorem R.bind_no {α β : Type} (k : α → Mu → R β) : (R.no : R α).bind k = .no := rfl
@[simp] theorem R.bind_er {α β : Type} (c : Str) (fs : List (Str × Val)) (μ : Mu) (k : α → Mu → R β) : (R.er c fs μ : R α).bind k = .er c fs μ := rfl
abbrev Rho := List (Option Val)
abbrev ME := Rho → Mu → R Val
abbrev MA := Rho → Mu → R (List Val)
abbrev MT := Rho → Mu → R Bool
def EnvR (K : PySem.W.Frag) (w : Wt) (b : Nat) (H : Hp) (ρ : Rho) (σ : L2.St) : Prop := ρ.length = σ.length ∧ ∀ (i : Nat) (v : Val), ρ[i]? = some (some v) → ∃ u : V, σ[i]? = some (some u) ∧ VR K w.ad b H v u
theorem EnvR.grow {K : PySem.W.Frag} {w w' : Wt} {b b' : Nat} {H H' : Hp} {ρ : Rho} {σ : L2.St} (h : EnvR K w b H ρ σ) (g : Grow K w b H w' b' H') : EnvR K w' b' H' ρ σ :=
  ⟨h.1, fun i v e => let ⟨u, q, r⟩ := h.2 i v e; ⟨u, q, r.grow g⟩⟩
theorem EnvR.set {K : PySem.W.Frag} {w : Wt} {b : Nat} {H : Hp} {ρ : Rho} {σ : L2.St} (h : EnvR K w b H ρ σ) (i : Nat) {v : Val} {u : V} (r : VR K w.ad b H v u) : EnvR K w b H (ρ.set i (some v)) (σ.set i (some u)) := by
  refine ⟨by rw [List.length_set, List.length_set]; exact h.1, fun j x e => ?_⟩
  rw [List.getElem?_set] at e ⊢
  by_cases c : i = j
  · subst c
    by_cases d : i < ρ.length
    · rw [if_pos rfl, if_pos d] at e
      cases e
      exact ⟨u, by rw [if_pos rfl, if_pos (by rw [← h.1]; exact d)], r⟩
    · rw [if_pos rfl, if_neg d] at e
      cases e
  · rw [if_neg c] at e ⊢
    exact h.2 j x e
section
variable {K : PySem.W.Frag} {α β γ δ : Type}
abbrev Rel (α β : Type) := Wt → Nat → Hp → α → β → Prop
def relE (K : PySem.W.Frag) : Rel Val V := fun w b H v u => VR K w.ad b H v u
def relA (K : PySem.W.Frag) : Rel (List Val) (List V) := fun w b H v u => VRs K w.ad b H v u
def relT : Rel Bool Bool := fun _ _ _ v u => v = u
def Post (K : PySem.W.Frag) (rel : Rel α β) (E : XK) (w : Wt) (b : Nat) (H : Hp) (Q : β → Hp → Prop) : R α → Prop
  | .ok a μ' => ∀ w' H' u, Sim K w' μ' H' → rel w' μ'.nx H' a u → Grow K w b H w' μ'.nx H' → Q u H'
  | .er c fs μ' => ∀ w' H' d us, Sim K w' μ' H' → Grow K w b H w' μ'.nx H' → H' d = some (.xd us) → us.map (·.1) = fs.map (·.1) → VRs K w'.ad μ'.nx H' (fs.map (·.2)) (us.map (·.2)) → E (.ref (ga K c)) (some d) H'
  | .no => False
theorem Post.grow {rel : Rel α β} {E : XK} {w w1 : Wt} {b b1 : Nat} {H H1 : Hp} {Q : β → Hp → Prop} {r : R α} (h : Post K rel E w b H Q r) (g : Grow K w b H w1 b1 H1) : Post K rel E w1 b1 H1 Q r := by
  cases r with
  | ok a μ => exact fun w' H' u S r g' => h w' H' u S r (g.trans g')
  | er c fs μ => exact fun w' H' d us S g' => h w' H' d us S (g.trans g')
  | no => exact h
theorem Post.bind {rel : Rel α β} {rel' : Rel γ δ} {E : XK} {w : Wt} {b : Nat} {H : Hp} {Q : δ → Hp → Prop} {Q1 : β → Hp → Prop} {r : R α} {k : α → Mu → R γ} (h : Post K rel' E w b H Q (r.bind k))
    (f : ∀ a μ1 w1 H1 u1, Sim K w1 μ1 H1 → rel w1 μ1.nx H1 a u1 → Grow K w b H w1 μ1.nx H1 → Post K rel' E w1 μ1.nx H1 Q (k a μ1) → Q1 u1 H1) : Post K rel E w b H Q1 r := by
  cases r with
  | ok a μ1 => exact fun w1 H1 u1 S r g => f a μ1 w1 H1 u1 S r g (Post.grow h g)
  | er c fs μ => exact h
  | no => exact h.elim
def tM (K : PySem.W.Frag) (rel : Rel α β) (E : XK) (m : Rho → Mu → R α) : L2.St → Hp → (β → Hp → Prop) → Prop := fun σ H Q => ∃ w ρ μ, Sim K w μ H ∧ EnvR K w μ.nx H ρ σ ∧ Post K rel E w μ.nx H Q (m ρ μ)
end
def PM (X : Cx) (E : XK) (e : Expr) (m : ME) : Prop := PE X e (tM X.K (relE X.K) E m)
def PMA (X : Cx) (E : XK) (es : List Expr) (m : MA) : Prop := PA X es (tM X.K (relA X.K) E m)
def PMT (X : Cx) (E : XK) (e : Expr) (m : MT) : Prop := PT X e (tM X.K relT E m)
theorem PE.imp {X : Cx} {e : Expr} {t t0 : TE} (h : PE X e t) (i : ∀ σ H Q, t0 σ H Q → t σ H Q) : PE X e t0 := ⟨fun pins s σ H Q I hw => h.run pins s σ H Q I (i σ H Q hw)⟩
theorem PA.imp {X : Cx} {e : List Expr} {t t0 : TA} (h : PA X e t) (i : ∀ σ H Q, t0 σ H Q → t σ H Q) : PA X e t0 := ⟨fun pos pins s σ H Q I hw => h.run pos pins s σ H Q I (i σ H Q hw)⟩
theorem PT.imp {X : Cx} {e : Expr} {t t0 : TT} (h : PT X e t) (i : ∀ σ H Q, t0 σ H Q → t σ H Q) : PT X e t0 := ⟨fun pins s σ H Q I hw => h.run pins s σ H Q I (i σ H Q hw)⟩
theorem PW.imp {X : Cx} {e : Expr} {t t0 : TT} (h : PW X e t) (i : ∀ σ H Q, t0 σ H Q → t σ H Q) : PW X e t0 := ⟨fun e' pins s σ H Q I hw => h.run e' pins s σ H Q I (i σ H Q hw)⟩

/-! ### the words of the level -/
def mC (v : Val) : ME := fun _ μ => .ok v μ
def mV (i : Nat) : ME := fun ρ μ => match ρ[i]? with
  | some (some v) => .ok v μ
  | _ => .no
def mNil : MA := fun _ μ => .ok [] μ
def mCons (a : ME) (r : MA) : MA := fun ρ μ => (a ρ μ).bind fun x μ => (r ρ μ).bind fun xs μ => .ok (x :: xs) μ
def mTup (a : MA) : ME := fun ρ μ => (a ρ μ).bind fun xs μ => if xs.length ≤ 1000 then .ok (.tup xs) μ else .no
def mLst (a : MA) : ME := fun ρ μ => (a ρ μ).bind fun xs μ => if xs.length ≤ 1000 then .ok (.loc μ.nx) (μ.new (.lst xs)) else .no
def mOp (f : Val → Val → Mu → R Val) (a b : ME) : ME := fun ρ μ => (a ρ μ).bind fun x μ => (b ρ μ).bind fun y μ => f x y μ
def mUn (f : Val → Mu → R Val) (a : ME) : ME := fun ρ μ => (a ρ μ).bind fun x μ => f x μ
def mFn (f : List Val → Mu → R Val) (a : MA) : ME := fun ρ μ => (a ρ μ).bind fun xs μ => f xs μ
def mMt (f : Val → List Val → Mu → R Val) (o : ME) (a : MA) : ME := fun ρ μ => (o ρ μ).bind fun x μ => (a ρ μ).bind fun xs μ => f x xs μ
def boolM : Val → Mu → R Bool
  | .bl b, μ => .ok b μ
  | _, _ => .no
def mTest (m : ME) : MT := fun ρ μ => (m ρ μ).bind boolM
def mAnd (a b : MT) : MT := fun ρ μ => (a ρ μ).bind fun c μ => if c = true then b ρ μ else .ok false μ
def mOr (a b : MT) : MT := fun ρ μ => (a ρ μ).bind fun c μ => if c = true then .ok true μ else b ρ μ
def mNot (a : MT) : MT := fun ρ μ => (a ρ μ).bind fun c μ => .ok (!c) μ
def mIf (c : MT) (a b : ME) : ME := fun ρ μ => (c ρ μ).bind fun k μ => if k = true then a ρ μ else b ρ μ
/-- a test as a value -/
def mBl (m : MT) : ME := fun ρ μ => (m ρ μ).bind fun k μ => .ok (.bl k) μ

section
variable {X : Cx} {E : XK} {e a b : Expr} {es : List Expr} {ma mb : ME} {mr : MA} {pos : Pos}
theorem pm_var {i : Nat} (h : PE X e (tVar i)) : PM X E e (mV i) := PE.imp h fun σ H Q ⟨w, ρ, μ, S, EN, hp⟩ => by
  unfold mV at hp
  split at hp
  · rename_i v hv
    obtain ⟨u, h1, h2⟩ := EN.2 _ _ hv
    exact ⟨u, h1, hp w H u S h2 .refl⟩
  · exact hp.elim
theorem pm_c {v : Val} {u : V} (h : PE X e (tC u)) (r : ∀ w b H, VR X.K w b H v u) : PM X E e (mC v) := PE.imp h fun σ H Q ⟨w, ρ, μ, S, EN, hp⟩ => hp w H u S (r _ _ _) .refl
theorem pm_int {i j} : PM X E (.Constant (.int i) j pos) (mC (.int i)) := pm_c pe_int fun _ _ _ => .int _
theorem pm_bl {i j} : PM X E (.Constant (.bool i) j pos) (mC (.bl i)) := pm_c pe_bl fun _ _ _ => .bl _
theorem pm_non {j} : PM X E (.Constant .none j pos) (mC .non) := pm_c pe_non fun _ _ _ => .non
theorem pm_str {x j} : PM X E (.Constant (.str x) j pos) (mC (.str x)) := pm_c pe_str fun _ _ _ => .str _
theorem pma_nil : PMA X E [] mNil := PA.imp pa_nil fun σ H Q ⟨w, ρ, μ, S, EN, hp⟩ => hp w H [] S .nil .refl
theorem pma_cons (ha : PM X E e ma) (hr : PMA X E es mr) (hs : starEach (e :: es) X.env = (false, eval e X.env) :: starEach es X.env := by rfl) : PMA X E (e :: es) (mCons ma mr) :=
  PA.imp (pa_cons ha hr hs) fun σ H Q ⟨w, ρ, μ, S, EN, hp⟩ => ⟨w, ρ, μ, S, EN, Post.bind hp fun x μ1 w1 H1 u1 S1 r1 g1 h1 => ⟨w1, ρ, μ1, S1, EN.grow g1, Post.bind h1 fun xs μ2 w2 H2 u2 S2 r2 g2 h2 => h2 w2 H2 _ S2 (.cons (VR.grow g2 r1) r2) .refl⟩⟩
theorem lim1000 {n : Nat} (h : n ≤ 1000) : n ≤ sizeLine := Nat.le_trans h (by decide)
theorem lim6 {n : Nat} (h : n ≤ 1000000) : n < sizeLine := Nat.lt_of_le_of_lt h (by decide)
theorem pm_tup {x1} (h : PMA X E es mr) : PM X E (.Tuple es x1 pos) (mTup mr) :=
  PE.imp (pe_tup h) fun σ H Q ⟨w, ρ, μ, S, EN, hp⟩ => ⟨w, ρ, μ, S, EN, Post.bind hp fun xs μ1 w1 H1 u1 S1 r1 g1 h1 => by
    split at h1
    · rename_i hz
      refine ⟨by rw [VRs.length r1]; exact lim1000 hz, fun p np => ?_⟩
      obtain ⟨S2, g2, v2⟩ := S1.newT np r1
      exact h1 w1 _ _ S2 v2 g2
    · exact h1.elim⟩
theorem pm_lst (h : PMA X E es mr) : PM X E (.List es pos) (mLst mr) :=
  PE.imp (pe_lst h) fun σ H Q ⟨w, ρ, μ, S, EN, hp⟩ => ⟨w, ρ, μ, S, EN, Post.bind hp fun xs μ1 w1 H1 u1 S1 r1 g1 h1 => by
    split at h1
    · rename_i hz
      refine ⟨by rw [VRs.length r1]; exact lim1000 hz, fun p np => ?_⟩
      obtain ⟨w2, S2, g2, e2⟩ := S1.newL np r1
      exact h1 w2 _ _ S2 (by rw [← e2]; exact VR.loc (Nat.lt_succ_self _)) g2
    · exact h1.elim⟩
/-- an operator by values -/
def Prim2 (K : PySem.W.Frag) (r : R2) (f : Val → Val → Mu → R Val) : Prop := ∀ (E : XK) (w : Wt) (μ : Mu) (H : Hp) (x y : Val) (u v : V) (Q : VK), Sim K w μ H → VR K w.ad μ.nx H x u → VR K w.ad μ.nx H y v → Post K (relE K) E w μ.nx H Q (f x y μ) → r u v H Q
def PrimA (K : PySem.W.Frag) (r : List V → Hp → VK → Prop) (f : List Val → Mu → R Val) : Prop := ∀ (E : XK) (w : Wt) (μ : Mu) (H : Hp) (xs : List Val) (us : List V) (Q : VK), Sim K w μ H → VRs K w.ad μ.nx H xs us → Post K (relE K) E w μ.nx H Q (f xs μ) → r us H Q
structure BinP (X : Cx) (op : Operator) (f : Val → Val → Mu → R Val) : Prop where
  ex : ∃ r, OpR X (binaryOp op) r ∧ Prim2 X.K r f
structure CmpP (X : Cx) (op : CmpOp) (f : Val → Val → Mu → R Val) : Prop where
  ex : ∃ r, OpR X (compareOp op) r ∧ Prim2 X.K r f
theorem pm_bin {op : Operator} {f : Val → Val → Mu → R Val} (h : BinP X op f) (ha : PM X E a ma) (hb : PM X E b mb) : PM X E (.BinOp a op b pos) (mOp f ma mb) := by
  obtain ⟨r, ho, hf⟩ := h.ex
  exact PE.imp (pe_op ho ha hb) fun σ H Q ⟨w, ρ, μ, S, EN, hp⟩ => ⟨w, ρ, μ, S, EN, Post.bind hp fun x μ1 w1 H1 u1 S1 r1 g1 h1 => ⟨w1, ρ, μ1, S1, EN.grow g1, Post.bind h1 fun y μ2 w2 H2 u2 S2 r2 g2 h2 => hf E w2 μ2 H2 x y u1 u2 Q S2 (VR.grow g2 r1) r2 h2⟩⟩
theorem pm_cmp {op : CmpOp} {f : Val → Val → Mu → R Val} (h : CmpP X op f) (ha : PM X E a ma) (hb : PM X E b mb) (hm : behindInMarks op b = false := by first | exact nomark _ | rfl) : PM X E (.Compare a [op] [b] pos) (mOp f ma mb) := by
  obtain ⟨r, ho, hf⟩ := h.ex
  exact PE.imp (pe_cmpR ho ha hb hm) fun σ H Q ⟨w, ρ, μ, S, EN, hp⟩ => ⟨w, ρ, μ, S, EN, Post.bind hp fun x μ1 w1 H1 u1 S1 r1 g1 h1 => ⟨w1, ρ, μ1, S1, EN.grow g1, Post.bind h1 fun y μ2 w2 H2 u2 S2 r2 g2 h2 => hf E w2 μ2 H2 x y u1 u2 Q S2 (VR.grow g2 r1) r2 h2⟩⟩
theorem post_test {K : PySem.W.Frag} {w : Wt} {n : Nat} {H : Hp} {Q : Bool → Hp → Prop} {r : R Val} (h : Post K relT E w n H Q (r.bind boolM)) : Post K (relE K) E w n H (fun x H' => ∃ k, x = .bl k ∧ Q k H') r :=
  Post.bind h fun x μ1 w1 H1 u1 S1 r1 g1 h1 => by
    cases x with
    | bl k =>
      cases r1
      exact ⟨k, rfl, h1 w1 H1 k S1 rfl .refl⟩
    | _ => exact h1.elim
theorem pmt_cmp {op : CmpOp} {f : Val → Val → Mu → R Val} (h : CmpP X op f) (ha : PM X E a ma) (hb : PM X E b mb) (hm : behindInMarks op b = false := by first | exact nomark _ | rfl) : PMT X E (.Compare a [op] [b] pos) (mTest (mOp f ma mb)) := by
  obtain ⟨r, ho, hf⟩ := h.ex
  refine PT.imp (pt_cmpR ho ha hb hm) fun σ H Q ⟨w, ρ, μ, S, EN, hp⟩ => ?_
  have hp2 := post_test hp
  exact ⟨w, ρ, μ, S, EN, Post.bind hp2 fun x μ1 w1 H1 u1 S1 r1 g1 h1 => ⟨w1, ρ, μ1, S1, EN.grow g1, Post.bind h1 fun y μ2 w2 H2 u2 S2 r2 g2 h2 => hf E w2 μ2 H2 x y u1 u2 _ S2 (VR.grow g2 r1) r2 h2⟩⟩
theorem pmt_val (ha : PM X E a ma) (he : ∀ whole, isTrue a X.env whole = (do let v ← whole; standAt a.pos; holding [v] (truthy v)) := by intro _; rfl) : PMT X E a (mTest ma) :=
  PT.imp (pt_val ha he) fun σ H Q ⟨w, ρ, μ, S, EN, hp⟩ => ⟨w, ρ, μ, S, EN, post_test hp⟩
variable {ta tb : MT} {rest : List Expr}
def PMW (X : Cx) (E : XK) (e : Expr) (m : MT) : Prop := PW X e (tM X.K relT E m)
theorem PMW.t (h : PMW X E e ta) : PMT X E e ta := PW.pt h
theorem pmw_and1 (ha : PMT X E a ta) : PMW X E (.BoolOp .And [a] pos) ta := pw_and1 ha
theorem pmw_or1 (ha : PMT X E a ta) : PMW X E (.BoolOp .Or [a] pos) ta := pw_or1 ha
theorem pmw_and (ha : PMT X E a ta) (hb : PMW X E (.BoolOp .And (b :: rest) pos) tb) : PMW X E (.BoolOp .And (a :: b :: rest) pos) (mAnd ta tb) :=
  PW.imp (pw_and ha hb) fun σ H Q ⟨w, ρ, μ, S, EN, hp⟩ => ⟨w, ρ, μ, S, EN, Post.bind hp fun x μ1 w1 H1 u1 S1 r1 g1 h1 => by
    cases r1
    cases x with
    | true => exact iteT ⟨w1, ρ, μ1, S1, EN.grow g1, h1⟩
    | false => exact iteF (h1 w1 H1 false S1 rfl .refl)⟩
theorem pmw_or (ha : PMT X E a ta) (hb : PMW X E (.BoolOp .Or (b :: rest) pos) tb) : PMW X E (.BoolOp .Or (a :: b :: rest) pos) (mOr ta tb) :=
  PW.imp (pw_or ha hb) fun σ H Q ⟨w, ρ, μ, S, EN, hp⟩ => ⟨w, ρ, μ, S, EN, Post.bind hp fun x μ1 w1 H1 u1 S1 r1 g1 h1 => by
    cases r1
    cases x with
    | true => exact iteT (h1 w1 H1 true S1 rfl .refl)
    | false => exact iteF ⟨w1, ρ, μ1, S1, EN.grow g1, h1⟩⟩
theorem pmt_not (ha : PMT X E a ta) : PMT X E (.UnaryOp .Not a pos) (mNot ta) :=
  PT.imp (pt_not ha) fun σ H Q ⟨w, ρ, μ, S, EN, hp⟩ => ⟨w, ρ, μ, S, EN, Post.bind hp fun x μ1 w1 H1 u1 S1 r1 g1 h1 => by
    cases r1
    exact h1 w1 H1 _ S1 rfl .refl⟩
theorem pm_ifExp {c : Expr} (hc : PMT X E c ta) (ha : PM X E a ma) (hb : PM X E b mb) : PM X E (.IfExp c a b pos) (mIf ta ma mb) :=
  PE.imp (pe_ifExp hc ha hb) fun σ H Q ⟨w, ρ, μ, S, EN, hp⟩ => ⟨w, ρ, μ, S, EN, Post.bind hp fun x μ1 w1 H1 u1 S1 r1 g1 h1 => by
    cases r1
    cases x with
    | true => exact iteT ⟨w1, ρ, μ1, S1, EN.grow g1, h1⟩
    | false => exact iteF ⟨w1, ρ, μ1, S1, EN.grow g1, h1⟩⟩
/-- x and y, x or y, not x of truths, as values -/
def mAndV (a b : ME) : ME := fun ρ μ => (a ρ μ).bind fun x μ => (boolM x μ).bind fun c μ => if c = true then b ρ μ else .ok (.bl false) μ
def mOrV (a b : ME) : ME := fun ρ μ => (a ρ μ).bind fun x μ => (boolM x μ).bind fun c μ => if c = true then .ok (.bl true) μ else b ρ μ
def mNotV (a : ME) : ME := fun ρ μ => (a ρ μ).bind fun x μ => (boolM x μ).bind fun c μ => .ok (.bl (!c)) μ
theorem pm_one {op} (h : PM X E a ma) : PM X E (.BoolOp op [a] pos) ma := pe_one h
/-- calls by values -/
theorem pm_callB {id : String} {x : Str} {r : List V → Hp → VK → Prop} {f : List Val → Mu → R Val} {p : Pos} (hc : CallR X (.builtin id) r) (hf : PrimA X.K r f) (hg : Gl X x) (hm : X.mg x = none) (hv : bootBuiltins x = some (.builtin id)) (ha : PMA X E (e :: es) mr) (hn : x ≠ "__name__" := by decide) (hdb : (x == ("__debug__" : Str)) = false := by decide)
    (he : starEach (e :: es) X.env = (false, eval e X.env) :: starEach es X.env := by rfl) (hpl : (backTo pos (starEach es X.env)).any (·.1) = false := by rfl) : PM X E (.Call (.Name x p) (e :: es) [] pos) (mFn f mr) :=
  PE.imp (pe_callB hc hg hm hv ha hn hdb he hpl) fun σ H Q ⟨w, ρ, μ, S, EN, hp⟩ => ⟨w, ρ, μ, S, EN, Post.bind hp fun xs μ1 w1 H1 u1 S1 r1 g1 h1 => hf E w1 μ1 H1 xs u1 Q S1 r1 h1⟩
theorem pm_callTy {T : String} {x : Str} {r : List V → Hp → VK → Prop} {f : List Val → Mu → R Val} {p : Pos} (hc : CallR X (.type T) r) (hf : PrimA X.K r f) (hg : Gl X x) (hm : X.mg x = none) (hv : bootBuiltins x = some (.type T)) (ha : PMA X E (e :: es) mr) (hn : x ≠ "__name__" := by decide) (hdb : (x == ("__debug__" : Str)) = false := by decide)
    (he : starEach (e :: es) X.env = (false, eval e X.env) :: starEach es X.env := by rfl) (hpl : (backTo pos (starEach es X.env)).any (·.1) = false := by rfl) : PM X E (.Call (.Name x p) (e :: es) [] pos) (mFn f mr) :=
  PE.imp (pe_callTy hc hg hm hv ha hn hdb he hpl) fun σ H Q ⟨w, ρ, μ, S, EN, hp⟩ => ⟨w, ρ, μ, S, EN, Post.bind hp fun xs μ1 w1 H1 u1 S1 r1 g1 h1 => hf E w1 μ1 H1 xs u1 Q S1 r1 h1⟩
end
end Wn
/-! the law's level: operators by values -/
namespace Wn
open PySem PySem.Spec PyProof.Rows L2 LamX He

/-! ### arithmetic -/
instance (i j : Int) : Decidable (CMul i j) := by unfold CMul; infer_instance
instance (i j : Int) : Decidable (CDiv i j) := by unfold CDiv; infer_instance
instance (i j : Int) : Decidable (CPow i j) := by unfold CPow; infer_instance
def addM : Val → Val → Mu → R Val
  | .int i, .int j, μ => .ok (.int (i + j)) μ
  | .str a, .str b, μ => if a.length + b.length ≤ 1000000 then .ok (.str (a ++ b)) μ else .no
  | .tup a, .tup b, μ => if a ≠ [] ∧ a.length + b.length ≤ 1000000 then .ok (.tup (a ++ b)) μ else .no
  | .loc n, .loc m, μ => match μ.ob n, μ.ob m with
    | some (.lst a), some (.lst b) => if a.length + b.length ≤ 1000000 then .ok (.loc μ.nx) (μ.new (.lst (a ++ b))) else .no
    | _, _ => .no
  | _, _, _ => .no
def subM : Val → Val → Mu → R Val
  | .int i, .int j, μ => .ok (.int (i - j)) μ
  | _, _, _ => .no
def mulM : Val → Val → Mu → R Val
  | .int i, .int j, μ => if CMul i j then .ok (.int (i * j)) μ else .no
  | .loc n, .int k, μ => match μ.ob n with
    | some (.lst a) => if 0 ≤ k ∧ k ≤ 1000 ∧ a.length ≤ 1000 then .ok (.loc μ.nx) (μ.new (.lst (List.replicate k.toNat a).flatten)) else .no
    | _ => .no
  | _, _, _ => .no
def modM : Val → Val → Mu → R Val
  | .int i, .int j, μ => if 0 < j then .ok (.int (i % j)) μ else .no
  | _, _, _ => .no
def fdivM : Val → Val → Mu → R Val
  | .int i, .int j, μ => if CDiv i j then .ok (.int (i / j)) μ else .no
  | _, _, _ => .no
def powM : Val → Val → Mu → R Val
  | .int i, .int j, μ => if CPow i j then .ok (.int (i ^ j.toNat)) μ else .no
  | _, _, _ => .no
section
variable {X : Cx}
theorem vr_tup {K : PySem.W.Frag} {ad : Adr} {b : Nat} {H : Hp} {vs : List Val} {u : V} (h : VR K ad b H (.tup vs) u) : ∃ a us, u = .ref a ∧ SqT K H a us ∧ VRs K ad b H vs us := by
  cases h with
  | tup h r => exact ⟨_, _, rfl, h, r⟩
theorem b_add : BinP X .Add addM := by
  refine ⟨_, (op_add.or (op_add_str.or (op_cat.or op_catT))), ?_⟩
  intro E w μ H x y u v Q S hx hy hp
  unfold addM at hp
  split at hp
  · cases hx; cases hy
    exact .inl ⟨_, _, rfl, rfl, hp w H _ S (.int _) .refl⟩
  · cases hx; cases hy
    split at hp
    · rename_i hz
      exact .inr (.inl ⟨_, _, rfl, rfl, Nat.le_of_lt (lim6 hz), hp w H _ S (.str _) .refl⟩)
    · exact hp.elim
  · obtain ⟨a, us, rfl, ha, ra⟩ := vr_tup hx
    obtain ⟨b, vs, rfl, hb, rb⟩ := vr_tup hy
    split at hp
    · rename_i hz
      refine .inr (.inr (.inr ⟨a, b, us, vs, rfl, rfl, ha, hb, fun z => ?_, ?_, fun z => ?_, fun _ p np => ?_⟩))
      · have := ra.length
        rw [z] at this
        exact hz.1 (List.length_eq_zero_iff.mp this.symm)
      · rw [ra.length, rb.length]
        exact Nat.le_of_lt (lim6 hz.2)
      · subst z
        cases rb
        refine hp w H _ S ?_ .refl
        rw [List.append_nil]
        exact .tup ha ra
      · obtain ⟨S2, g2, v2⟩ := S.newT np (ra.app rb)
        exact hp w _ _ S2 v2 g2
    · exact hp.elim
  · cases hx with
    | loc hn =>
      cases hy with
      | loc hm =>
        split at hp
        · rename_i a b ha hb
          split at hp
          · rename_i hz
            obtain ⟨us, h1, r1⟩ := S.ok _ _ ha
            obtain ⟨vs, h2, r2⟩ := S.ok _ _ hb
            refine .inr (.inr (.inl ⟨_, _, us, vs, rfl, rfl, h1, h2, by rw [r1.length, r2.length]; exact Nat.le_of_lt (lim6 hz), fun p np => ?_⟩))
            obtain ⟨w2, S2, g2, e2⟩ := S.newL np (r1.app r2)
            exact hp w2 _ _ S2 (by rw [← e2]; exact VR.loc (Nat.lt_succ_self _)) g2
          · exact hp.elim
        · exact hp.elim
  · exact hp.elim
theorem b_mul : BinP X .Mult mulM := by
  refine ⟨_, op_mul.or op_rep, ?_⟩
  intro E w μ H x y u v Q S hx hy hp
  unfold mulM at hp
  split at hp
  · cases hx; cases hy
    split at hp
    · rename_i hz
      exact .inl ⟨_, _, rfl, rfl, hz, hp w H _ S (.int _) .refl⟩
    · exact hp.elim
  · cases hx with
    | loc hn =>
      cases hy
      split at hp
      · rename_i a ha
        split at hp
        · rename_i hz
          obtain ⟨us, h1, r1⟩ := S.ok _ _ ha
          refine .inr ⟨_, _, us, rfl, rfl, h1, by omega, by omega, ?_, fun p np => ?_⟩
          · rw [r1.length]
            refine Nat.le_trans (Nat.mul_le_mul hz.2.2 (show _ ≤ 1000 by omega)) (by decide)
          · obtain ⟨w2, S2, g2, e2⟩ := S.newL np (VRs.flat _ r1)
            exact hp w2 _ _ S2 (by rw [← e2]; exact VR.loc (Nat.lt_succ_self _)) g2
        · exact hp.elim
      · exact hp.elim
  · exact hp.elim
theorem b_mod : BinP X .Mod modM := by
  refine ⟨_, op_mod, ?_⟩
  intro E w μ H x y u v Q S hx hy hp
  unfold modM at hp
  split at hp
  · cases hx; cases hy
    split at hp
    · rename_i hz
      exact ⟨_, _, rfl, rfl, hz, hp w H _ S (.int _) .refl⟩
    · exact hp.elim
  · exact hp.elim
theorem b_fdiv : BinP X .FloorDiv fdivM := by
  refine ⟨_, op_fdiv, ?_⟩
  intro E w μ H x y u v Q S hx hy hp
  unfold fdivM at hp
  split at hp
  · cases hx; cases hy
    split at hp
    · rename_i hz
      exact ⟨_, _, rfl, rfl, hz, hp w H _ S (.int _) .refl⟩
    · exact hp.elim
  · exact hp.elim
theorem b_pow : BinP X .Pow powM := by
  refine ⟨_, op_pow, ?_⟩
  intro E w μ H x y u v Q S hx hy hp
  unfold powM at hp
  split at hp
  · cases hx; cases hy
    split at hp
    · rename_i hz
      exact ⟨_, _, rfl, rfl, hz, hp w H _ S (.int _) .refl⟩
    · exact hp.elim
  · exact hp.elim
/-! ### comparisons -/
def cmpI (f : Int → Int → Bool) : Val → Val → Mu → R Val
  | .int i, .int j, μ => .ok (.bl (f i j)) μ
  | _, _, _ => .no
def ltM (x y : Val) (μ : Mu) : R Val := cmpI (fun i j => decide (i < j)) x y μ
def leM (x y : Val) (μ : Mu) : R Val := cmpI (fun i j => decide (i ≤ j)) x y μ
def gtM (x y : Val) (μ : Mu) : R Val := cmpI (fun i j => decide (j < i)) x y μ
def geM (x y : Val) (μ : Mu) : R Val := cmpI (fun i j => decide (j ≤ i)) x y μ
theorem prim_cmpI {K : PySem.W.Frag} (f : Int → Int → Bool) : Prim2 K (rI0 fun i j => .bl (f i j)) (cmpI f) := by
  intro E w μ H x y u v Q S hx hy hp
  unfold cmpI at hp
  split at hp
  · cases hx; cases hy
    exact ⟨_, _, rfl, rfl, hp w H _ S (.bl _) .refl⟩
  · exact hp.elim
theorem c_lt : CmpP X .Lt ltM := ⟨_, op_lt, prim_cmpI _⟩
theorem c_le : CmpP X .LtE leM := ⟨_, op_le, prim_cmpI _⟩
theorem c_gt : CmpP X .Gt gtM := ⟨_, op_gt, prim_cmpI _⟩
theorem c_ge : CmpP X .GtE geM := ⟨_, op_ge, prim_cmpI _⟩
def isNon : Val → Bool
  | .non => true
  | _ => false
def isM' : Val → Val → Mu → R Val
  | x, .non, μ => .ok (.bl (isNon x)) μ
  | _, _, _ => .no
def isntM : Val → Val → Mu → R Val
  | x, .non, μ => .ok (.bl (!isNon x)) μ
  | _, _, _ => .no
theorem isNon_eq {K : PySem.W.Frag} {ad : Adr} {b : Nat} {H : Hp} {x : Val} {u : V} (h : VR K ad b H x u) : decide (u = .non) = isNon x := by
  cases h <;> rfl
theorem c_is : CmpP X .Is isM' := by
  refine ⟨_, op_isN, ?_⟩
  intro E w μ H x y u v Q S hx hy hp
  unfold isM' at hp
  split at hp
  · cases hy
    refine ⟨rfl, ?_⟩
    rw [isNon_eq hx]
    exact hp w H _ S (.bl _) .refl
  · exact hp.elim
/-! ### data -/
def allO {α : Type} : List (Option α) → Option (List α)
  | [] => some []
  | none :: _ => none
  | some a :: r => match allO r with
    | none => none
    | some l => some (a :: l)
def scaD : Val → Option PyData
  | .non => some .none
  | .bl b => some (.bool b)
  | .int i => some (.int i)
  | .str x => if PyData.strOk x = true then some (.str x) else none
  | _ => none
def seqOf (μ : Mu) (n : Nat) : Option (List Val) := match μ.ob n with
  | some (.lst vs) => some vs
  | some (.ro vs) => some vs
  | _ => none
def toD : Nat → Mu → Val → Option PyData
  | 0, _, v => scaD v
  | k + 1, μ, .tup vs => (allO (vs.map (toD k μ))).map .tuple
  | k + 1, μ, .loc n => match seqOf μ n with
    | none => none
    | some vs => (allO (vs.map (toD k μ))).map .list
  | _ + 1, _, v => scaD v
end
theorem seqOf_sq {K : PySem.W.Frag} {w : Wt} {μ : Mu} {H : Hp} (S : Sim K w μ H) {n : Nat} {vs : List Val} (h : seqOf μ n = some vs) : ∃ us, SqL K H (w.ad n) us ∧ VRs K w.ad μ.nx H vs us := by
  unfold seqOf at h
  split at h
  · rename_i vs' e
    cases h
    obtain ⟨us, h1, h2⟩ := S.ok _ _ e
    exact ⟨us, SqL.of h1, h2⟩
  · rename_i vs' e
    cases h
    obtain ⟨us, h1, h2⟩ := S.ok _ _ e
    exact ⟨us, h1.sq, h2⟩
  · cases h
theorem scaD_dp {K : PySem.W.Frag} {ad : Adr} {b : Nat} {H : Hp} {v : Val} {u : V} {d : PyData} (h : scaD v = some d) (r : VR K ad b H v u) : Dp K H u d ∧ d.canLay0 = true ∧ d.depth ≤ 1 := by
  unfold scaD at h
  split at h
  · cases h; cases r; exact ⟨.non, rfl, by simp [PyData.depth]⟩
  · cases h; cases r; exact ⟨.bl _, rfl, by simp [PyData.depth]⟩
  · cases h; cases r; exact ⟨.int _, rfl, by simp [PyData.depth]⟩
  · split at h
    · cases h; cases r
      refine ⟨.str _, ?_, by simp [PyData.depth]⟩
      rw [PyData.canLay0]
      assumption
    · cases h
  · cases h
theorem allD {K : PySem.W.Frag} {ad : Adr} {b : Nat} {H : Hp} {f : Val → Option PyData} {k : Nat} (hf : ∀ v u d, f v = some d → VR K ad b H v u → Dp K H u d ∧ d.canLay0 = true ∧ d.depth ≤ k) : ∀ {vs : List Val} {us : List V} {ds : List PyData}, allO (vs.map f) = some ds → VRs K ad b H vs us → DpAll K H us ds ∧ PyData.canLayAll0 ds = true ∧ PyData.depthAll ds ≤ k
  | [], _, ds, h, r => by
    cases r
    cases h
    exact ⟨.nil, rfl, by simp [PyData.depthAll]⟩
  | v :: vs, _, ds, h, r => by
    cases r with
    | cons r1 r2 =>
      rw [List.map_cons] at h
      cases e : f v with
      | none => rw [e, allO] at h; cases h
      | some d =>
        rw [e, allO] at h
        split at h
        · cases h
        · rename_i l hl
          cases h
          obtain ⟨a1, a2, a3⟩ := hf _ _ _ e r1
          obtain ⟨b1, b2, b3⟩ := allD hf hl r2
          refine ⟨.cons a1 b1, ?_, ?_⟩
          · rw [PyData.canLayAll0, a2, b2]
            rfl
          · rw [PyData.depthAll]
            omega
theorem toD_dp {K : PySem.W.Frag} {w : Wt} {μ : Mu} {H : Hp} (S : Sim K w μ H) : ∀ (k : Nat) (v : Val) (u : V) (d : PyData), toD k μ v = some d → VR K w.ad μ.nx H v u → Dp K H u d ∧ d.canLay0 = true ∧ d.depth ≤ k + 1
  | 0, v, u, d, h, r => scaD_dp h r
  | k + 1, .tup vs, u, d, h, r => by
    rw [toD] at h
    obtain ⟨ds, h1, h2⟩ := Option.map_eq_some_iff.mp h
    subst h2
    obtain ⟨a, us, rfl, ha, ra⟩ := vr_tup r
    obtain ⟨b1, b2, b3⟩ := allD (fun v u d => toD_dp S k v u d) h1 ra
    refine ⟨.tup ha b1, by rw [PyData.canLay0]; exact b2, ?_⟩
    rw [PyData.depth]
    omega
  | k + 1, .loc n, u, d, h, r => by
    rw [toD] at h
    split at h
    · cases h
    · rename_i vs e
      obtain ⟨ds, h1, h2⟩ := Option.map_eq_some_iff.mp h
      subst h2
      obtain ⟨us, ha, ra⟩ := seqOf_sq S e
      obtain ⟨b1, b2, b3⟩ := allD (fun v u d => toD_dp S k v u d) h1 ra
      cases r
      refine ⟨.lst ha b1, by rw [PyData.canLay0]; exact b2, ?_⟩
      rw [PyData.depth]
      omega
  | k + 1, .non, u, d, h, r => by have := scaD_dp h r; exact ⟨this.1, this.2.1, by omega⟩
  | k + 1, .bl _, u, d, h, r => by have := scaD_dp h r; exact ⟨this.1, this.2.1, by omega⟩
  | k + 1, .int _, u, d, h, r => by have := scaD_dp h r; exact ⟨this.1, this.2.1, by omega⟩
  | k + 1, .str _, u, d, h, r => by have := scaD_dp h r; exact ⟨this.1, this.2.1, by omega⟩
def datM (μ : Mu) (v : Val) : Option PyData := toD 8 μ v
theorem datM_dp {K : PySem.W.Frag} {w : Wt} {μ : Mu} {H : Hp} (S : Sim K w μ H) {v : Val} {u : V} {d : PyData} (h : datM μ v = some d) (r : VR K w.ad μ.nx H v u) : Dp K H u d ∧ SeqAt.shaped d = true := by
  obtain ⟨h1, h2, h3⟩ := toD_dp S 8 v u d h r
  exact ⟨h1, Bool.and_eq_true_iff.mpr ⟨h2, decide_eq_true (by omega)⟩⟩
def eqM (x y : Val) (μ : Mu) : R Val := match datM μ x, datM μ y with
  | some d, some e => .ok (.bl (PyData.eqv d e)) μ
  | _, _ => .no
def neM (x y : Val) (μ : Mu) : R Val := match datM μ x, datM μ y with
  | some d, some e => .ok (.bl (!PyData.eqv d e)) μ
  | _, _ => .no
def keyOf : Val → Option Key
  | .int i => some (.inl i)
  | .str x => some (.inr x)
  | _ => none
def kGet (kvs : List (Key × Val)) (k : Key) : Option Val := (kvs.find? fun p => decide (p.1 = k)).map (·.2)
def kPut (kvs : List (Key × Val)) (k : Key) (v : Val) : List (Key × Val) := if (kvs.any fun p => decide (p.1 = k)) then kvs.map fun p => if p.1 = k then (p.1, v) else p else kvs ++ [(k, v)]
def kDrop (kvs : List (Key × Val)) (k : Key) : List (Key × Val) := kvs.filter fun p => decide (p.1 ≠ k)
def dctOf (μ : Mu) (n : Nat) : Option (List (Key × Val)) := match μ.ob n with
  | some (.dct kvs) => some kvs
  | some (.rod kvs) => some kvs
  | _ => none
theorem dctOf_rd {K : PySem.W.Frag} {w : Wt} {μ : Mu} {H : Hp} {n : Nat} {kvs : List (Key × Val)} (S : Sim K w μ H) (h : dctOf μ n = some kvs) : ∃ us : List (Key × V), Rd H (w.ad n) (.dK us) ∧ us.map (·.1) = kvs.map (·.1) ∧ VRs K w.ad μ.nx H (kvs.map (·.2)) (us.map (·.2)) := by
  unfold dctOf at h
  split at h
  · rename_i kvs' e
    cases h
    obtain ⟨us, q1, q2, q3⟩ := S.ok _ _ e
    exact ⟨us, .inl q1, q2, q3⟩
  · rename_i kvs' e
    cases h
    obtain ⟨_, o, us, q1, q2, q3⟩ := S.ok _ _ e
    exact ⟨us, .inr ⟨o, q1⟩, q2, q3⟩
  · cases h
/-- x in y -/
def hasM (x y : Val) (μ : Mu) : Option Bool := match y with
  | .loc n => match μ.ob n with
    | some (.lst vs) => match datM μ x, allO (vs.map (datM μ)) with
      | some d, some ds => some (ds.any fun z => PyData.eqv z d)
      | _, _ => none
    | some (.dct kvs) => match keyOf x with
      | some k => some (kGet kvs k).isSome
      | none => none
    | some (.rod kvs) => match keyOf x with
      | some k => some (kGet kvs k).isSome
      | none => none
    | _ => none
  | _ => none
def inM (x y : Val) (μ : Mu) : R Val := match hasM x y μ with
  | some b => .ok (.bl b) μ
  | none => .no
def ninM (x y : Val) (μ : Mu) : R Val := match hasM x y μ with
  | some b => .ok (.bl (!b)) μ
  | none => .no
section
variable {X : Cx}
theorem c_eq (hu : X.A.units + 64 < cLine) : CmpP X .Eq eqM := by
  refine ⟨_, op_eqD hu, ?_⟩
  intro E w μ H x y u v Q S hx hy hp
  unfold eqM at hp
  split at hp
  · rename_i d e h1 h2
    obtain ⟨a1, a2⟩ := datM_dp S h1 hx
    obtain ⟨b1, b2⟩ := datM_dp S h2 hy
    exact ⟨d, e, a1, b1, a2, b2, hp w H _ S (.bl _) .refl⟩
  · exact hp.elim
theorem c_ne (hu : X.A.units + 64 < cLine) : CmpP X .NotEq neM := by
  refine ⟨_, op_neD hu, ?_⟩
  intro E w μ H x y u v Q S hx hy hp
  unfold neM at hp
  split at hp
  · rename_i d e h1 h2
    obtain ⟨a1, a2⟩ := datM_dp S h1 hx
    obtain ⟨b1, b2⟩ := datM_dp S h2 hy
    exact ⟨d, e, a1, b1, a2, b2, hp w H _ S (.bl _) .refl⟩
  · exact hp.elim
end
section
variable {K : PySem.W.Frag} {ad : Adr} {b : Nat} {H : Hp}
theorem kGet_pos {p : Key × Val} {l : List (Key × Val)} {k : Key} (h : p.1 = k) : kGet (p :: l) k = some p.2 := by simp [kGet, List.find?_cons, h]
theorem kGet_neg {p : Key × Val} {l : List (Key × Val)} {k : Key} (h : ¬ p.1 = k) : kGet (p :: l) k = kGet l k := by simp [kGet, List.find?_cons, h]
theorem kGet_rel {k : Key} : ∀ {kvs : List (Key × Val)} {us : List (Key × V)}, us.map (·.1) = kvs.map (·.1) → VRs K ad b H (kvs.map (·.2)) (us.map (·.2)) → (∃ v u, kGet kvs k = some v ∧ valV us k = some u ∧ VR K ad b H v u) ∨ (kGet kvs k = none ∧ valV us k = none)
  | [], [], _, _ => .inr ⟨rfl, rfl⟩
  | p :: kvs, q :: us, h, r => by
    simp only [List.map_cons, List.cons.injEq] at h
    cases r with
    | cons r1 r2 =>
      by_cases c : p.1 = k
      · exact .inl ⟨p.2, q.2, kGet_pos c, valV_pos (h.1.trans c), r1⟩
      · rw [kGet_neg c, valV_neg (fun z => c (h.1.symm.trans z))]
        exact kGet_rel h.2 r2
  | [], _ :: _, h, _ => by simp at h
  | _ :: _, [], h, _ => by simp at h
theorem keyOf_kV {v : Val} {u : V} {k : Key} (h : keyOf v = some k) (r : VR K ad b H v u) : u = kV k := by
  unfold keyOf at h
  split at h
  · cases h; cases r; rfl
  · cases h; cases r; rfl
  · cases h
end
section
variable {X : Cx}
theorem op_in_d (hu : X.A.units + 1 < cLine) : OpR X (compareOp .In) (fun x y H Q => ∃ a o, y = .ref a ∧ DGet H a x o ∧ Q (.bl o.isSome) H) := by
  intro pins s σ H x y v u Q I rx ry h
  obtain ⟨a, o, rfl, g, q⟩ := h
  cases ry
  exact d_in hu I g rx fun s' I' => ⟨.bl _, H, I', rfl, q⟩
theorem op_notIn_d (hu : X.A.units + 1 < cLine) : OpR X (compareOp .NotIn) (fun x y H Q => ∃ a o, y = .ref a ∧ DGet H a x o ∧ Q (.bl (!o.isSome)) H) := by
  intro pins s σ H x y v u Q I rx ry h
  obtain ⟨a, o, rfl, g, q⟩ := h
  cases ry
  exact d_notIn hu I g rx fun s' I' => ⟨.bl _, H, I', rfl, q⟩
theorem has_ok {K : PySem.W.Frag} {w : Wt} {μ : Mu} {H : Hp} {x y : Val} {u v : V} {b : Bool} (S : Sim K w μ H) (hx : VR K w.ad μ.nx H x u) (hy : VR K w.ad μ.nx H y v) (h : hasM x y μ = some b) : (∃ d ds, Dp K H u d ∧ Dp K H v (.list ds) ∧ SeqAt.shaped d = true ∧ SeqAt.shaped (.list ds) = true ∧ b = ds.any fun z => PyData.eqv z d) ∨ ∃ a o, v = .ref a ∧ DGet H a u o ∧ b = o.isSome := by
  unfold hasM at h
  split at h
  · rename_i n
    cases hy with
    | loc hn =>
      split at h
      · rename_i vs e
        split at h
        · rename_i d ds h1 h2
          cases h
          obtain ⟨a1, a2⟩ := datM_dp S h1 hx
          obtain ⟨us, q1, q2⟩ := S.ok _ _ e
          obtain ⟨b1, b2, b3⟩ := allD (fun v u d => toD_dp S 8 v u d) h2 q2
          refine .inl ⟨d, ds, a1, .lst (SqL.of q1) b1, a2, Bool.and_eq_true_iff.mpr ⟨by rw [PyData.canLay0]; exact b2, decide_eq_true ?_⟩, rfl⟩
          rw [PyData.depth]
          omega
        · cases h
      · rename_i kvs e
        split at h
        · rename_i k hk
          cases h
          obtain ⟨us, q1, q2, q3⟩ := S.ok _ _ e
          rw [keyOf_kV hk hx]
          refine .inr ⟨_, _, rfl, DGet.k q1, ?_⟩
          rcases kGet_rel (k := k) q2 q3 with ⟨v, u, e1, e2, _⟩ | ⟨e1, e2⟩
          · rw [e1, e2]; rfl
          · rw [e1, e2]; rfl
        · cases h
      · rename_i kvs e
        split at h
        · rename_i k hk
          cases h
          obtain ⟨us, q1, q2, q3⟩ := dctOf_rd S (show dctOf μ n = some kvs by unfold dctOf; rw [e])
          rw [keyOf_kV hk hx]
          refine .inr ⟨_, _, rfl, .inl ⟨us, k, q1, rfl, rfl⟩, ?_⟩
          rcases kGet_rel (k := k) q2 q3 with ⟨v, u, e1, e2, _⟩ | ⟨e1, e2⟩
          · rw [e1, e2]; rfl
          · rw [e1, e2]; rfl
        · cases h
      · cases h
  · cases h
theorem c_in (hu : X.A.units + 65 < cLine) : CmpP X .In inM := by
  refine ⟨_, (op_inD hu).or (op_in_d (by omega)), ?_⟩
  intro E w μ H x y u v Q S hx hy hp
  unfold inM at hp
  split at hp
  · rename_i b hb
    rcases has_ok S hx hy hb with ⟨d, ds, a1, a2, a3, a4, rfl⟩ | ⟨a, o, rfl, g, rfl⟩
    · exact .inl ⟨d, ds, a1, a2, a3, a4, hp w H _ S (.bl _) .refl⟩
    · exact .inr ⟨a, o, rfl, g, hp w H _ S (.bl _) .refl⟩
  · exact hp.elim
theorem c_notIn (hu : X.A.units + 65 < cLine) : CmpP X .NotIn ninM := by
  refine ⟨_, (op_notInD hu).or (op_notIn_d (by omega)), ?_⟩
  intro E w μ H x y u v Q S hx hy hp
  unfold ninM at hp
  split at hp
  · rename_i b hb
    rcases has_ok S hx hy hb with ⟨d, ds, a1, a2, a3, a4, rfl⟩ | ⟨a, o, rfl, g, rfl⟩
    · exact .inl ⟨d, ds, a1, a2, a3, a4, hp w H _ S (.bl _) .refl⟩
    · exact .inr ⟨a, o, rfl, g, hp w H _ S (.bl _) .refl⟩
  · exact hp.elim
end
end Wn
/-! the law's level: subscripts, calls of builtins, statements, loops, defs -/
namespace Wn
open PySem PySem.Spec PyProof.Rows L2 LamX He

/-! ### subscripts -/
section
variable {K : PySem.W.Frag} {ad : Adr} {b : Nat} {H : Hp}
theorem atI_rel {vs : List Val} {us : List V} {i : Int} {v : Val} (r : VRs K ad b H vs us) (h : atI vs i = some v) : ∃ u, atI us i = some u ∧ VR K ad b H v u := by
  unfold atI at h ⊢
  rw [r.length]
  cases e : ixN vs.length i with
  | none => rw [e] at h; cases h
  | some j =>
    rw [e] at h
    exact r.get j v h
end
def getM : Val → Val → Mu → R Val
  | .tup vs, .int i, μ => match atI vs i with
    | some v => .ok v μ
    | none => .no
  | .loc n, .int i, μ => match seqOf μ n with
    | some vs => match atI vs i with
      | some v => .ok v μ
      | none => .no
    | none => .no
  | _, _, _ => .no
def dgetM : Val → Val → Mu → R Val
  | .loc n, y, μ => match dctOf μ n, keyOf y with
    | some kvs, some k => match kGet kvs k with
      | some v => .ok v μ
      | none => .no
    | _, _ => .no
  | _, _, _ => .no
def cutG {α : Type} (xs : List α) (lo hi : Option Int) : List α := (xs.drop (HT.sIx xs.length 0 lo)).take (HT.sIx xs.length xs.length hi - HT.sIx xs.length 0 lo)
abbrev MO := Rho → Mu → R (Option Int)
def mP0 : MO := fun _ μ => .ok none μ
def mP (m : ME) : MO := fun ρ μ => (m ρ μ).bind fun x μ => match x with
  | .int i => .ok (some i) μ
  | _ => .no
def slM (x : Val) (lo hi : Option Int) (μ : Mu) : R Val := match x with
  | .tup vs => if HT.sIx vs.length 0 lo = 0 ∧ HT.sIx vs.length vs.length hi = vs.length then .no else .ok (.tup (cutG vs lo hi)) μ
  | .loc n => match seqOf μ n with
    | some vs => .ok (.loc μ.nx) (μ.new (.lst (cutG vs lo hi)))
    | none => .no
  | _ => .no
def mSl (e : ME) (lo hi : MO) : ME := fun ρ μ => (e ρ μ).bind fun x μ => (lo ρ μ).bind fun l μ => (hi ρ μ).bind fun h μ => slM x l h μ
def relO : Rel (Option Int) (Option Int) := fun _ _ _ v u => v = u
def PMO (X : Cx) (E : XK) (o : Option Expr) (m : MO) : Prop := PO X o (tM X.K relO E m)
theorem cut_rel {K : PySem.W.Frag} {ad : Adr} {b : Nat} {H : Hp} {vs : List Val} {us : List V} (lo hi : Option Int) (r : VRs K ad b H vs us) : VRs K ad b H (cutG vs lo hi) (cutV us lo hi) := by
  unfold cutG cutV
  rw [r.length]
  exact (r.drop _).take _
section
variable {X : Cx} {E : XK} {e a b o : Expr} {es : List Expr} {ma mb me mo : ME} {mr : MA} {pos apos cpos : Pos}
theorem pm_ix (ha : PM X E a ma) (hb : PM X E b mb) (hs : PlainIx b := by exact fun _ _ => rfl) : PM X E (.Subscript a b pos) (mOp getM ma mb) :=
  PE.imp (pe_ix (ix_list.or ix_tup) ha hb hs) fun σ H Q ⟨w, ρ, μ, S, EN, hp⟩ => ⟨w, ρ, μ, S, EN, Post.bind hp fun x μ1 w1 H1 u1 S1 r1 g1 h1 => ⟨w1, ρ, μ1, S1, EN.grow g1, Post.bind h1 fun y μ2 w2 H2 u2 S2 r2 g2 h2 => by
    have r1 := VR.grow g2 r1
    unfold getM at h2
    split at h2
    · cases r2
      obtain ⟨p, us, rfl, hq, rq⟩ := vr_tup r1
      split at h2
      · rename_i v hv
        obtain ⟨u, e1, e2⟩ := atI_rel rq hv
        exact .inr ⟨p, us, _, u, rfl, rfl, hq, e1, h2 w2 H2 u S2 e2 .refl⟩
      · exact h2.elim
    · cases r2
      cases r1
      split at h2
      · rename_i vs hs
        obtain ⟨us, hq, rq⟩ := seqOf_sq S2 hs
        split at h2
        · rename_i v hv
          obtain ⟨u, e1, e2⟩ := atI_rel rq hv
          exact .inl ⟨_, us, _, u, rfl, rfl, hq, e1, h2 w2 H2 u S2 e2 .refl⟩
        · exact h2.elim
      · exact h2.elim
    · exact h2.elim⟩⟩
theorem pmo_none : PMO X E none mP0 := ⟨fun pins s σ H Q I ⟨w, ρ, μ, S, EN, hp⟩ => po_none.run pins s σ H Q I (hp w H none S rfl .refl)⟩
theorem pmo_some (h : PM X E e me) : PMO X E (some e) (mP me) := ⟨fun pins s σ H Q I ⟨w, ρ, μ, S, EN, hp⟩ => (po_some h).run pins s σ H Q I ⟨w, ρ, μ, S, EN, Post.bind hp fun x μ1 w1 H1 u1 S1 r1 g1 h1 => by
  cases x with
  | int i =>
    cases r1
    exact ⟨i, rfl, h1 w1 H1 _ S1 rfl .refl⟩
  | _ => exact h1.elim⟩⟩
theorem pm_slice {lo hi : Option Expr} {ml mh : MO} {p2 : Pos} (he : PM X E e me) (hl : PMO X E lo ml) (hh : PMO X E hi mh) : PM X E (.Subscript e (.Slice lo hi none p2) pos) (mSl me ml mh) :=
  PE.imp (pe_slice (sl_list.or sl_tup) he hl hh) fun σ H Q ⟨w, ρ, μ, S, EN, hp⟩ => ⟨w, ρ, μ, S, EN, Post.bind hp fun x μ1 w1 H1 u1 S1 r1 g1 h1 => ⟨w1, ρ, μ1, S1, EN.grow g1, Post.bind h1 fun l μ2 w2 H2 u2 S2 r2 g2 h2 => ⟨w2, ρ, μ2, S2, (EN.grow g1).grow g2, Post.bind h2 fun h μ3 w3 H3 u3 S3 r3 g3 h3 => by
    cases r2; cases r3
    have r1 := VR.grow g3 (VR.grow g2 r1)
    unfold slM at h3
    split at h3
    · obtain ⟨p, us, rfl, hq, rq⟩ := vr_tup r1
      split at h3
      · exact h3.elim
      · rename_i hc
        refine .inr ⟨p, us, rfl, hq, by rw [rq.length]; exact hc, fun q nq => ?_⟩
        obtain ⟨S4, g4, v4⟩ := S3.newT nq (cut_rel l h rq)
        exact h3 w3 _ _ S4 v4 g4
    · cases r1
      split at h3
      · rename_i vs hs
        obtain ⟨us, hq, rq⟩ := seqOf_sq S3 hs
        refine .inl ⟨_, us, rfl, hq, fun q nq => ?_⟩
        obtain ⟨w4, S4, g4, e4⟩ := S3.newL nq (cut_rel l h rq)
        exact h3 w4 _ _ S4 (by rw [← e4]; exact VR.loc (Nat.lt_succ_self _)) g4
      · exact h3.elim
    · exact h3.elim⟩⟩⟩
end
/-! ### builtins -/
def lenM : List Val → Mu → R Val
  | [.tup vs], μ => .ok (.int vs.length) μ
  | [.str x], μ => if x.length ≤ 1000000 then .ok (.int x.length) μ else .no
  | [.loc n], μ => match seqOf μ n with
    | some vs => .ok (.int vs.length) μ
    | none => .no
  | _, _ => .no
def listM : List Val → Mu → R Val
  | [.tup vs], μ => .ok (.loc μ.nx) (μ.new (.lst vs))
  | [.loc n], μ => match seqOf μ n with
    | some vs => .ok (.loc μ.nx) (μ.new (.lst vs))
    | none => .no
  | _, _ => .no
def tupleM : List Val → Mu → R Val
  | [.tup vs], μ => .ok (.tup vs) μ
  | [.loc n], μ => match seqOf μ n with
    | some vs => .ok (.tup vs) μ
    | none => .no
  | _, _ => .no
def minM : List Val → Mu → R Val
  | [.int i, .int j], μ => .ok (.int (if j < i then j else i)) μ
  | _, _ => .no
def maxM : List Val → Mu → R Val
  | [.int i, .int j], μ => .ok (.int (if j > i then j else i)) μ
  | _, _ => .no
def absM : List Val → Mu → R Val
  | [.int i], μ => .ok (.int (if i < 0 then -i else i)) μ
  | _, _ => .no
def intM : List Val → Mu → R Val
  | [.int i], μ => .ok (.int i) μ
  | _, _ => .no
def intsOf : List Val → Option (List Int)
  | [] => some []
  | .int i :: r => match intsOf r with
    | some l => some (i :: l)
    | none => none
  | _ :: _ => none
def sortedM : List Val → Mu → R Val
  | [.loc n], μ => match seqOf μ n with
    | some vs => match intsOf vs with
      | some l => .ok (.loc μ.nx) (μ.new (.lst ((srtI l).map Val.int)))
      | none => .no
    | none => .no
  | _, _ => .no
section
variable {X : Cx} {K : PySem.W.Frag}
theorem p_len : PrimA K (fun xs H Q => ∃ x n, xs = [x] ∧ LenV K x H n ∧ Q (.int n) H) lenM := by
  intro E w μ H xs us Q S r hp
  unfold lenM at hp
  split at hp
  · cases r with
    | cons r1 r2 =>
      cases r2
      obtain ⟨a, vs, rfl, hq, rq⟩ := vr_tup r1
      exact ⟨_, _, rfl, .inr ⟨vs, hq, rfl⟩, by rw [rq.length]; exact hp w H _ S (.int _) .refl⟩
  · cases r with
    | cons r1 r2 =>
      cases r2
      cases r1
      split at hp
      · rename_i hz
        exact ⟨_, _, rfl, ⟨Nat.le_of_lt (lim6 hz), rfl⟩, hp w H _ S (.int _) .refl⟩
      · exact hp.elim
  · cases r with
    | cons r1 r2 =>
      cases r2
      cases r1
      split at hp
      · rename_i vs hs
        obtain ⟨us, hq, rq⟩ := seqOf_sq S hs
        exact ⟨_, _, rfl, .inl ⟨us, hq, rfl⟩, by rw [rq.length]; exact hp w H _ S (.int _) .refl⟩
      · exact hp.elim
  · exact hp.elim
theorem p_min : PrimA K (fun xs H Q => ∃ i j, xs = [.int i, .int j] ∧ Q (.int (if j < i then j else i)) H) minM := by
  intro E w μ H xs us Q S r hp
  unfold minM at hp
  split at hp
  · cases r with
    | cons r1 r2 =>
      cases r2 with
      | cons r3 r4 =>
        cases r4; cases r1; cases r3
        exact ⟨_, _, rfl, hp w H _ S (.int _) .refl⟩
  · exact hp.elim
theorem p_max : PrimA K (fun xs H Q => ∃ i j, xs = [.int i, .int j] ∧ Q (.int (if j > i then j else i)) H) maxM := by
  intro E w μ H xs us Q S r hp
  unfold maxM at hp
  split at hp
  · cases r with
    | cons r1 r2 =>
      cases r2 with
      | cons r3 r4 =>
        cases r4; cases r1; cases r3
        exact ⟨_, _, rfl, hp w H _ S (.int _) .refl⟩
  · exact hp.elim
theorem p_abs : PrimA K (fun xs H Q => ∃ i, xs = [.int i] ∧ Q (.int (if i < 0 then -i else i)) H) absM := by
  intro E w μ H xs us Q S r hp
  unfold absM at hp
  split at hp
  · cases r with
    | cons r1 r2 =>
      cases r2; cases r1
      exact ⟨_, rfl, hp w H _ S (.int _) .refl⟩
  · exact hp.elim
theorem p_int : PrimA K (fun xs H Q => (∃ i, xs = [.int i] ∧ Q (.int i) H) ∨ ∃ k, xs = [.bl k] ∧ Q (.int (if k then 1 else 0)) H) intM := by
  intro E w μ H xs us Q S r hp
  unfold intM at hp
  split at hp
  · cases r with
    | cons r1 r2 =>
      cases r2; cases r1
      exact .inl ⟨_, rfl, hp w H _ S (.int _) .refl⟩
  · exact hp.elim
end
/-! ### methods of lists -/
def lstOf (x : Val) (μ : Mu) : Option (Nat × List Val) := match x with
  | .loc n => match μ.ob n with
    | some (.lst vs) => some (n, vs)
    | _ => none
  | _ => none
def mBm (f : Val → List Val → Mu → R Val) (o : ME) (a : MA) : ME := fun ρ μ => (o ρ μ).bind fun x μ => match lstOf x μ with
  | none => .no
  | some _ => (a ρ μ).bind fun xs μ => f x xs μ
def appM (x : Val) (xs : List Val) (μ : Mu) : R Val := match lstOf x μ, xs with
  | some (n, vs), [v] => if vs.length ≤ 1000000 then .ok .non (μ.put n (.lst (vs ++ [v]))) else .no
  | _, _ => .no
def popM (x : Val) (xs : List Val) (μ : Mu) : R Val := match lstOf x μ, xs with
  | some (n, vs), [.int i] => if vs.length ≤ 1000000 then match ixN vs.length i with
    | some k => match vs[k]? with
      | some v => .ok v (μ.put n (.lst (vs.eraseIdx k)))
      | none => .no
    | none => .no
    else .no
  | _, _ => .no
def extM (x : Val) (xs : List Val) (μ : Mu) : R Val := match lstOf x μ, xs with
  | some (n, vs), [y] => match lstOf y μ with
    | some (_, zs) => if vs.length + zs.length ≤ 1000000 then .ok .non (μ.put n (.lst (vs ++ zs))) else .no
    | none => .no
  | _, _ => .no
theorem lstOf_eq {x : Val} {μ : Mu} {n : Nat} {vs : List Val} (h : lstOf x μ = some (n, vs)) : x = .loc n ∧ μ.ob n = some (.lst vs) := by
  unfold lstOf at h
  split at h
  · split at h
    · rename_i e
      cases h
      exact ⟨rfl, e⟩
    · cases h
  · cases h
section
variable {X : Cx} {E : XK} {e o : Expr} {es : List Expr} {mo : ME} {mr : MA} {apos cpos : Pos} {name : Str} {id : String} {r : V → List V → Hp → VK → Prop} {f : Val → List Val → Mu → R Val}
def PrimM (K : PySem.W.Frag) (r : V → List V → Hp → VK → Prop) (f : Val → List Val → Mu → R Val) : Prop := ∀ (E : XK) (w : Wt) (μ : Mu) (H : Hp) (x : Val) (u : V) (xs : List Val) (us : List V) (Q : VK), Sim K w μ H → VR K w.ad μ.nx H x u → VRs K w.ad μ.nx H xs us → Post K (relE K) E w μ.nx H Q (f x xs μ) → r u us H Q
theorem pm_bmL (slot : Slot "list" name id) (hty : typeOf (.builtin id) = pure (.type "method_descriptor")) (hm : MtR X id r) (hf : PrimM X.K r f) (ho : PM X E o mo) (ha : PMA X E (e :: es) mr)
    (hbase : attributeBase o name X.env (eval o X.env) = eval o X.env := by rfl)
    (hfew : ((backTo cpos (starEach (e :: es) X.env)).all (fun x => !x.1) && (backToKw cpos (keywordEach [] X.env)).all (fun x => x.1.isSome)
      && decide ((e :: es).length + ([] : List Keyword).length + (if ([] : List Keyword).isEmpty then 0 else 1) < 30)) = true := by rfl)
    (hline : (apos.endLine == cpos.line) = true := by rfl) (hs : starEach (e :: es) X.env = (false, eval e X.env) :: starEach es X.env := by rfl) (hplain : (backTo cpos (starEach es X.env)).any (·.1) = false := by rfl) :
    PM X E (.Call (.Attribute o name apos) (e :: es) [] cpos) (mBm f mo mr) :=
  PE.imp (pe_bm PySem.F.plainAttrs_list slot hty hm ho ha hbase hfew hline hs hplain) fun σ H Q ⟨w, ρ, μ, S, EN, hp⟩ => ⟨w, ρ, μ, S, EN, Post.bind hp fun x μ1 w1 H1 u1 S1 r1 g1 h1 => by
    split at h1
    · exact h1.elim
    · rename_i p hl
      obtain ⟨rfl, hob⟩ := lstOf_eq (n := p.1) (vs := p.2) hl
      obtain ⟨us, q1, q2⟩ := S1.ok _ _ hob
      have tyv : tyV X.K "list" u1 H1 := by
        cases r1
        exact .inl ⟨rfl, us, SqL.of q1⟩
      exact ⟨tyv, w1, ρ, μ1, S1, EN.grow g1, Post.bind h1 fun xs μ2 w2 H2 u2 S2 r2 g2 h2 => hf E w2 μ2 H2 _ u1 xs u2 Q S2 (VR.grow g2 r1) r2 h2⟩⟩
theorem p_append {K : PySem.W.Frag} : PrimM K rAppend appM := by
  intro E w μ H x u xs us Q S hx hr hp
  unfold appM at hp
  split at hp
  · rename_i n vs v hl
    obtain ⟨rfl, hob⟩ := lstOf_eq hl
    split at hp
    · rename_i hz
      cases hx
      cases hr with
      | cons r1 r2 =>
        cases r2
        obtain ⟨us, q1, q2⟩ := S.ok _ _ hob
        refine ⟨_, us, _, rfl, rfl, q1, by rw [q2.length]; exact lim6 hz, ?_⟩
        obtain ⟨S2, g2⟩ := S.setL hob (q2.app (VRs.one r1))
        exact hp w _ _ S2 .non g2
    · exact hp.elim
  · exact hp.elim
end
end Wn
/-! the law's level: statements, loops, defs -/
namespace Wn
open PySem PySem.Spec PyProof.Rows L2 LamX He

inductive Fl where
  | nx (ρ : Rho) | rt (v : Val) | bk (ρ : Rho) | ct (ρ : Rho)
abbrev MS := Rho → Mu → R Fl
def PostS (K : PySem.W.Frag) (E : XK) (w : Wt) (b : Nat) (H : Hp) (D : Ends) : R Fl → Prop
  | .ok (.nx ρ') μ' => ∀ w' H' σ', Sim K w' μ' H' → EnvR K w' μ'.nx H' ρ' σ' → Grow K w b H w' μ'.nx H' → D.nx σ' H'
  | .ok (.rt v) μ' => ∀ w' H' u, Sim K w' μ' H' → VR K w'.ad μ'.nx H' v u → Grow K w b H w' μ'.nx H' → D.rt u H'
  | .ok (.bk ρ') μ' => ∀ w' H' σ', Sim K w' μ' H' → EnvR K w' μ'.nx H' ρ' σ' → Grow K w b H w' μ'.nx H' → D.bk σ' H'
  | .ok (.ct ρ') μ' => ∀ w' H' σ', Sim K w' μ' H' → EnvR K w' μ'.nx H' ρ' σ' → Grow K w b H w' μ'.nx H' → D.ct σ' H'
  | .er c fs μ' => ∀ w' H' d us, Sim K w' μ' H' → Grow K w b H w' μ'.nx H' → H' d = some (.xd us) → us.map (·.1) = fs.map (·.1) → VRs K w'.ad μ'.nx H' (fs.map (·.2)) (us.map (·.2)) → E (.ref (ga K c)) (some d) H'
  | .no => False
section
variable {K : PySem.W.Frag} {E : XK}
theorem PostS.grow {w w1 : Wt} {b b1 : Nat} {H H1 : Hp} {D : Ends} {r : R Fl} (h : PostS K E w b H D r) (g : Grow K w b H w1 b1 H1) : PostS K E w1 b1 H1 D r := by
  cases r with
  | ok a μ =>
    cases a with
    | nx ρ => exact fun w' H' σ' S r g' => h w' H' σ' S r (g.trans g')
    | rt v => exact fun w' H' σ' S r g' => h w' H' σ' S r (g.trans g')
    | bk ρ => exact fun w' H' σ' S r g' => h w' H' σ' S r (g.trans g')
    | ct ρ => exact fun w' H' σ' S r g' => h w' H' σ' S r (g.trans g')
  | er c fs μ => exact fun w' H' d us S g' => h w' H' d us S (g.trans g')
  | no => exact h
/-- an expression first -/
theorem PostS.bind {α β : Type} {rel : Rel α β} {w : Wt} {b : Nat} {H : Hp} {D : Ends} {Q1 : β → Hp → Prop} {r : R α} {k : α → Mu → R Fl} (h : PostS K E w b H D (r.bind k))
    (f : ∀ a μ1 w1 H1 u1, Sim K w1 μ1 H1 → rel w1 μ1.nx H1 a u1 → Grow K w b H w1 μ1.nx H1 → PostS K E w1 μ1.nx H1 D (k a μ1) → Q1 u1 H1) : Post K rel E w b H Q1 r := by
  cases r with
  | ok a μ1 => exact fun w1 H1 u1 S r g => f a μ1 w1 H1 u1 S r g (PostS.grow h g)
  | er c fs μ => exact h
  | no => exact h.elim
end
def tS (K : PySem.W.Frag) (E : XK) (m : MS) : TS := fun D σ H => ∃ w ρ μ, Sim K w μ H ∧ EnvR K w μ.nx H ρ σ ∧ PostS K E w μ.nx H D (m ρ μ)
def PMS (X : Cx) (E : XK) (st : Stmt) (m : MS) : Prop := PS X st (tS X.K E m)
def PMSs (X : Cx) (E : XK) (st : List Stmt) (m : MS) : Prop := PSs X st (tS X.K E m)
theorem PS.imp {X : Cx} {st : Stmt} {t t0 : TS} (h : PS X st t) (i : ∀ D σ H, t0 D σ H → t D σ H) : PS X st t0 := ⟨fun pins s σ H D I hw => h.run pins s σ H D I (i D σ H hw)⟩
theorem PSs.imp {X : Cx} {st : List Stmt} {t t0 : TS} (h : PSs X st t) (i : ∀ D σ H, t0 D σ H → t D σ H) : PSs X st t0 := ⟨fun pins s σ H D I hw => h.run pins s σ H D I (i D σ H hw)⟩

/-! ### the words -/
def sNil : MS := fun ρ μ => .ok (.nx ρ) μ
def sThen (r : R Fl) (k : Rho → Mu → R Fl) : R Fl := match r with
  | .ok (.nx ρ) μ => k ρ μ
  | r => r
@[simp] theorem sThen_nx (ρ : Rho) (μ : Mu) (k : Rho → Mu → R Fl) : sThen (.ok (.nx ρ) μ) k = k ρ μ := rfl
@[simp] theorem sThen_rt (v : Val) (μ : Mu) (k : Rho → Mu → R Fl) : sThen (.ok (.rt v) μ) k = .ok (.rt v) μ := rfl
@[simp] theorem sThen_bk (v : Rho) (μ : Mu) (k : Rho → Mu → R Fl) : sThen (.ok (.bk v) μ) k = .ok (.bk v) μ := rfl
@[simp] theorem sThen_ct (v : Rho) (μ : Mu) (k : Rho → Mu → R Fl) : sThen (.ok (.ct v) μ) k = .ok (.ct v) μ := rfl
def sSeq (a b : MS) : MS := fun ρ μ => sThen (a ρ μ) b
def sSet (i : Nat) (m : ME) : MS := fun ρ μ => (m ρ μ).bind fun v μ => .ok (.nx (ρ.set i (some v))) μ
def sExpr (m : ME) : MS := fun ρ μ => (m ρ μ).bind fun _ μ => .ok (.nx ρ) μ
def sRet (m : ME) : MS := fun ρ μ => (m ρ μ).bind fun v μ => .ok (.rt v) μ
def sRetN : MS := fun _ μ => .ok (.rt .non) μ
def sIf (c : MT) (a b : MS) : MS := fun ρ μ => (c ρ μ).bind fun k μ => if k = true then a ρ μ else b ρ μ
def sBrk : MS := fun ρ μ => .ok (.bk ρ) μ
def sCnt : MS := fun ρ μ => .ok (.ct ρ) μ
def sPar (i j : Nat) (m : MA) : MS := fun ρ μ => (m ρ μ).bind fun vs μ => match vs with
  | [v, w] => .ok (.nx ((ρ.set i (some v)).set j (some w))) μ
  | _ => .no
def sPar3 (i j k : Nat) (m : MA) : MS := fun ρ μ => (m ρ μ).bind fun vs μ => match vs with
  | [u, v, w] => .ok (.nx (((ρ.set i (some u)).set j (some v)).set k (some w))) μ
  | _ => .no
/-- targets: a name, names in a tuple -/
def unp : List Nat → List Val → Rho → Option Rho
  | [], [], ρ => some ρ
  | i :: is, v :: vs, ρ => unp is vs (ρ.set i (some v))
  | _, _, _ => none
def tgN (i : Nat) (v : Val) (ρ : Rho) : Option Rho := some (ρ.set i (some v))
def tgT (is : List Nat) (v : Val) (ρ : Rho) : Option Rho := match v with
  | .tup vs => unp is vs ρ
  | _ => none
def sAsg (g : Val → Rho → Option Rho) (m : ME) : MS := fun ρ μ => (m ρ μ).bind fun v μ => match g v ρ with
  | some ρ' => .ok (.nx ρ') μ
  | none => .no
def stoM : Val → Val → Val → Mu → R Unit
  | .loc n, .int i, v, μ => match μ.ob n with
    | some (.lst vs) => match ixN vs.length i with
      | some j => .ok () (μ.put n (.lst (vs.set j v)))
      | none => .no
    | _ => .no
  | _, _, _, _ => .no
def dstoM : Val → Val → Val → Mu → R Unit
  | .loc n, y, v, μ => match μ.ob n, keyOf y with
    | some (.dct kvs), some k => if kvs.length ≤ 1000000 then .ok () (μ.put n (.dct (kPut kvs k v))) else .no
    | _, _ => .no
  | _, _, _, _ => .no
def sSto (f : Val → Val → Val → Mu → R Unit) (o i v : ME) : MS := fun ρ μ => (v ρ μ).bind fun v μ => (o ρ μ).bind fun o μ => (i ρ μ).bind fun i μ => (f o i v μ).bind fun _ μ => .ok (.nx ρ) μ
section
variable {X : Cx} {E : XK} {e c o : Expr} {es : List Expr} {st : Stmt} {sts a b : List Stmt} {m mo mi mv : ME} {ms mt : MS} {mc : MT} {mr : MA} {pos : Pos}
theorem pmss_nil : PMSs X E [] sNil := PSs.imp pss_nil fun D σ H ⟨w, ρ, μ, S, EN, hp⟩ => hp w H σ S EN .refl
theorem post_then {K : PySem.W.Frag} {w : Wt} {b : Nat} {H : Hp} {D : Ends} {r : R Fl} {k : MS} (h : PostS K E w b H D (sThen r k)) : PostS K E w b H { D with nx := tS K E k D } r := by
  cases r with
  | ok a μ =>
    cases a with
    | nx ρ => exact fun w' H' σ' S EN g => ⟨w', ρ, μ, S, EN, PostS.grow h g⟩
    | _ => exact h
  | er c fs μ => exact h
  | no => exact h
theorem pmss_cons (h1 : PMS X E st ms) (h2 : PMSs X E sts mt) : PMSs X E (st :: sts) (sSeq ms mt) :=
  PSs.imp (pss_cons h1 h2) fun D σ H ⟨w, ρ, μ, S, EN, hp⟩ => ⟨w, ρ, μ, S, EN, post_then hp⟩
theorem pmss_one (h1 : PMS X E st ms) : PMSs X E [st] ms := pss_one h1
theorem pms_expr (he : PM X E e m) (hs : swapsWith e none pos.line X.env = pure false := by rfl) : PMS X E (.Expr e pos) (sExpr m) :=
  PS.imp (ps_expr he hs) fun D σ H ⟨w, ρ, μ, S, EN, hp⟩ => ⟨w, ρ, μ, S, EN, PostS.bind hp fun x μ1 w1 H1 u1 S1 r1 g1 h1 => h1 w1 H1 σ S1 (EN.grow g1) .refl⟩
theorem pms_ret (he : PM X E e m) : PMS X E (.Return (some e) pos) (sRet m) :=
  PS.imp (ps_ret he) fun D σ H ⟨w, ρ, μ, S, EN, hp⟩ => ⟨w, ρ, μ, S, EN, PostS.bind hp fun x μ1 w1 H1 u1 S1 r1 g1 h1 => h1 w1 H1 u1 S1 r1 .refl⟩
theorem pms_if (hc : PMT X E c mc) (ha : PMSs X E a ms) (hb : PMSs X E b mt) : PMS X E (.If c a b pos) (sIf mc ms mt) :=
  PS.imp (ps_if hc ha hb) fun D σ H ⟨w, ρ, μ, S, EN, hp⟩ => ⟨w, ρ, μ, S, EN, PostS.bind hp fun x μ1 w1 H1 u1 S1 r1 g1 h1 => by
    cases r1
    cases x with
    | true => exact iteT ⟨w1, ρ, μ1, S1, EN.grow g1, h1⟩
    | false => exact iteF ⟨w1, ρ, μ1, S1, EN.grow g1, h1⟩⟩
theorem pms_set {i : Nat} {x : Str} {pos' : Pos} (hN : X.N.Nodup) (hi : X.N[i]? = some x) (hx : Loc X.env.scope x) (he : PM X E e m) (hs : swapsWith e (some (.Name x pos')) pos.line X.env = pure false := by rfl) (hf : X.fn x = true ∨ X.env.scope.names.lookup x = some .local := by first | exact .inl rfl | exact .inr rfl | assumption) :
    PMS X E (.Assign [.Name x pos'] e pos) (sSet i m) :=
  PS.imp (ps_set hN hi hx he hs hf) fun D σ H ⟨w, ρ, μ, S, EN, hp⟩ => ⟨w, ρ, μ, S, EN, PostS.bind hp fun x μ1 w1 H1 u1 S1 r1 g1 h1 => h1 w1 H1 _ S1 ((EN.grow g1).set i r1) .refl⟩
theorem pms_par {i j : Nat} {x y : Str} {a b : Expr} {px py pt : Pos} {kt k2 pt2} (hc : X.calm = true) (hN : X.N.Nodup) (hi : X.N[i]? = some x) (hj : X.N[j]? = some y) (hij : i ≠ j)
    (hx : X.env.scope.names.lookup x = some .local) (hy : X.env.scope.names.lookup y = some .local) (ha : PMA X E [a, b] mr)
    (hw : swappedStores [.Tuple [.Name x px, .Name y py] kt pt] (.Tuple [a, b] k2 pt2) X.env = pure (some [x, y]))
    (hs : swapsWithSole [.Tuple [.Name x px, .Name y py] kt pt] (.Tuple [a, b] k2 pt2) pos.line X.env = pure false := by rfl) :
    PMS X E (.Assign [.Tuple [.Name x px, .Name y py] kt pt] (.Tuple [a, b] k2 pt2) pos) (sPar i j mr) :=
  PS.imp (ps_par hc hN hi hj hij hx hy ha hw hs) fun D σ H ⟨w, ρ, μ, S, EN, hp⟩ => ⟨w, ρ, μ, S, EN, PostS.bind hp fun vs μ1 w1 H1 us S1 r1 g1 h1 => by
    split at h1
    · cases r1 with
      | cons ra rr =>
        cases rr with
        | cons rb rr =>
          cases rr
          exact ⟨_, _, rfl, h1 w1 H1 _ S1 (((EN.grow g1).set i ra).set j rb) .refl⟩
    · exact h1.elim⟩
/-! ### targets -/
theorem wipe_in {σ : L2.St} {i : Nat} : ∀ {vs : List Nat}, i ∈ vs → (wipe σ vs)[i]? = (σ[i]?).map fun _ => none
  | [], h => by cases h
  | v :: vs, h => by
    unfold wipe
    by_cases c : v = i
    · subst c
      rw [List.getElem?_set, if_pos rfl, wipe_length]
      by_cases d : v < σ.length
      · rw [if_pos d, List.getElem?_eq_getElem d]
        rfl
      · rw [if_neg d, List.getElem?_eq_none (by omega)]
        rfl
    · rw [List.getElem?_set_ne c]
      rcases List.mem_cons.mp h with z | z
      · exact (c z.symm).elim
      · exact wipe_in z
theorem wipe_set {σ : L2.St} {i : Nat} {x : Option V} {vs : List Nat} (h : i ∈ vs) : wipe (σ.set i x) vs = wipe σ vs := by
  apply List.ext_getElem?
  intro j
  by_cases c : j ∈ vs
  · rw [wipe_in c, wipe_in c, List.getElem?_set]
    by_cases d : i = j
    · subst d
      rw [if_pos rfl]
      by_cases l : i < σ.length
      · rw [if_pos l, List.getElem?_eq_getElem l]
        rfl
      · rw [if_neg l, List.getElem?_eq_none (by omega)]
    · rw [if_neg d]
  · have ne : i ≠ j := fun z => c (by rw [← z]; exact h)
    rw [wipe_out c, wipe_out c, List.getElem?_set_ne ne]
def Wiped (is : List Nat) (σ σ' : L2.St) : Prop := ∀ vs : List Nat, (∀ i ∈ is, i ∈ vs) → wipe σ' vs = wipe σ vs
def tG (K : PySem.W.Frag) (is : List Nat) (g : Val → Rho → Option Rho) : TG := fun x σ H Q => ∃ w ρ b v ρ', EnvR K w b H ρ σ ∧ VR K w.ad b H v x ∧ g v ρ = some ρ' ∧ ∀ σ', EnvR K w b H ρ' σ' → Wiped is σ σ' → Q σ' H
def PMG (X : Cx) (tg : Expr) (is : List Nat) (g : Val → Rho → Option Rho) : Prop := PG X tg (tG X.K is g)
def tGs (K : PySem.W.Frag) (is : List Nat) : TGs := fun xs σ H Q => ∃ w ρ b vs ρ', EnvR K w b H ρ σ ∧ VRs K w.ad b H vs xs ∧ unp is vs ρ = some ρ' ∧ ∀ σ', EnvR K w b H ρ' σ' → Wiped is σ σ' → Q σ' H
theorem PG.imp {tg : Expr} {t t0 : TG} (h : PG X tg t) (i : ∀ x σ H Q, t0 x σ H Q → t x σ H Q) : PG X tg t0 := ⟨fun pins s σ H v u Q I r hw => h.run pins s σ H v u Q I r (i v σ H Q hw)⟩
theorem PGs.imp {tg : List Expr} {t t0 : TGs} (h : PGs X tg t) (i : ∀ x σ H Q, t0 x σ H Q → t x σ H Q) : PGs X tg t0 := ⟨fun pins s σ H v u Q I r hw => h.run pins s σ H v u Q I r (i v σ H Q hw)⟩
theorem pmg_name {i : Nat} {x : Str} (hN : X.N.Nodup) (hi : X.N[i]? = some x) (hx : Loc X.env.scope x) (hf : X.fn x = true ∨ X.env.scope.names.lookup x = some .local := by first | exact .inl rfl | exact .inr rfl | assumption) : PMG X (.Name x pos) [i] (tgN i) :=
  PG.imp (pg_name hN hi hx hf) fun x σ H Q ⟨w, ρ, b, v, ρ', EN, r, h1, h2⟩ => by
    cases h1
    exact h2 _ (EN.set i r) fun vs hv => wipe_set (hv i (by simp))
def PMGs (X : Cx) (ts : List Expr) (is : List Nat) : Prop := PGs X ts (tGs X.K is)
theorem pmgs_nil : PMGs X [] [] := PGs.imp pgs_nil fun x σ H Q ⟨w, ρ, b, vs, ρ', EN, r, h1, h2⟩ => by
  cases vs with
  | nil =>
    cases r
    cases h1
    exact ⟨rfl, h2 _ EN fun _ _ => rfl⟩
  | cons v vs => cases h1
theorem pmgs_cons {i : Nat} {x : Str} {is : List Nat} {ts : List Expr} {px : Pos} (hN : X.N.Nodup) (hi : X.N[i]? = some x) (hx : Loc X.env.scope x) (h2 : PMGs X ts is) (hf : X.fn x = true ∨ X.env.scope.names.lookup x = some .local := by first | exact .inl rfl | exact .inr rfl | assumption)
    (ha : (assignEach (.Name x px :: ts) X.env).map (·.2) = assign (.Name x px) X.env :: (assignEach ts X.env).map (·.2) := by rfl) : PMGs X (.Name x px :: ts) (i :: is) :=
  PGs.imp (pgs_cons (pg_name (i := i) hN hi hx hf) h2 ha) fun xs σ H Q ⟨w, ρ, b, vs, ρ', EN, r, h1, h3⟩ => by
    cases vs with
    | nil => cases h1
    | cons v vs =>
      cases r with
      | cons r1 r2 => exact ⟨_, _, rfl, w, _, b, vs, ρ', EN.set i r1, r2, h1, fun σ' EN' hw => h3 σ' EN' fun l hl => (hw l fun j hj => hl j (List.mem_cons_of_mem _ hj)).trans (wipe_set (hl i List.mem_cons_self))⟩
theorem unp_len : ∀ {is : List Nat} {vs : List Val} {ρ ρ' : Rho}, unp is vs ρ = some ρ' → vs.length = is.length
  | [], [], _, _, _ => rfl
  | i :: is, v :: vs, ρ, ρ', h => by simp [unp_len (is := is) (vs := vs) h]
  | [], _ :: _, _, _, h => by cases h
  | _ :: _, [], _, _, h => by cases h
theorem pmg_tup {ts : List Expr} {is : List Nat} {k : Nat} {n : Nat} (hc : X.calm = true) (h : PMGs X ts is) (hl : is.length = n := by rfl)
    (hn : (assignEach ts X.env).length = n := by rfl) (hst : (assignEach ts X.env).findIdx? (·.1) = none := by rfl) : PMG X (.Tuple ts k pos) is (tgT is) :=
  PG.imp (pg_tup hc h hn hst) fun x σ H Q ⟨w, ρ, b, v, ρ', EN, r, h1, h2⟩ => by
    cases v with
    | tup vs =>
      obtain ⟨a, us, rfl, hq, rq⟩ := vr_tup r
      exact ⟨a, us, rfl, hq, by rw [rq.length, unp_len (is := is) h1]; exact hl, w, ρ, b, vs, ρ', EN, rq, h1, h2⟩
    | _ => cases h1
/-! ### stores -/
theorem pms_sto {o i : Expr} {pos' : Pos} (hv : PM X E e mv) (ho : PM X E o mo) (hi : PM X E i mi) (hs : swapsWithSole [.Subscript o i pos'] e pos.line X.env = pure false := by rfl) (hw : swappedStores [.Subscript o i pos'] e X.env = pure none := by rfl)
    (h1 : (assignEach [.Subscript o i pos'] X.env).map (·.2) = [assign (.Subscript o i pos') X.env] := by rfl)
    (ha : ∀ v, assign (.Subscript o i pos') X.env v = (do
      let ov ← holding [v] (eval o X.env)
      let iv ← holding [v, ov] (eval i X.env)
      standAt pos'
      holding [v, ov, iv] (setItem ov iv v)
      release [v, ov, iv] []) := by intro _; rfl) : PMS X E (.Assign [.Subscript o i pos'] e pos) (sSto stoM mo mi mv) :=
  PS.imp (ps_asg hv (pg_sub ho hi set_list ha) hs hw h1) fun D σ H ⟨w, ρ, μ, S, EN, hp⟩ => ⟨w, ρ, μ, S, EN, PostS.bind hp fun v μ1 w1 H1 uv S1 rv g1 h1 => ⟨w1, ρ, μ1, S1, EN.grow g1, PostS.bind h1 fun o μ2 w2 H2 uo S2 ro g2 h2 => ⟨w2, ρ, μ2, S2, (EN.grow g1).grow g2, PostS.bind h2 fun i μ3 w3 H3 ui S3 ri g3 h3 => by
    have rv := VR.grow g3 (VR.grow g2 rv)
    have ro := VR.grow g3 ro
    have EN3 := ((EN.grow g1).grow g2).grow g3
    unfold stoM at h3
    split at h3
    · cases ri
      cases ro
      split at h3
      · rename_i vs hn
        split at h3
        · rename_i j hj
          obtain ⟨us, q1, q2⟩ := S3.ok _ _ hn
          obtain ⟨S4, g4⟩ := S3.setL hn (q2.set j rv)
          exact ⟨_, us, _, j, rfl, rfl, q1, by rw [q2.length]; exact hj, h3 w3 _ σ S4 (EN3.grow g4) g4⟩
        · exact h3.elim
      · exact h3.elim
    · exact h3.elim⟩⟩⟩
end
section
variable {K : PySem.W.Frag} {ad : Adr} {b : Nat} {H : Hp}
end
section
variable {X : Cx} {E : XK} {e c o : Expr} {es : List Expr} {st : Stmt} {sts a b : List Stmt} {m mo mi mv : ME} {ms mt : MS} {mc : MT} {mr : MA} {pos : Pos}
end
end Wn
/-! the law's level: loops, defs -/
namespace Wn
open PySem PySem.Spec PyProof.Rows L2 LamX He

/-! ### what is walked -/
inductive Wk where
  | seq (v : Val) | rng (lo : Int) (n : Nat) | enm (n : Nat) | zip (n m : Nat) | key (n : Nat) | fn (f : Mu → Option (List Val))
def keyV : Key → Val
  | .inl i => .int i
  | .inr x => .str x
def rngM (lo : Int) (n : Nat) : List Val := (List.range n).map fun (k : Nat) => .int (lo + (k : Int))
def enmM (vs : List Val) : List Val := vs.zipIdx.map fun p => .tup [.int (p.2 : Nat), p.1]
def zipM (vs ws : List Val) : List Val := (vs.zip ws).map fun p => .tup [p.1, p.2]
def Wk.items : Wk → Mu → Option (List Val)
  | .seq (.tup vs), _ => some vs
  | .seq (.loc n), μ => seqOf μ n
  | .seq _, _ => none
  | .rng lo n, _ => some (rngM lo n)
  | .enm n, μ => (seqOf μ n).map enmM
  | .zip n m, μ => match seqOf μ n, seqOf μ m with
    | some vs, some ws => some (zipM vs ws)
    | _, _ => none
  | .key n, μ => match μ.ob n with
    | some (.rod kvs) => some (kvs.map fun p => keyV p.1)
    | _ => none
  | .fn f, μ => f μ
abbrev MI := Rho → Mu → R Wk
def relI (K : PySem.W.Frag) : Rel Wk It := fun w b H k J => ∀ w' μ' H', Grow K w b H w' μ'.nx H' → Sim K w' μ' H' → ∀ vs, k.items μ' = some vs → ∀ i : Nat, (vs[i]? = none → J.stop i H') ∧
  ∀ v, vs[i]? = some v → J.go i H' ∧ ∀ x H2, J.yld i H' x H2 → ∃ w2, Sim K w2 μ' H2 ∧ VR K w2.ad μ'.nx H2 v x ∧ Grow K w' μ'.nx H' w2 μ'.nx H2
def PMI (X : Cx) (E : XK) (tg iter : Expr) (m : MI) : Prop := PI X tg iter (tM X.K (relI X.K) E m)
theorem PI.imp {X : Cx} {tg iter : Expr} {t t0 : TI} (h : PI X tg iter t) (i : ∀ σ H R, t0 σ H R → t σ H R) : PI X tg iter t0 := ⟨fun pins s σ H R I hw => h.run pins s σ H R I (i σ H R hw)⟩
def iSeq (m : ME) : MI := fun ρ μ => (m ρ μ).bind fun v μ => match (Wk.seq v).items μ with
  | some _ => .ok (.seq v) μ
  | none => .no
def iRng1 (m : MA) : MI := fun ρ μ => (m ρ μ).bind fun vs μ => match vs with
  | [.int j] => if j ≤ 1000000 ∧ -1000000 ≤ j then .ok (.rng 0 j.toNat) μ else .no
  | _ => .no
def iRng2 (m : MA) : MI := fun ρ μ => (m ρ μ).bind fun vs μ => match vs with
  | [.int i, .int j] => if (j ≤ 1000000 ∧ -1000000 ≤ j) ∧ i ≤ 1000000 ∧ -1000000 ≤ i then .ok (.rng i (j - i).toNat) μ else .no
  | _ => .no
def iEnm (m : MA) : MI := fun ρ μ => (m ρ μ).bind fun vs μ => match vs with
  | [.loc n] => match seqOf μ n with
    | some _ => .ok (.enm n) μ
    | none => .no
  | _ => .no
theorem rngM_get (lo : Int) (n i : Nat) : (rngM lo n)[i]? = if i < n then some (.int (lo + i)) else none := by
  unfold rngM
  rw [List.getElem?_map]
  by_cases c : i < n
  · rw [if_pos c, List.getElem?_range c]
    rfl
  · rw [if_neg c, List.getElem?_eq_none (by rw [List.length_range]; omega)]
    rfl
theorem enmM_get (vs : List Val) (i : Nat) : (enmM vs)[i]? = (vs[i]?).map fun v => .tup [.int (i : Nat), v] := by
  unfold enmM
  rw [List.getElem?_map, List.getElem?_zipIdx]
  cases vs[i]? with
  | none => rfl
  | some v => simp
section
variable {X : Cx} {E : XK} {e tg iter a : Expr} {m n : ME} {pos p : Pos}
theorem relI_seq {K : PySem.W.Frag} {w : Wt} {b : Nat} {H : Hp} {k : Nat} (hk : k < b) : relI K w b H (.seq (.loc k)) (Itl K (w.ad k)) := by
  intro w' μ' H' g S vs hv i
  obtain ⟨us, q1, q2⟩ := seqOf_sq S (show seqOf μ' k = some vs from hv)
  rw [g.ad k hk] at q1
  refine ⟨fun h => ⟨us, q1, ?_⟩, fun v h => ?_⟩
  · rw [q2.length]
    exact List.getElem?_eq_none_iff.mp h
  · obtain ⟨u, e1, e2⟩ := q2.get i v h
    refine ⟨⟨us, u, q1, e1⟩, fun x H2 y => ?_⟩
    obtain ⟨rfl, y⟩ := y
    have := y us q1
    rw [e1] at this
    cases this
    exact ⟨w', S, e2, .refl⟩
theorem relI_tup {K : PySem.W.Frag} {w : Wt} {b : Nat} {H : Hp} {p : Addr} {vs0 : List Val} {us : List V} (hq : SqT K H p us) (r : VRs K w.ad b H vs0 us) : relI K w b H (.seq (.tup vs0)) (Itt K p) := by
  intro w' μ' H' g S vs hv i
  have hv : some vs0 = some vs := hv
  cases hv
  have q1 := g.tp _ _ hq
  have q2 := r.grow g
  refine ⟨fun h => ⟨us, q1, ?_⟩, fun v h => ?_⟩
  · rw [q2.length]
    exact List.getElem?_eq_none_iff.mp h
  · obtain ⟨u, e1, e2⟩ := q2.get i v h
    refine ⟨⟨us, u, q1, e1⟩, fun x H2 y => ?_⟩
    obtain ⟨rfl, y⟩ := y
    have := y us q1
    rw [e1] at this
    cases this
    exact ⟨w', S, e2, .refl⟩
theorem relI_rng {K : PySem.W.Frag} {w : Wt} {b : Nat} {H : Hp} {lo : Int} {n : Nat} : relI K w b H (.rng lo n) (Itr lo n) := by
  intro w' μ' H' g S vs hv i
  have hv : some (rngM lo n) = some vs := hv
  cases hv
  rw [rngM_get]
  refine ⟨fun h => ?_, fun v h => ?_⟩
  · split at h
    · cases h
    · rename_i c
      exact Nat.le_of_not_lt c
  · split at h
    · rename_i c
      cases h
      refine ⟨c, fun x H2 y => ?_⟩
      obtain ⟨rfl, rfl⟩ := y
      exact ⟨w', S, .int _, .refl⟩
    · cases h
theorem relI_enm {K : PySem.W.Frag} {w : Wt} {b : Nat} {H : Hp} {k : Nat} (hk : k < b) : relI K w b H (.enm k) (Ite K (w.ad k)) := by
  intro w' μ' H' g S vs hv i
  obtain ⟨vs0, h0, h1⟩ := Option.map_eq_some_iff.mp (show (seqOf μ' k).map enmM = some vs from hv)
  subst h1
  obtain ⟨us, q1, q2⟩ := seqOf_sq S h0
  rw [g.ad k hk] at q1
  rw [enmM_get]
  refine ⟨fun h => ⟨us, q1, ?_⟩, fun v h => ?_⟩
  · rw [q2.length]
    exact List.getElem?_eq_none_iff.mp (Option.map_eq_none_iff.mp h)
  · obtain ⟨v0, h2, h3⟩ := Option.map_eq_some_iff.mp h
    subst h3
    obtain ⟨u, e1, e2⟩ := q2.get i v0 h2
    refine ⟨⟨us, u, q1, e1⟩, fun x H2 y => ?_⟩
    obtain ⟨T, x', rfl, hT, rfl, hx⟩ := y
    have := hx us q1
    rw [e1] at this
    cases this
    obtain ⟨S4, g4, v4⟩ := S.newT hT (VRs.cons (.int (i : Nat)) (VRs.one e2))
    exact ⟨w', S4, v4, g4⟩
theorem pi_seq {l : Expr} {tl : TE} (hl : PE X l tl) : PI X tg l (fun σ H R => tl σ H fun x H1 => (∃ a, x = .ref a ∧ (∃ xs, SqL X.K H1 a xs) ∧ R (Itl X.K a) H1) ∨ ∃ a, x = .ref a ∧ (∃ xs, SqT X.K H1 a xs) ∧ R (Itt X.K a) H1) := by
  refine ⟨fun pins s σ H R I h => ?_⟩
  refine thn (hl.run pins s σ H _ I h) fun v s1 ⟨x, H1, I1, r1, q1⟩ => ?_
  rcases q1 with ⟨a, e, ⟨xs, hq⟩, q⟩ | ⟨a, e, ⟨xs, hq⟩, q⟩
  · subst e
    cases r1
    obtain ⟨its, rv, p, hz⟩ := I1.list hq
    refine wpAny_pyIter_list p.isList ?_
    refine ⟨s1.heap.objs.size, [s1.heap.objs.size], _, _, H1, rfl, I1.kept (t' := s1.toks) fun b o e => Heap.get?_push_of_some _ e, turn_list a _, ⟨_, Heap.get?_push_size _ rfl, rfl, rfl⟩, fun b hb => ?_, q⟩
    have e : b = s1.heap.objs.size := by simpa using hb
    subst e
    exact I1.fpOk (Nat.le_refl _) (I1.hok.fresh (Nat.le_refl _))
  · subst e
    cases r1
    obtain ⟨its, rv, p, hz⟩ := I1.tuple hq
    refine wpAny_pyIter_tuple (show s1.heap.IsTuple a its.toArray from p) ?_
    refine ⟨s1.heap.objs.size, [s1.heap.objs.size], _, _, H1, rfl, I1.kept (t' := s1.toks) fun b o e => Heap.get?_push_of_some _ e, turn_tuple a _, ⟨_, Heap.get?_push_size _ rfl, rfl, rfl⟩, fun b hb => ?_, q⟩
    have e : b = s1.heap.objs.size := by simpa using hb
    subst e
    exact I1.fpOk (Nat.le_refl _) (I1.hok.fresh (Nat.le_refl _))
theorem pmi_seq (h : PM X E e m) : PMI X E tg e (iSeq m) :=
  PI.imp (pi_seq h) fun σ H R ⟨w, ρ, μ, S, EN, hp⟩ => ⟨w, ρ, μ, S, EN, Post.bind hp fun x μ1 w1 H1 u1 S1 r1 g1 h1 => by
    split at h1
    · rename_i vs hv
      cases x with
      | loc k =>
        cases r1 with
        | loc hk =>
          obtain ⟨us, q1, q2⟩ := seqOf_sq S1 (show seqOf μ1 k = some vs from hv)
          exact .inl ⟨_, rfl, ⟨us, q1⟩, h1 w1 H1 _ S1 (relI_seq hk) .refl⟩
      | tup vs0 =>
        obtain ⟨a, us, rfl, hq, rq⟩ := vr_tup r1
        exact .inr ⟨_, rfl, ⟨us, hq⟩, h1 w1 H1 _ S1 (relI_tup hq rq) .refl⟩
      | non => cases hv
      | bl _ => cases hv
      | int _ => cases hv
      | str _ => cases hv
      | vw _ _ _ => cases hv
    · exact h1.elim⟩
theorem pmi_rng1 {mr : MA} (hg : Gl X "range") (hm : X.mg "range" = none) (h : PMA X E [a] mr) (hs : starEach [a] X.env = [(false, eval a X.env)] := by rfl) : PMI X E tg (.Call (.Name "range" p) [a] [] pos) (iRng1 mr) :=
  PI.imp (pi_range1 hg hm h hs) fun σ H R ⟨w, ρ, μ, S, EN, hp⟩ => ⟨w, ρ, μ, S, EN, Post.bind hp fun x μ1 w1 H1 u1 S1 r1 g1 h1 => by
    split at h1
    · cases r1 with
      | cons r1 r2 =>
        cases r2; cases r1
        split at h1
        · rename_i hz
          exact ⟨_, rfl, by omega, by omega, h1 w1 H1 _ S1 relI_rng .refl⟩
        · exact h1.elim
    · exact h1.elim⟩
theorem pmi_enm {mr : MA} {elts : List Expr} {kk : Nat} {tpos : Pos} (hg : Gl X "enumerate") (hm : X.mg "enumerate" = none) (h : PMA X E [e] mr) (hs : starEach [e] X.env = [(false, eval e X.env)] := by rfl) : PMI X E (.Tuple elts kk tpos) (.Call (.Name "enumerate" p) [e] [] pos) (iEnm mr) :=
  PI.imp (pi_enum hg hm h hs) fun σ H R ⟨w, ρ, μ, S, EN, hp⟩ => ⟨w, ρ, μ, S, EN, Post.bind hp fun x μ1 w1 H1 u1 S1 r1 g1 h1 => by
    split at h1
    · rename_i k
      cases r1 with
      | cons r1 r2 =>
        cases r2
        cases r1 with
        | loc hk =>
          split at h1
          · rename_i vs hv
            obtain ⟨us, q1, q2⟩ := seqOf_sq S1 hv
            exact ⟨_, us, rfl, q1, h1 w1 H1 _ S1 (relI_enm hk) .refl⟩
          · exact h1.elim
    · exact h1.elim⟩
end
/-! ### for -/
def forM' (get : Mu → Option (List Val)) (g : Val → Rho → Option Rho) (body : MS) : Nat → Nat → Rho → Mu → R Fl
  | 0, _, _, _ => .no
  | f + 1, i, ρ, μ => match get μ with
    | none => .no
    | some vs => match vs[i]? with
      | none => .ok (.nx ρ) μ
      | some v => match g v ρ with
        | none => .no
        | some ρ1 => match body ρ1 μ with
          | .ok (.nx ρ2) μ2 => forM' get g body f (i + 1) ρ2 μ2
          | .ok (.ct ρ2) μ2 => forM' get g body f (i + 1) ρ2 μ2
          | .ok (.bk ρ2) μ2 => .ok (.nx ρ2) μ2
          | r => r
def sFor (it : MI) (g : Val → Rho → Option Rho) (body : MS) : MS := fun ρ μ => (it ρ μ).bind fun k μ => match k.items μ with
  | none => .no
  | some vs => forM' k.items g body (vs.length + 1) 0 ρ μ
section
variable {X : Cx} {E : XK} {e tg iter c : Expr} {body : List Stmt} {mi : MI} {is : List Nat} {g : Val → Rho → Option Rho} {mb : MS} {mc : MT} {pos : Pos}
theorem pms_for (hp : PassesOwn (model X.prog X.w) X.A X.env X.xe) (hc : X.calm = true) (hi : PMI X E tg iter mi) (hg : PMG X tg is g) (hb : PMSs X E body mb)
    (hs : ∀ x, foldedSetIterable iter X.env x = pure x := by intro _; rfl) : PMS X E (.For tg iter body [] pos) (sFor mi g mb) :=
  PS.imp (ps_for hp hc hi hg hb hs) fun D σ H ⟨w, ρ, μ, S, EN, hp⟩ => ⟨w, ρ, μ, S, EN, PostS.bind hp fun k μ1 w1 H1 J S1 r1 g1 h1 => by
    split at h1
    · exact h1.elim
    · rename_i vs0 hv0
      refine ⟨fun i f σ' H' => ∃ w' ρ' μ', Sim X.K w' μ' H' ∧ EnvR X.K w' μ'.nx H' ρ' σ' ∧ Grow X.K w1 μ1.nx H1 w' μ'.nx H' ∧ PostS X.K E w' μ'.nx H' D (forM' k.items g mb f i ρ' μ'), ⟨_, w1, ρ, μ1, S1, EN.grow g1, .refl, h1⟩, ?_⟩
      rintro i f σ' H' ⟨w', ρ', μ', S', EN', g', h'⟩
      cases f with
      | zero => exact h'.elim
      | succ f =>
        rw [forM'] at h'
        split at h'
        · exact h'.elim
        · rename_i vs hv
          obtain ⟨q1, q2⟩ := r1 w' μ' H' g' S' vs hv i
          split at h'
          · rename_i hn
            exact .inl ⟨q1 hn, h' w' H' σ' S' EN' .refl⟩
          · rename_i v hn
            obtain ⟨go, yl⟩ := q2 v hn
            refine .inr ⟨go, fun σ2 H2 => ∃ w2 ρ2 μ2, Sim X.K w2 μ2 H2 ∧ EnvR X.K w2 μ2.nx H2 ρ2 σ2 ∧ Grow X.K w1 μ1.nx H1 w2 μ2.nx H2 ∧ PostS X.K E w2 μ2.nx H2 D (forM' k.items g mb f (i + 1) ρ2 μ2), fun σ2 H2 q => ⟨f, Nat.lt_succ_self _, q⟩, fun x H2 y => ?_⟩
            obtain ⟨w2, S2, v2, g2⟩ := yl x H2 y
            split at h'
            · exact h'.elim
            · rename_i ρ1 hg1
              refine ⟨w2, ρ', μ'.nx, v, ρ1, EN'.grow g2, v2, hg1, fun σ3 EN3 _ => ⟨w2, ρ1, μ', S2, EN3, ?_⟩⟩
              have h' := PostS.grow (b1 := μ'.nx) (H1 := H2) (w1 := w2) h' g2
              cases hb2 : mb ρ1 μ' with
              | no => rw [hb2] at h'; exact h'
              | er c fs μ3 => rw [hb2] at h'; exact h'
              | ok a μ3 =>
                cases a with
                | nx ρ3 =>
                  rw [hb2] at h'
                  exact fun w4 H4 σ4 S4 EN4 g4 => ⟨w4, ρ3, μ3, S4, EN4, (g'.trans g2).trans g4, PostS.grow h' g4⟩
                | ct ρ3 =>
                  rw [hb2] at h'
                  exact fun w4 H4 σ4 S4 EN4 g4 => ⟨w4, ρ3, μ3, S4, EN4, (g'.trans g2).trans g4, PostS.grow h' g4⟩
                | bk ρ3 =>
                  rw [hb2] at h'
                  exact h'
                | rt v3 =>
                  rw [hb2] at h'
                  exact h'⟩
end
/-! ### for x in d: the dict is locked meanwhile -/
end Wn
/-! the law's level: comprehensions, defs -/
namespace Wn
open PySem PySem.Spec PyProof.Rows L2 LamX He

def E0' : XK := fun _ _ _ => False
def R.cut {α : Type} : R α → R α
  | .er _ _ _ => .no
  | r => r
@[simp] theorem R.cut_ok {α : Type} (a : α) (μ : Mu) : (R.ok a μ).cut = .ok a μ := rfl
@[simp] theorem R.cut_no {α : Type} : (R.no : R α).cut = .no := rfl
def wipeV (ρ : Rho) : List Nat → Rho
  | [] => ρ
  | v :: vs => (wipeV ρ vs).set v none
theorem EnvR.wipe {K : PySem.W.Frag} {w : Wt} {b : Nat} {H : Hp} {ρ : Rho} {σ : L2.St} (h : EnvR K w b H ρ σ) : ∀ vs : List Nat, EnvR K w b H (wipeV ρ vs) (L2.wipe σ vs)
  | [] => h
  | v :: vs => by
    have ih := h.wipe vs
    unfold wipeV L2.wipe
    refine ⟨by rw [List.length_set, List.length_set]; exact ih.1, fun i x e => ?_⟩
    by_cases c : v = i
    · subst c
      rw [List.getElem?_set, if_pos rfl] at e
      split at e
      · cases e
      · cases e
    · rw [List.getElem?_set_ne c] at e ⊢
      exact ih.2 i x e
theorem wipe_wipe (σ : L2.St) (vs : List Nat) : L2.wipe (L2.wipe σ vs) vs = L2.wipe σ vs := by
  apply List.ext_getElem?
  intro j
  by_cases c : j ∈ vs
  · rw [wipe_in c, wipe_in c]
    cases σ[j]? <;> rfl
  · rw [wipe_out c]
def mYes : MT := fun _ μ => .ok true μ
def lcM (get : Mu → Option (List Val)) (g : Val → Rho → Option Rho) (c : MT) (elt : ME) (D : Nat) (ρ : Rho) : Nat → Nat → Mu → R Unit
  | 0, _, _ => .no
  | f + 1, i, μ => match get μ with
    | none => .no
    | some vs => match vs[i]? with
      | none => .ok () μ
      | some v => match g v ρ with
        | none => .no
        | some ρ1 => (c ρ1 μ).cut.bind fun k μ => if k = true then (elt ρ1 μ).cut.bind fun y μ => match μ.ob D with
              | some (.lst acc) => if acc.length ≤ 1000000 then lcM get g c elt D ρ f (i + 1) (μ.put D (.lst (acc ++ [y]))) else .no
              | _ => .no
            else lcM get g c elt D ρ f (i + 1) μ
def mLc (it : MI) (own : List Nat) (g : Val → Rho → Option Rho) (c : MT) (elt : ME) : ME := fun ρ μ => (it ρ μ).bind fun k μ => match k.items μ with
  | none => .no
  | some vs => (lcM k.items g c elt μ.nx (wipeV ρ own) (vs.length + 1) 0 (μ.new (.lst []))).bind fun _ μ' => .ok (.loc μ.nx) μ'
theorem Post.cut {K : PySem.W.Frag} {α β γ δ : Type} {rel : Rel α β} {rel' : Rel γ δ} {E : XK} {w : Wt} {b : Nat} {H : Hp} {Q : δ → Hp → Prop} {Q1 : β → Hp → Prop} {r : R α} {k : α → Mu → R γ} (h : Post K rel' E w b H Q (r.cut.bind k))
    (f : ∀ a μ1 w1 H1 u1, Sim K w1 μ1 H1 → rel w1 μ1.nx H1 a u1 → Grow K w b H w1 μ1.nx H1 → Post K rel' E w1 μ1.nx H1 Q (k a μ1) → Q1 u1 H1) : Post K rel E0' w b H Q1 r := by
  cases r with
  | ok a μ1 => exact fun w1 H1 u1 S r g => f a μ1 w1 H1 u1 S r g (Post.grow h g)
  | er c fs μ => exact h.elim
  | no => exact h.elim
def PMTs (X : Cx) (ifs : List Expr) (m : MT) : Prop := PTs X ifs (tM X.K relT E0' m)
theorem PTs.imp {X : Cx} {e : List Expr} {t t0 : TT} (h : PTs X e t) (i : ∀ σ H Q, t0 σ H Q → t σ H Q) : PTs X e t0 := ⟨fun pins s σ H Q I hw => h.run pins s σ H Q I (i σ H Q hw)⟩
section
variable {X : Cx} {E : XK}
theorem pmts_nil : PMTs X [] mYes := PTs.imp pts_nil fun σ H Q ⟨w, ρ, μ, S, EN, hp⟩ => hp w H true S rfl .refl
theorem pmts_one {c : Expr} {m : MT} (h : PMT X E0' c m) : PMTs X [c] m := pts_one h
theorem lc_sim {K : PySem.W.Frag} {σ : L2.St} {is own : List Nat} {g : Val → Rho → Option Rho} {mc : MT} {me : ME} {k : Wk} {J : It} {w1 : Wt} {μ1 : Mu} {H1 : Hp} {ρ : Rho} {Q : VK} {vs0 : List Val} (S1 : Sim K w1 μ1 H1) (EN1 : EnvR K w1 μ1.nx H1 ρ σ) (r1 : relI K w1 μ1.nx H1 k J) (hsub : ∀ i ∈ is, i ∈ own)
    (h1 : Post K (relE K) E w1 μ1.nx H1 Q ((lcM k.items g mc me μ1.nx (wipeV ρ own) (vs0.length + 1) 0 (μ1.new (.lst []))).bind fun _ μ' => .ok (.loc μ1.nx) μ')) (D : Addr) (hD : H1 D = none) :
    ∃ W : Nat → Nat → Hp → Prop, (∃ m, W 0 m (upd H1 D (.lst []))) ∧ ∀ i m H, W i m H →
      (J.stop i H ∧ Q (.ref D) H) ∨ (J.go i H ∧ ∃ Nx : Hp → Prop, (∀ H', Nx H' → ∃ m', m' < m ∧ W (i + 1) m' H') ∧ ∀ x H', J.yld i H x H' → tG K is g x (L2.wipe σ own) H' fun σ2 H2 => L2.wipe σ2 own = L2.wipe σ own ∧ tM K relT E0' mc σ2 H2 fun b H3 =>
        if b = true then tM K (relE K) E0' me σ2 H3 fun y H4 => ∃ acc, H4 D = some (.lst acc) ∧ acc.length < sizeLine ∧ Nx (upd H4 D (.lst (acc ++ [y]))) else Nx H3) := by
  obtain ⟨w2, S2, g2, e2⟩ := S1.newL hD (vs := []) (us := []) .nil
  have hnx : μ1.nx < μ1.nx + 1 := Nat.lt_succ_self _
  refine ⟨fun i f H' => ∃ w' μ', Sim K w' μ' H' ∧ Grow K w2 (μ1.nx + 1) (upd H1 D (.lst [])) w' μ'.nx H' ∧ Post K (relE K) E w' μ'.nx H' Q ((lcM k.items g mc me μ1.nx (wipeV ρ own) f i μ').bind fun _ μ' => .ok (.loc μ1.nx) μ'), ⟨_, w2, μ1.new (.lst []), S2, .refl, Post.grow h1 g2⟩, ?_⟩
  rintro i f H' ⟨w', μ', S', g', h'⟩
  have eD : w'.ad μ1.nx = D := (g'.ad _ hnx).trans e2
  have gg := g2.trans g'
  cases f with
  | zero => exact h'.elim
  | succ f =>
    rw [lcM] at h'
    split at h'
    · exact h'.elim
    · rename_i vs hv
      obtain ⟨q1, q2⟩ := r1 w' μ' H' gg S' vs hv i
      split at h'
      · rename_i hn
        refine .inl ⟨q1 hn, h' w' H' _ S' ?_ .refl⟩
        have := VR.loc (K := K) (ad := w'.ad) (H := H') (Nat.lt_of_lt_of_le hnx g'.le)
        rw [eD] at this
        exact this
      · rename_i v hn
        obtain ⟨go, yl⟩ := q2 v hn
        refine .inr ⟨go, fun H2 => ∃ w2' μ2, Sim K w2' μ2 H2 ∧ Grow K w2 (μ1.nx + 1) (upd H1 D (.lst [])) w2' μ2.nx H2 ∧ Post K (relE K) E w2' μ2.nx H2 Q ((lcM k.items g mc me μ1.nx (wipeV ρ own) f (i + 1) μ2).bind fun _ μ' => .ok (.loc μ1.nx) μ'), fun H2 q => ⟨f, Nat.lt_succ_self _, q⟩, fun x H2 y => ?_⟩
        obtain ⟨w3, S3, v3, g3⟩ := yl x H2 y
        split at h'
        · exact h'.elim
        · rename_i ρ1 hg1
          refine ⟨w3, wipeV ρ own, μ'.nx, v, ρ1, ((EN1.grow gg).grow g3).wipe own, v3, hg1, fun σ3 EN3 hw => ⟨?_, w3, ρ1, μ', S3, EN3, ?_⟩⟩
          · have z := hw own hsub
            rw [z]
            exact wipe_wipe σ own
          · have h4 := Post.grow (b1 := μ'.nx) (H1 := H2) (w1 := w3) h' g3
            have h4 : Post K (relE K) E w3 μ'.nx H2 Q ((mc ρ1 μ').cut.bind fun a μ => ((if a = true then (me ρ1 μ).cut.bind fun y μ => match μ.ob μ1.nx with
                | some (.lst acc) => if acc.length ≤ 1000000 then lcM k.items g mc me μ1.nx (wipeV ρ own) f (i + 1) (μ.put μ1.nx (.lst (acc ++ [y]))) else .no
                | _ => .no
              else lcM k.items g mc me μ1.nx (wipeV ρ own) f (i + 1) μ).bind fun _ μ' => .ok (.loc μ1.nx) μ')) := by
              cases hmc : (mc ρ1 μ').cut with
              | ok a μ => rw [hmc] at h4; exact h4
              | er c fs μ => rw [hmc] at h4; exact h4
              | no => rw [hmc] at h4; exact h4
            refine Post.cut h4 fun c μ4 w4 H4 u4 S4 r4 g4 h5 => ?_
            cases r4
            cases c with
            | false => exact iteF ⟨w4, μ4, S4, (g'.trans g3).trans g4, h5⟩
            | true =>
              refine iteT ⟨w4, ρ1, μ4, S4, EN3.grow g4, ?_⟩
              rw [if_pos rfl] at h5
              have h5 : Post K (relE K) E w4 μ4.nx H4 Q ((me ρ1 μ4).cut.bind fun y μ => ((match μ.ob μ1.nx with
                | some (.lst acc) => if acc.length ≤ 1000000 then lcM k.items g mc me μ1.nx (wipeV ρ own) f (i + 1) (μ.put μ1.nx (.lst (acc ++ [y]))) else .no
                | _ => .no).bind fun _ μ' => .ok (.loc μ1.nx) μ')) := by
                cases hmc : (me ρ1 μ4).cut with
                | ok a μ => rw [hmc] at h5; exact h5
                | er c fs μ => rw [hmc] at h5; exact h5
                | no => rw [hmc] at h5; exact h5
              refine Post.cut h5 fun y μ5 w5 H5 u5 S5 r5 g5 h6 => ?_
              split at h6
              · rename_i acc hacc
                split at h6
                · rename_i hz
                  obtain ⟨us, q3, q4⟩ := S5.ok _ _ hacc
                  have g5' := ((g'.trans g3).trans g4).trans g5
                  have eD5 : w5.ad μ1.nx = D := (g5'.ad _ hnx).trans e2
                  obtain ⟨S6, g6⟩ := S5.setL hacc (q4.app (VRs.one r5))
                  rw [eD5] at q3 S6 g6
                  exact ⟨us, q3, by rw [q4.length]; exact lim6 hz, w5, _, S6, g5'.trans g6, Post.grow h6 g6⟩
                · exact h6.elim
              · exact h6.elim
theorem pm_lc {elt tg iter : Expr} {ifs : List Expr} {scope : Scope} {own : List (Str × Nat)} {pos : Pos} {mi : MI} {is : List Nat} {g : Val → Rho → Option Rho} {mc : MT} {me : ME} (hc : X.calm = true) (hN : X.N.Nodup) (hi : PMI X E tg iter mi) (ok : BlkOk X.N X.env.scope scope own)
    (hg : ∀ (s : Shared) (H : Hp) (C : Addr) (cl : List (Str × Addr)) (fp : List Addr), PMG (X.blk s H scope (compEnvC scope cl C X.env) fp) tg is g) (ht : ∀ (s : Shared) (H : Hp) (C : Addr) (cl : List (Str × Addr)) (fp : List Addr), PMTs (X.blk s H scope (compEnvC scope cl C X.env) fp) ifs mc)
    (he : ∀ (s : Shared) (H : Hp) (C : Addr) (cl : List (Str × Addr)) (fp : List Addr), PM (X.blk s H scope (compEnvC scope cl C X.env) fp) E0' elt me) (hsub : ∀ i ∈ is, i ∈ own.map (·.2) := by decide) (hs : ∀ x, foldedSetIterable iter X.env x = pure x := by intro _; rfl) :
    PM X E (.ListComp elt [⟨tg, iter, ifs, 0⟩] scope pos) (mLc mi (own.map (·.2)) g mc me) :=
  PE.imp (pe_lc (g := tG X.K is g) (tt := tM X.K relT E0' mc) (te := tM X.K (relE X.K) E0' me) hc hN hi ok hg ht he hs) fun σ H Q ⟨w, ρ, μ, S, EN, hp⟩ => ⟨w, ρ, μ, S, EN, Post.bind hp fun k μ1 w1 H1 J S1 r1 g1 h1 => by
    split at h1
    · exact h1.elim
    · exact fun D hD => lc_sim S1 (EN.grow g1) r1 hsub h1 D hD⟩
theorem pms_setLc {i : Nat} {y : Str} {py : Pos} {elt tg iter : Expr} {ifs : List Expr} {scope : Scope} {own : List (Str × Nat)} {pos spos : Pos} {mi : MI} {is : List Nat} {g : Val → Rho → Option Rho} {mc : MT} {me : ME} (hc : X.calm = true) (hN : X.N.Nodup) (hy : X.N[i]? = some y) (hyl : X.env.scope.names.lookup y = some .local)
    (hsw : swapsWith (.ListComp elt [⟨tg, iter, ifs, 0⟩] scope pos) (some (.Name y py)) spos.line X.env = pure true) (hi : PMI X E tg iter mi) (ok : BlkOk X.N X.env.scope scope own)
    (hg : ∀ (s : Shared) (H : Hp) (C : Addr) (cl : List (Str × Addr)) (fp : List Addr), PMG (X.blk s H scope (compEnvC scope cl C X.env) fp) tg is g) (ht : ∀ (s : Shared) (H : Hp) (C : Addr) (cl : List (Str × Addr)) (fp : List Addr), PMTs (X.blk s H scope (compEnvC scope cl C X.env) fp) ifs mc)
    (he : ∀ (s : Shared) (H : Hp) (C : Addr) (cl : List (Str × Addr)) (fp : List Addr), PM (X.blk s H scope (compEnvC scope cl C X.env) fp) E0' elt me) (hsub : ∀ i ∈ is, i ∈ own.map (·.2) := by decide) (hs : ∀ x, foldedSetIterable iter X.env x = pure x := by intro _; rfl) :
    PMS X E (.Assign [.Name y py] (.ListComp elt [⟨tg, iter, ifs, 0⟩] scope pos) spos) (sSet i (mLc mi (own.map (·.2)) g mc me)) :=
  PS.imp (ps_setLc (g := tG X.K is g) (tt := tM X.K relT E0' mc) (te := tM X.K (relE X.K) E0' me) hc hN hy hyl hsw hi ok hg ht he hs) fun D σ H ⟨w, ρ, μ, S, EN, hp⟩ => by
    have hp2 : Post X.K (relE X.K) E w μ.nx H (fun u H1 => D.nx (σ.set i (some u)) H1) (mLc mi (own.map (·.2)) g mc me ρ μ) := PostS.bind hp fun x μ1 w1 H1 u1 S1 r1 g1 h1 => h1 w1 H1 _ S1 ((EN.grow g1).set i r1) .refl
    exact ⟨w, ρ, μ, S, EN, Post.bind hp2 fun k μ1 w1 H1 J S1 r1 g1 h1 => by
      split at h1
      · exact h1.elim
      · exact fun D hD => lc_sim S1 (EN.grow g1) r1 hsub h1 D hD⟩
/-- list(range(..)) -/
def mListR1 (m : MA) : ME := fun ρ μ => (m ρ μ).bind fun vs μ => match vs with
  | [.int j] => if j ≤ 1000000 ∧ -1000000 ≤ j then .ok (.loc μ.nx) (μ.new (.lst (rngM 0 j.toNat))) else .no
  | _ => .no
theorem VRs.rng {K : PySem.W.Frag} {ad : Adr} {b : Nat} {H : Hp} (lo : Int) (n : Nat) : VRs K ad b H (rngM lo n) (rngV lo n) := by
  unfold rngM rngV
  induction (List.range n) with
  | nil => exact .nil
  | cons a l ih => exact .cons (.int _) ih
end
/-! ### defs -/
def startV (N : Nat) (vs : List Val) : Rho := vs.map some ++ List.replicate (N - vs.length) none
def runM (n N : Nat) (m : MS) (args : List Val) (μ : Mu) : R Val := if args.length = n then match m (startV N args) μ with
    | .ok (.nx _) μ' => .ok .non μ'
    | .ok (.rt v) μ' => .ok v μ'
    | .ok _ _ => .no
    | .er c fs μ' => .er c fs μ'
    | .no => .no
  else .no
def spM (K : PySem.W.Frag) (n : Nat) (d : List Val → Mu → R Val) : Sp := fun vs H Q E => vs.length = n ∧ ∃ w μ args, Sim K w μ H ∧ VRs K w.ad μ.nx H args vs ∧ Post K (relE K) E0' w μ.nx H Q (d args μ)
theorem EnvR.start {K : PySem.W.Frag} {w : Wt} {b : Nat} {H : Hp} {N : List Str} {vs : List V} {args : List Val} (r : VRs K w.ad b H args vs) : EnvR K w b H (startV N.length args) (L2.start N vs) := by
  have hl := r.length
  unfold startV L2.start
  refine ⟨by simp [hl], fun i v e => ?_⟩
  by_cases c : i < args.length
  · rw [List.getElem?_append_left (by simpa using c), List.getElem?_map] at e
    obtain ⟨v', h1, h2⟩ := Option.map_eq_some_iff.mp e
    cases h2
    obtain ⟨u, h3, h4⟩ := r.get i v h1
    refine ⟨u, ?_, h4⟩
    rw [List.getElem?_append_left (by rw [List.length_map]; omega), List.getElem?_map, h3]
    rfl
  · rw [List.getElem?_append_right (by simpa using c), List.getElem?_replicate] at e
    split at e
    · cases e
    · cases e
section
variable {P : Program} {w : World} {K : PySem.W.Frag} {mg : Str → Option Value} {base : Heap} {x qual : Str} {params : Arguments} {body : List Stmt} {scope : Scope} {dvs : List V} {kws : List (Str × V)} {f : Addr} {fd : FuncData}
/-- a def of the law -/
theorem okM {N ps : List Str} {k n N' : Nat} {m : MS} (F : FunD K x qual params body scope dvs kws f fd) (Sc : FnScope N ps scope) (hn : n = ps.length) (hN : N' = N.length)
    (hbody : ∀ (cdv : Value) (A : Around) (outer : List Env) (s : Shared) (H : Hp), A.guards = some [] → Room k (A.deeper (envOfC qual scope s.heap.objs.size f cdv)) → PMSs (cxOf CX0 P w K mg base N qual scope f cdv A outer s H E0').nox E0' body m) :
    FnG P w K mg base CX0 (k + 1) f fd ps (spM K n (runM n N' m)) := by
  subst hn hN
  refine okG F Sc (fun vs H Q E h => h.1) (fun cdv A outer s H vs Q E hg hr h => ?_)
  obtain ⟨hl, w', μ, args, S, r, hp⟩ := h
  refine ⟨_, PSs.nox (hbody cdv A outer s H hg hr), w', startV N.length args, μ, S, EnvR.start r, ?_⟩
  unfold runM at hp
  rw [if_pos (by rw [← r.length]; exact hl)] at hp
  show PostS K E0' w' μ.nx H _ (m (startV N.length args) μ)
  cases hm : m (startV N.length args) μ with
  | no => rw [hm] at hp; exact hp
  | er c fs μ1 => rw [hm] at hp; exact hp
  | ok a μ1 =>
    rw [hm] at hp
    cases a with
    | nx ρ => exact fun w1 H1 σ1 S1 EN1 g1 => hp w1 H1 _ S1 .non g1
    | rt v => exact fun w1 H1 u S1 r1 g1 => hp w1 H1 u S1 r1 g1
    | bk ρ => exact hp.elim
    | ct ρ => exact hp.elim
end
section
variable {X : Cx} {E : XK} {k n : Nat} {f : Addr} {fd : FuncData} {ps : List Str} {d : List Val → Mu → R Val} {x : Str} {p pos : Pos} {e : Expr} {es : List Expr} {mr : MA}
/-- a def of the law that is called, with as many arguments as it has -/
def mCall (n : Nat) (d : List Val → Mu → R Val) (m : MA) : ME := fun ρ μ => (m ρ μ).bind fun xs μ => if xs.length = n then (d xs μ).cut else .no
theorem pm_call (F : FnG X.prog X.w X.K X.mg X.base CX0 k f fd ps (spM X.K n d)) (hgd : X.A.guards = some []) (hr : Room k X.A) (hg : Gl X x) (hm : X.mg x = some (.ref f)) (hk : PySem.W.keepIn X.K (.ref f) = true) (hb : Binds X.K fd ps [])
    (ha : PMA X E (e :: es) mr) (hdb : (x == ("__debug__" : Str)) = false := by decide) (he : starEach (e :: es) X.env = (false, eval e X.env) :: starEach es X.env := by rfl) (hpl : (backTo pos (starEach es X.env)).any (·.1) = false := by rfl) :
    PM X E (.Call (.Name x p) (e :: es) [] pos) (mCall n d mr) :=
  PE.imp (pe_callG F hgd hr hg hm hk hb .nil (E := E0') (pass0) ha hdb he hpl) fun σ H Q ⟨w, ρ, μ, S, EN, hp⟩ => ⟨w, ρ, μ, S, EN, Post.bind hp fun xs μ1 w1 H1 us S1 r1 g1 h1 => by
    split at h1
    · rename_i hl
      rw [List.append_nil]
      refine ⟨r1.length.trans hl, w1, μ1, xs, S1, r1, ?_⟩
      cases hd : d xs μ1 with
      | no => rw [hd] at h1; exact h1
      | er c fs μ2 => rw [hd] at h1; exact h1.elim
      | ok a μ2 => rw [hd] at h1; exact h1
    · exact h1.elim⟩
end
end Wn
/-! the law's level: methods of systems -/
namespace Wn
open PySem PySem.Spec PyProof.Rows L2 LamX He

/-! ### o.m(e, .., k = v, ..) -/
section
variable {X : Cx} {CX : CXT} {k n : Nat} {f C : Addr} {fd : FuncData} {ps ks : List Str} {sp : Sp} {E : XK} {x m : Str} {p pos apos : Pos} {o e : Expr} {es : List Expr} {kws : List Keyword} {ta : TE} {t tk : TA} {g : List Value → List Value → List Value} {gV : List V → List V → List V}
end
/-! ### methods of systems -/
def sysOf (x : Val) (μ : Mu) : Option (Nat × Sv) := match x with
  | .loc n => match μ.ob n with
    | some (.sys v) => some (n, v)
    | _ => none
  | _ => none
abbrev MSy := Nat → Sv → List Val → Mu → R Val
def onSys (f : MSy) (x : Val) (xs : List Val) (μ : Mu) : R Val := match sysOf x μ with
  | some p => f p.1 p.2 xs μ
  | none => .no
def mMeth (f : MSy) (ds : List Val) (o : ME) (a : MA) : ME := fun ρ μ => (o ρ μ).bind fun x μ => match sysOf x μ with
  | none => .no
  | some _ => (a ρ μ).bind fun xs μ => onSys f x (xs ++ ds) μ
def mMethK (f : MSy) (n l : Nat) (g : List Val → List Val → List Val) (o : ME) (a b : MA) : ME := fun ρ μ => (o ρ μ).bind fun x μ => match sysOf x μ with
  | none => .no
  | some _ => (a ρ μ).bind fun xs μ => (b ρ μ).bind fun zs μ => if xs.length = n ∧ zs.length = l then onSys f x (g xs zs) μ else .no
theorem PK.imp {X : Cx} {e : List Keyword} {t t0 : TA} (h : PK X e t) (i : ∀ σ H Q, t0 σ H Q → t σ H Q) : PK X e t0 := ⟨fun pos pins s σ H Q I hw => h.run pos pins s σ H Q I (i σ H Q hw)⟩
section
variable {X : Cx} {E : XK} {k n : Nat} {f : Addr} {fd : FuncData} {ps ks : List Str} {sp : Sp} {m : Str} {p pos apos kpos : Pos} {o e : Expr} {es : List Expr} {kws : List Keyword} {mo me : ME} {mr mk : MA} {fm : MSy} {dvs : List V} {ds : List Value} {dM : List Val}
/-- a new system -/
def mMake (f : List Val → Mu → R Val) (a : MA) : ME := fun ρ μ => (a ρ μ).bind fun xs μ => f xs μ
end
/-! ### errors that are raised, new data -/
end Wn
/-! the law's level: small things -/
namespace Wn
open PySem PySem.Spec PyProof.Rows L2 LamX He
theorem _root_.L2.Room.units1 {k : Nat} {A : Around} (r : Room k A) : A.units + 65 < cLine := by have := r.un; omega
def negM : Val → Mu → R Val
  | .int i, μ => .ok (.int (-i)) μ
  | _, _ => .no
theorem pm_neg {X : Cx} {E : XK} {a : Expr} {ma : ME} {pos : Pos} (ha : PM X E a ma) : PM X E (.UnaryOp .USub a pos) (mUn negM ma) :=
  PE.imp (pe_un un_neg ha) fun σ H Q ⟨w, ρ, μ, S, EN, hp⟩ => ⟨w, ρ, μ, S, EN, Post.bind hp fun x μ1 w1 H1 u1 S1 r1 g1 h1 => by
    cases x with
    | int i =>
      cases r1
      exact ⟨i, rfl, h1 w1 H1 _ S1 (.int _) .refl⟩
    | _ => exact h1.elim⟩
end Wn
/-! the law's level: frames -/
namespace Wn
open PySem PySem.Spec PyProof.Rows L2 LamX He
/-- all objects but those of S stand -/
structure Kee (S : List Nat) (μ μ' : Mu) : Prop where
  le : μ.nx ≤ μ'.nx
  ob : ∀ n, n < μ.nx → n ∉ S → μ'.ob n = μ.ob n
  vr : ∀ n, n < μ.nx → n ∉ S → μ'.vr n = μ.vr n
theorem Kee.refl (S : List Nat) (μ : Mu) : Kee S μ μ := ⟨Nat.le_refl _, fun _ _ _ => rfl, fun _ _ _ => rfl⟩
theorem Kee.trans {S : List Nat} {μ μ1 μ2 : Mu} (a : Kee S μ μ1) (b : Kee S μ1 μ2) : Kee S μ μ2 := ⟨Nat.le_trans a.le b.le, fun n h q => (b.ob n (Nat.lt_of_lt_of_le h a.le) q).trans (a.ob n h q), fun n h q => (b.vr n (Nat.lt_of_lt_of_le h a.le) q).trans (a.vr n h q)⟩
theorem Kee.mono {S S' : List Nat} {μ μ' : Mu} (a : Kee S μ μ') (h : ∀ n ∈ S, n ∈ S') : Kee S' μ μ' := ⟨a.le, fun n l q => a.ob n l fun z => q (h n z), fun n l q => a.vr n l fun z => q (h n z)⟩
theorem Kee.put {S : List Nat} {μ : Mu} {n : Nat} {o : Ob} (h : n ∈ S) : Kee S μ (μ.put n o) := ⟨Nat.le_refl _, fun m _ q => Mu.put_ne _ _ fun z => q (z ▸ h), fun m _ q => Mu.put_vrN _ _ fun z => q (z ▸ h)⟩
theorem Kee.new {S : List Nat} {μ : Mu} {o : Ob} : Kee S μ (μ.new o) := ⟨Nat.le_succ _, fun m l _ => Mu.new_ne _ _ (Nat.ne_of_lt l), fun _ _ _ => rfl⟩
theorem Kee.lt {S : List Nat} {μ μ' : Mu} (a : Kee S μ μ') {n : Nat} (h : n < μ.nx) : n < μ'.nx := Nat.lt_of_lt_of_le h a.le
/-- an object that is new is not one of S -/
theorem Kee.weak {S T : List Nat} {μ μ' : Mu} (a : Kee (S ++ T) μ μ') (h : ∀ n ∈ T, μ.nx ≤ n) : Kee S μ μ' := ⟨a.le, fun n l q => a.ob n l fun z => (List.mem_append.mp z).elim q fun z => absurd l (Nat.not_lt.mpr (h n z)), fun n l q => a.vr n l fun z => (List.mem_append.mp z).elim q fun z => absurd l (Nat.not_lt.mpr (h n z))⟩
def Bag (μ : Mu) (b : Nat) : Prop := b < μ.nx ∧ ∃ c m, μ.ob b = some (.lst [.int c, .int m])
theorem Bag.keep {S : List Nat} {μ μ' : Mu} {b : Nat} (h : Bag μ b) (k : Kee S μ μ') (q : b ∉ S) : Bag μ' b := ⟨k.lt h.1, by rw [k.ob b h.1 q]; exact h.2⟩
/-! ### outcomes -/
def Goes (r : R Fl) (P : Rho → Mu → Prop) : Prop := match r with
  | .ok (.nx ρ) μ => P ρ μ
  | _ => False
def Gets {α : Type} (r : R α) (P : α → Mu → Prop) : Prop := match r with
  | .ok a μ => P a μ
  | _ => False
def Rets (r : R Fl) (P : Val → Mu → Prop) : Prop := match r with
  | .ok (.nx _) μ => P .non μ
  | .ok (.rt v) μ => P v μ
  | _ => False
theorem Goes_nx (ρ : Rho) (μ : Mu) (P : Rho → Mu → Prop) : Goes (.ok (.nx ρ) μ) P = P ρ μ := rfl
theorem Gets_ok {α : Type} (a : α) (μ : Mu) (P : α → Mu → Prop) : Gets (.ok a μ) P = P a μ := rfl
theorem Rets_nx (ρ : Rho) (μ : Mu) (P : Val → Mu → Prop) : Rets (.ok (.nx ρ) μ) P = P .non μ := rfl
theorem Rets_rt (v : Val) (μ : Mu) (P : Val → Mu → Prop) : Rets (.ok (.rt v) μ) P = P v μ := rfl
theorem Goes.mono {r : R Fl} {P Q : Rho → Mu → Prop} (h : Goes r P) (f : ∀ ρ μ, P ρ μ → Q ρ μ) : Goes r Q := by
  cases r with
  | ok a μ =>
    cases a with
    | nx ρ => exact f _ _ h
    | _ => exact h
  | _ => exact h
theorem Rets.mono {r : R Fl} {P Q : Val → Mu → Prop} (h : Rets r P) (f : ∀ v μ, P v μ → Q v μ) : Rets r Q := by
  cases r with
  | ok a μ =>
    cases a with
    | nx ρ => exact f _ _ h
    | rt v => exact f _ _ h
    | _ => exact h
  | _ => exact h
theorem Gets.mono {α : Type} {r : R α} {P Q : α → Mu → Prop} (h : Gets r P) (f : ∀ v μ, P v μ → Q v μ) : Gets r Q := by
  cases r with
  | ok a μ => exact f _ _ h
  | _ => exact h
theorem Goes.ex {r : R Fl} {P : Rho → Mu → Prop} (h : Goes r P) : ∃ ρ μ, r = .ok (.nx ρ) μ ∧ P ρ μ := by
  cases r with
  | ok a μ =>
    cases a with
    | nx ρ => exact ⟨ρ, μ, rfl, h⟩
    | _ => exact h.elim
  | _ => exact h.elim
theorem Gets.ex {α : Type} {r : R α} {P : α → Mu → Prop} (h : Gets r P) : ∃ a μ, r = .ok a μ ∧ P a μ := by
  cases r with
  | ok a μ => exact ⟨a, μ, rfl, h⟩
  | _ => exact h.elim
theorem Goes.then {r : R Fl} {k : Rho → Mu → R Fl} {P : Rho → Mu → Prop} (h : Goes r fun ρ μ => Goes (k ρ μ) P) : Goes (sThen r k) P := by
  obtain ⟨ρ, μ, rfl, h⟩ := h.ex
  exact h
theorem Rets.then {r : R Fl} {k : Rho → Mu → R Fl} {P : Val → Mu → Prop} (h : Goes r fun ρ μ => Rets (k ρ μ) P) : Rets (sThen r k) P := by
  obtain ⟨ρ, μ, rfl, h⟩ := h.ex
  exact h
theorem Goes.bind {α : Type} {r : R α} {k : α → Mu → R Fl} {P : Rho → Mu → Prop} (h : Gets r fun a μ => Goes (k a μ) P) : Goes (r.bind k) P := by
  obtain ⟨ρ, μ, rfl, h⟩ := h.ex
  exact h
theorem Rets.bind {α : Type} {r : R α} {k : α → Mu → R Fl} {P : Val → Mu → Prop} (h : Gets r fun a μ => Rets (k a μ) P) : Rets (r.bind k) P := by
  obtain ⟨ρ, μ, rfl, h⟩ := h.ex
  exact h
theorem Gets.bind {α β : Type} {r : R α} {k : α → Mu → R β} {P : β → Mu → Prop} (h : Gets r fun a μ => Gets (k a μ) P) : Gets (r.bind k) P := by
  obtain ⟨ρ, μ, rfl, h⟩ := h.ex
  exact h
/-- a def's run -/
theorem Gets.run {n N : Nat} {m : MS} {args : List Val} {μ : Mu} {P : Val → Mu → Prop} (hl : args.length = n) (h : Rets (m (startV N args) μ) P) : Gets (runM n N m args μ) P := by
  unfold runM
  rw [if_pos hl]
  cases e : m (startV N args) μ with
  | ok a μ1 =>
    rw [e] at h
    cases a with
    | nx ρ => exact h
    | rt v => exact h
    | bk _ => exact h.elim
    | ct _ => exact h.elim
  | er _ _ _ => rw [e] at h; exact h.elim
  | no => rw [e] at h; exact h.elim
/-! ### loops -/
section
variable {get : Mu → Option (List Val)} {g : Val → Rho → Option Rho} {body : MS} {P : Rho → Mu → Prop}
/-- a for whose body always goes on, by an invariant -/
theorem for_goes {vs : List Val} (I : Nat → Rho → Mu → Prop) (hget : ∀ i ρ μ, i ≤ vs.length → I i ρ μ → get μ = some vs)
    (hs : ∀ i v ρ μ, vs[i]? = some v → I i ρ μ → ∃ ρ1, g v ρ = some ρ1 ∧ Goes (body ρ1 μ) (I (i + 1))) (hd : ∀ ρ μ, I vs.length ρ μ → P ρ μ) :
    ∀ (f i : Nat) (ρ : Rho) (μ : Mu), i + f = vs.length + 1 → i ≤ vs.length → I i ρ μ → Goes (forM' get g body f i ρ μ) P
  | 0, i, ρ, μ, hf, hi, h => by omega
  | f + 1, i, ρ, μ, hf, hi, h => by
    have hg := hget i ρ μ (by omega) h
    by_cases c : i < vs.length
    · obtain ⟨ρ1, h1, h2⟩ := hs i vs[i] ρ μ (List.getElem?_eq_getElem c) h
      obtain ⟨ρ2, μ2, h3, h4⟩ := h2.ex
      have h5 := for_goes I hget hs hd f (i + 1) ρ2 μ2 (by omega) (by omega) h4
      rw [forM', hg]
      simp only [List.getElem?_eq_getElem c, h1, h3]
      exact h5
    · have e : i = vs.length := by omega
      subst e
      rw [forM', hg]
      simp only [List.getElem?_eq_none (Nat.le_refl _)]
      exact hd _ _ h
theorem sFor_goes {it : MI} {ρ : Rho} {μ μ1 : Mu} {k : Wk} {vs : List Val} (hi : it ρ μ = .ok k μ1) (hv : k.items μ1 = some vs) (I : Nat → Rho → Mu → Prop) (h0 : I 0 ρ μ1) (hget : ∀ i ρ μ, i ≤ vs.length → I i ρ μ → k.items μ = some vs)
    (hs : ∀ i v ρ μ, vs[i]? = some v → I i ρ μ → ∃ ρ1, g v ρ = some ρ1 ∧ Goes (body ρ1 μ) (I (i + 1))) (hd : ∀ ρ μ, I vs.length ρ μ → P ρ μ) : Goes (sFor it g body ρ μ) P := by
  unfold sFor
  rw [hi, R.bind_ok]
  simp only [hv]
  exact for_goes I hget hs hd _ 0 ρ μ1 (by omega) (Nat.zero_le _) h0
end
end Wn
/-! the law's level: comprehensions, plainly -/
namespace Wn
open PySem PySem.Spec PyProof.Rows L2 LamX He
section
variable {k : Wk} {g : Val → Rho → Option Rho} {c : MT} {elt : ME} {ρ : Rho} {μ : Mu} {vs : List Val} {rv : Val → Rho} {p : Val → Bool} {f : Val → Val}
end
end Wn
/-! the law's level: the script comes in -/
namespace Wn
open PySem PySem.Spec PyProof.Rows L2 LamX He
theorem law_sp {K : PySem.W.Frag} {d : List Val → Mu → R Val} (hd : ∀ (μ : Mu) (s : Nat) (ns : List Int), ns.length ≤ 63 → seqOf μ s = some (ns.map Val.int) → s < μ.nx → Gets (d [.loc s] μ) fun v _ => v = .bl true)
    (H : Hp) (a : Addr) (ns : List Int) (hl : ns.length ≤ 63) (htb : Tabs (TbK K) H) (h : SqL K H a (ns.map V.int)) : spM K 1 d [.ref a] H (fun v _ => v = .bl true) fun _ _ _ => False := by
  have fin : ∀ (w : Wt) (μ : Mu), w.ad 0 = a → μ.nx = 1 → seqOf μ 0 = some (ns.map Val.int) → Sim K w μ H → spM K 1 d [.ref a] H (fun v _ => v = .bl true) fun _ _ _ => False := fun w μ ha hn hq S => by
    refine ⟨rfl, w, μ, [.loc 0], S, VRs.one ?_, ?_⟩
    · rw [← ha]
      exact VR.loc (by omega)
    · obtain ⟨v, μ', e, rfl⟩ := (hd μ 0 ns hl hq (by omega)).ex
      rw [e]
      intro w' H' u S' r _
      cases r
      rfl
  have hns := VRs.ints (K := K) (ad := ⟨fun _ => a, fun _ => ⟨0, 0, 0, 0, 0, 0, 0, [], []⟩, fun _ => 0⟩) (b := 1) (H := H) ns
  have one : ∀ o : Ob, ObR K ⟨⟨fun _ => a, fun _ => ⟨0, 0, 0, 0, 0, 0, 0, [], []⟩, fun _ => 0⟩, fun _ => 0⟩ 1 H 0 o → Sim K ⟨⟨fun _ => a, fun _ => ⟨0, 0, 0, 0, 0, 0, 0, [], []⟩, fun _ => 0⟩, fun _ => 0⟩ ⟨1, fun n => if n = 0 then some o else none, fun _ => 0⟩ H := fun o ho => by
    refine ⟨fun n hn => if_neg (by have : 1 ≤ n := hn; omega), fun _ => rfl, fun n p hp => ?_, fun n m hnm b hb => ?_, htb⟩
    · by_cases c : n = 0
      · subst c
        have hp : (if (0 : Nat) = 0 then some o else none) = some p := hp
        rw [if_pos rfl] at hp
        cases hp
        exact ho
      · have hp : (if n = 0 then some o else none) = some p := hp
        rw [if_neg c] at hp
        cases hp
    · by_cases c : n = 0
      · have e : (if m = 0 then some o else none : Option Ob) = none := if_neg (by omega)
        show b ∉ ft _ m (if m = 0 then some o else none)
        rw [e]
        exact List.not_mem_nil
      · have hb : b ∈ ft _ n (if n = 0 then some o else none) := hb
        rw [if_neg c] at hb
        cases hb
  rcases h with (h | h) | h
  · exact fin _ ⟨1, fun n => if n = 0 then some (.lst (ns.map Val.int)) else none, fun _ => 0⟩ rfl rfl rfl (one _ ⟨_, h, hns⟩)
  · exact fin _ ⟨1, fun n => if n = 0 then some (.ro (ns.map Val.int)) else none, fun _ => 0⟩ rfl rfl rfl (one _ ⟨_, .inl h, hns⟩)
  · exact fin _ ⟨1, fun n => if n = 0 then some (.ro (ns.map Val.int)) else none, fun _ => 0⟩ rfl rfl rfl (one _ ⟨_, .inr h, hns⟩)
end Wn
/-! the law's level: list.index -/
namespace Wn
open PySem PySem.Spec PyProof.Rows L2 LamX He
def idxM (x : Val) (xs : List Val) (μ : Mu) : R Val := match datM μ x, xs with
  | some (.list ds), [y] => match datM μ y with
    | some d => match ds.findIdx? (fun z => PyData.eqv z d) with
      | some j => .ok (.int (j : Nat)) μ
      | none => .no
    | none => .no
  | _, _ => .no
/-! ### or, and, by truth -/
def truM : Val → Mu → Option Bool
  | .non, _ => some false
  | .bl b, _ => some b
  | .int i, _ => some (i != 0)
  | .str x, _ => if x.length ≤ 1000000 then some ((x.length : Int) != 0) else none
  | .tup vs, _ => some (!vs.isEmpty)
  | .loc n, μ => match seqOf μ n with
    | some vs => some (!vs.isEmpty)
    | none => none
  | _, _ => none
theorem vrs_emp {K : PySem.W.Frag} {ad : Adr} {b : Nat} {H : Hp} {vs : List Val} {us : List V} (h : VRs K ad b H vs us) : us.isEmpty = vs.isEmpty := by
  cases h <;> rfl
theorem truM_ok {K : PySem.W.Frag} {w : Wt} {μ : Mu} {H : Hp} (S : Sim K w μ H) {x : Val} {u : V} {k : Bool} (h : truM x μ = some k) (r : VR K w.ad μ.nx H x u) : TruV K u H k := by
  cases r with
  | non => cases h; rfl
  | bl b => cases h; rfl
  | int i => cases h; rfl
  | str x =>
    unfold truM at h
    simp only at h
    split at h
    · rename_i hl
      cases h
      exact ⟨Nat.le_trans hl (by decide), rfl⟩
    · cases h
  | vw _ _ _ => cases h
  | tup a b => cases h; exact .inr (.inl ⟨_, a, by rw [vrs_emp b]⟩)
  | @loc n hn =>
    unfold truM at h
    simp only at h
    split at h
    · rename_i vs e
      cases h
      obtain ⟨us, s1, s2⟩ := seqOf_sq S e
      exact .inl ⟨us, s1, by rw [vrs_emp s2]⟩
    · cases h
def mOrT (a b : ME) : ME := fun ρ μ => (a ρ μ).bind fun x μ => match truM x μ with
  | some true => .ok x μ
  | some false => b ρ μ
  | none => .no
def mAndT (a b : ME) : ME := fun ρ μ => (a ρ μ).bind fun x μ => match truM x μ with
  | some true => b ρ μ
  | some false => .ok x μ
  | none => .no
section
variable {X : Cx} {E : XK} {a b : Expr} {rest : List Expr} {pos : Pos} {ma mb : ME}
theorem pm_orT (ha : PM X E a ma) (hb : PM X E (.BoolOp .Or (b :: rest) pos) mb) : PM X E (.BoolOp .Or (a :: b :: rest) pos) (mOrT ma mb) :=
  PE.imp (pe_orT ha hb) fun σ H Q ⟨w, ρ, μ, S, EN, hp⟩ => ⟨w, ρ, μ, S, EN, Post.bind hp fun x μ1 w1 H1 u1 S1 r1 g1 h1 => by
    cases e : truM x μ1 with
    | none => rw [e] at h1; exact h1.elim
    | some c =>
      rw [e] at h1
      refine ⟨c, truM_ok S1 e r1, ?_⟩
      cases c with
      | true => exact iteT (h1 w1 H1 _ S1 r1 .refl)
      | false => exact iteF ⟨w1, ρ, μ1, S1, EN.grow g1, h1⟩⟩
theorem pm_andT (ha : PM X E a ma) (hb : PM X E (.BoolOp .And (b :: rest) pos) mb) : PM X E (.BoolOp .And (a :: b :: rest) pos) (mAndT ma mb) :=
  PE.imp (pe_andT ha hb) fun σ H Q ⟨w, ρ, μ, S, EN, hp⟩ => ⟨w, ρ, μ, S, EN, Post.bind hp fun x μ1 w1 H1 u1 S1 r1 g1 h1 => by
    cases e : truM x μ1 with
    | none => rw [e] at h1; exact h1.elim
    | some c =>
      rw [e] at h1
      refine ⟨c, truM_ok S1 e r1, ?_⟩
      cases c with
      | true => exact iteT ⟨w1, ρ, μ1, S1, EN.grow g1, h1⟩
      | false => exact iteF (h1 w1 H1 _ S1 r1 .refl)⟩
end
end Wn
/-! the law's level: methods by keywords alone -/
namespace Wn
open PySem PySem.Spec PyProof.Rows L2 LamX He
section
variable {X : Cx} {E : XK} {k n : Nat} {f : Addr} {fd : FuncData} {ps ks : List Str} {sp : Sp} {m : Str} {p pos apos kpos : Pos} {o e : Expr} {es : List Expr} {kws : List Keyword} {mo me : ME} {mr mk : MA} {fm : MSy}
end
end Wn
/-! the law's level: int of truths, list(range(a, b)), dict of pairs -/
namespace Wn
open PySem PySem.Spec PyProof.Rows L2 LamX He
def intBM : List Val → Mu → R Val
  | [.int i], μ => .ok (.int i) μ
  | [.bl k], μ => .ok (.int (if k then 1 else 0)) μ
  | _, _ => .no
@[irreducible] def okR (i : Int) : Bool := decide (-1000000 ≤ i ∧ i ≤ 1000000)
def mListR2 (m : MA) : ME := fun ρ μ => (m ρ μ).bind fun vs μ => match vs with
  | [.int i, .int j] => if okR i = true ∧ okR j = true then .ok (.loc μ.nx) (μ.new (.lst (rngM i (j - i).toNat))) else .no
  | _ => .no
section
variable {K : PySem.W.Frag}
theorem putK_new {kvs : List (Key × V)} {k : Key} {v : V} (h : k ∉ kvs.map (·.1)) : putK kvs k v = kvs ++ [(k, v)] := by
  unfold putK
  rw [if_neg]
  intro z
  obtain ⟨p, hp, q⟩ := List.any_eq_true.mp z
  exact h (List.mem_map.mpr ⟨p, hp, by simpa using q⟩)
theorem mergeK_nd : ∀ (more kvs : List (Key × V)), ((kvs ++ more).map (·.1)).Nodup → mergeK kvs more = kvs ++ more
  | [], kvs, _ => (List.append_nil _).symm
  | p :: more, kvs, h => by
    show mergeK (putK kvs p.1 p.2) more = _
    have h1 : p.1 ∉ kvs.map (·.1) := fun z => by
      rw [List.map_append, List.map_cons] at h
      exact (List.nodup_append.mp h).2.2 _ z _ List.mem_cons_self rfl
    rw [putK_new h1, mergeK_nd more (kvs ++ [(p.1, p.2)]) (by rw [List.append_assoc]; exact h), List.append_assoc]
    rfl
end
section
variable {X : Cx} {E : XK}
end
end Wn
/-! the law's level: list.remove -/
namespace Wn
open PySem PySem.Spec PyProof.Rows L2 LamX He
def remLM (x : Val) (xs : List Val) (μ : Mu) : R Val := match lstOf x μ, xs with
  | some (n, vs), [.int k] => match intsOf vs with
    | some l => match l.findIdx? (fun z => decide (z = k)) with
      | some j => .ok .non (μ.put n (.lst ((l.eraseIdx j).map Val.int)))
      | none => .no
    | none => .no
  | _, _ => .no
end Wn
/-! the law's level: lambdas that are called at once, errors that are caught, repr, dicts -/
namespace Wn
open PySem PySem.Spec PyProof.Rows L2 LamX He

/-! ### a def that makes lambdas: its code object is known -/
section
variable {P : Program} {w : World} {K : PySem.W.Frag} {mg : Str → Option Value} {base : Heap} {x : Str} {params : Arguments} {body : List Stmt} {scope : Scope} {dvs : List V} {kws : List (Str × V)} {fd : FuncData}
theorem okMc {N ps : List Str} {k n N' : Nat} {m : MS} (F : FunD K x x params body scope dvs kws (ga K x) fd) (Sc : FnScope N ps scope) (hn : n = ps.length) (hN : N' = N.length)
    (hbody : ∀ (cdv : Value) (A : Around) (outer : List Env) (s : Shared) (H : Hp), cdv = .ref (cT K (x, none)).1 → A.guards = some [] → Room k (A.deeper (envOfC x scope s.heap.objs.size (ga K x) cdv)) → PMSs (cxOf CX0 P w K mg base N x scope (ga K x) cdv A outer s H E0').nox E0' body m) :
    FnG P w K mg base CX0 (k + 1) (ga K x) fd ps (spM K n (runM n N' m)) := by
  have key : ∀ cdv oc od dV kV doc pm an ct osl, K.lookup (ga K x) = some ⟨oc, od, .func (PySem.W.fnOf x x params body scope dV kV doc pm an cdv ct), osl⟩ → PySem.W.codeIn K cdv x = true → cdv = .ref (cT K (x, none)).1 := fun cdv oc od dV kV doc pm an ct osl lk hcd => by
    obtain ⟨c, rfl⟩ := codeIn_ref hcd
    have e := codeOf_eq (K := K) (p := (x, none)) lk rfl
    exact congrArg Value.ref e.symm
  subst hn hN
  obtain ⟨oc, od, dV, kV, doc, pm, an, cdv, ct, osl, rfl, lk, hcd, _, _⟩ := F.ex
  refine ⟨fun vs H Q E h => h.1, fun A outer s H args us vs Q E hg hr e0 hb r hsp => ?_⟩
  refine run_ofS lk hcd Sc hr e0 hb r hsp.1 fun hr' => ?_
  obtain ⟨hl, w', μ, args, S, r, hp⟩ := hsp
  refine ⟨_, PSs.nox (hbody cdv A outer s H (key _ _ _ _ _ _ _ _ _ _ lk hcd) hg hr'), w', startV N.length args, μ, S, EnvR.start r, ?_⟩
  unfold runM at hp
  rw [if_pos (by rw [← r.length]; exact hl)] at hp
  show PostS K E0' w' μ.nx H _ (m (startV N.length args) μ)
  cases hm : m (startV N.length args) μ with
  | no => rw [hm] at hp; exact hp
  | er c fs μ1 => rw [hm] at hp; exact hp
  | ok a μ1 =>
    rw [hm] at hp
    cases a with
    | nx ρ => exact fun w1 H1 σ1 S1 EN1 g1 => hp w1 H1 _ S1 .non g1
    | rt v => exact fun w1 H1 u S1 r1 g1 => hp w1 H1 u S1 r1 g1
    | bk ρ => exact hp.elim
    | ct ρ => exact hp.elim
end
/-! ### x(lambda: e), where x returns what e is, or tells the error -/
inductive Oi where
  | tag (x : Str) | fld (f : Str) | isi
def itM (fs : List (Str × Val)) : Oi → Option Val
  | .tag x => some (.str x)
  | .fld f => fs.lookup f
  | .isi => some (.bl true)
def itV (us : List (Str × V)) : Oi → Option V
  | .tag x => some (.str x)
  | .fld f => us.lookup f
  | .isi => some (.bl true)
def itsM (fs : List (Str × Val)) : List Oi → Option (List Val)
  | [] => some []
  | i :: r => match itM fs i, itsM fs r with
    | some v, some vs => some (v :: vs)
    | _, _ => none
def itsV (us : List (Str × V)) : List Oi → Option (List V)
  | [] => some []
  | i :: r => match itV us i, itsV us r with
    | some v, some vs => some (v :: vs)
    | _, _ => none
section
variable {K : PySem.W.Frag} {ad : Adr} {b : Nat} {H : Hp}
theorem lookup_rel {f : Str} : ∀ {fs : List (Str × Val)} {us : List (Str × V)} {v : Val}, us.map (·.1) = fs.map (·.1) → VRs K ad b H (fs.map (·.2)) (us.map (·.2)) → fs.lookup f = some v → ∃ u, us.lookup f = some u ∧ VR K ad b H v u
  | [], [], _, _, _, h => by cases h
  | p :: fs, q :: us, v, hk, r, h => by
    simp only [List.map_cons, List.cons.injEq] at hk
    obtain ⟨p1, p2⟩ := p
    obtain ⟨q1, q2⟩ := q
    obtain ⟨rfl, hk⟩ := hk
    cases r with
    | cons r1 r2 =>
      rw [List.lookup_cons] at h ⊢
      cases c : (f == q1) with
      | true =>
        rw [c] at h
        cases h
        exact ⟨q2, rfl, r1⟩
      | false =>
        rw [c] at h
        exact lookup_rel hk r2 h
  | [], _ :: _, _, hk, _, _ => by simp at hk
  | _ :: _, [], _, hk, _, _ => by simp at hk
theorem its_rel {fs : List (Str × Val)} {us : List (Str × V)} (hk : us.map (·.1) = fs.map (·.1)) (r : VRs K ad b H (fs.map (·.2)) (us.map (·.2))) : ∀ {its : List Oi} {vs : List Val}, itsM fs its = some vs → ∃ ws, itsV us its = some ws ∧ VRs K ad b H vs ws
  | [], vs, h => by
    cases h
    exact ⟨[], rfl, .nil⟩
  | i :: its, vs, h => by
    rw [itsM] at h
    split at h
    · rename_i v vs' h1 h2
      cases h
      obtain ⟨ws, e1, e2⟩ := its_rel hk r h2
      have q : ∃ u, itV us i = some u ∧ VR K ad b H v u := by
        cases i with
        | tag x => cases h1; exact ⟨_, rfl, .str _⟩
        | fld f => exact lookup_rel hk r h1
        | isi => cases h1; exact ⟨_, rfl, .bl _⟩
      obtain ⟨u, e3, e4⟩ := q
      refine ⟨u :: ws, ?_, .cons e4 e2⟩
      rw [itsV, e3, e1]
    · cases h
end
abbrev Ohs := List (Str × List Oi)
def findH (hs : Ohs) (c : Str) : Option (List Oi) := match hs with
  | [] => none
  | (x, its) :: r => if x = c then some its else findH r c
theorem findH_mem {hs : Ohs} {c : Str} {its : List Oi} (h : findH hs c = some its) : (c, its) ∈ hs := by
  induction hs with
  | nil => cases h
  | cons p r ih =>
    obtain ⟨x, its'⟩ := p
    rw [findH] at h
    split at h
    · rename_i e
      subst e
      cases h
      exact List.mem_cons_self
    · exact List.mem_cons_of_mem _ (ih h)
/-- an error that a clause tells -/
def Eo (K : PySem.W.Frag) (hs : Ohs) (Q : VK) : XK := fun cls d H => ∃ c its dd us vs, (c, its) ∈ hs ∧ cls = .ref (ga K c) ∧ d = some dd ∧ H dd = some (.xd us) ∧ itsV us its = some vs ∧ ∀ p, H p = none → Q (.ref p) (upd H p (.lst vs))
section
variable {X : Cx} {E : XK}
theorem takes_len {W : WX} (tk : Takes X W) (h : ∀ cls d σ H, σ.length = X.N.length → E cls d H → W cls d σ H) : Takes X (fun cls d _ H => E cls d H) := fun u s' xx => by
  obtain ⟨a, B, sI, pins', σ', H', cls, d, rfl, J', nb, up, sky, na, os, ag, w⟩ := xx
  exact tk _ _ ⟨a, B, sI, pins', σ', H', cls, d, rfl, J', nb, up, sky, na, os, ag, h _ _ _ _ J'.len w⟩
end
/-! ### repr -/
def repOk (d : PyData) : Prop := d.showable = true ∧ d.hasDict = false ∧ d.depth ≤ 100 ∧ d.shown.length ≤ sizeLine
instance (d : PyData) : Decidable (repOk d) := by unfold repOk; infer_instance
section
variable {K : PySem.W.Frag}
end
/-! ### dicts -/
section
variable {X : Cx} {E : XK} {K : PySem.W.Frag} {pos : Pos}
/-! ### a, b = a list -/
end
end Wn
/-! the law's level: the tables of those who make lambdas -/
namespace Wn
open PySem PySem.Spec PyProof.Rows L2 LamX He
def TBk (K : PySem.W.Frag) (mg : Str → Option Value) (base : Heap) : Prop := ∀ x ∈ lamL, TabB base mg (cT K (x, none)).1 (cT K (x, none)).2
theorem tb_mem {K : PySem.W.Frag} {x : Str} (h : x ∈ lamL) : ((cT K (x, none)).2, x ++ ".<locals>." ++ "<lambda>") ∈ TbK K := List.mem_map.mpr ⟨x, h, rfl⟩
theorem tb_one {K : PySem.W.Frag} {x : Str} (h : lamL = [x]) : ∀ p ∈ TbK K, p.1 = (cT K (x, none)).2 → p.2 = x ++ ".<locals>." ++ "<lambda>" := fun p hp _ => by
  unfold TbK at hp
  rw [h] at hp
  cases List.mem_singleton.mp hp
  rfl
theorem itsV_cons {us : List (Str × V)} {i : Oi} {r : List Oi} {vs : List V} (h : itsV us (i :: r) = some vs) : ∃ v vs', vs = v :: vs' ∧ itV us i = some v ∧ itsV us r = some vs' := by
  rw [itsV] at h
  split at h
  · rename_i v vs' h1 h2
    cases h
    exact ⟨v, vs', rfl, h1, h2⟩
  · cases h
theorem call_isXK (K : PySem.W.Frag) {X : Cx} {a : Addr} {oe : Obj} {cls : Value} {d : Option Addr} {pn : List (Addr × Obj)} (hz : Zc cls d oe) (hf : ∃ vs, oe.data = .fields vs) (hK : X.K = K := by rfl) : CallR (X.suite a ((a, oe) :: pn)) (.builtin "isinstance") (fun xs H Q => rIsX K cls a xs H fun v H' => (∃ dd fs, d = some dd ∧ H dd = some (.xd fs)) ∧ Q v H') := by
  subst hK
  exact call_isX hz hf
/-! ### texts compared -/
/-! ### data that repr shows -/
end Wn
/-! the law's level: methods of dicts -/
namespace Wn
open PySem PySem.Spec PyProof.Rows L2 LamX He
def dctV (x : Val) (μ : Mu) : Option (List (Key × Val)) := match x with
  | .loc n => dctOf μ n
  | _ => none
def mDm (f : Val → Val → Mu → R Val) (o k : ME) : ME := fun ρ μ => (o ρ μ).bind fun x μ => match dctV x μ with
  | some _ => (k ρ μ).bind fun y μ => f x y μ
  | none => .no
def popDM : Val → Val → Mu → R Val
  | .loc n, y, μ => match μ.ob n, keyOf y with
    | some (.dct kvs), some k => match kGet kvs k with
      | some v => .ok v (μ.put n (.dct (kDrop kvs k)))
      | none => .no
    | _, _ => .no
  | _, _, _ => .no
def getDM : Val → Val → Mu → R Val
  | .loc n, y, μ => match dctOf μ n, keyOf y with
    | some kvs, some k => .ok ((kGet kvs k).getD .non) μ
    | _, _ => .no
  | _, _, _ => .no
section
variable {X : Cx} {E : XK} {o e : Expr} {apos cpos : Pos} {mo me : ME}
end
end Wn
/-! the law's level: dict displays -/
namespace Wn
open PySem PySem.Spec PyProof.Rows L2 LamX He
def mPrs : List (ME × ME) → Rho → Mu → R (List (Val × Val))
  | [], _, μ => .ok [] μ
  | (a, b) :: r, ρ, μ => (a ρ μ).bind fun x μ => (b ρ μ).bind fun y μ => (mPrs r ρ μ).bind fun ps μ => .ok ((x, y) :: ps) μ
def kvOf : List (Val × Val) → Option (List (Key × Val))
  | [] => some []
  | (x, y) :: r => match keyOf x, kvOf r with
    | some k, some l => some ((k, y) :: l)
    | _, _ => none
def mDisp (prs : List (ME × ME)) : ME := fun ρ μ => (mPrs prs ρ (μ.new (.dct []))).bind fun ps μ1 => match kvOf ps, μ1.ob μ.nx with
  | some kvs, some (.dct []) => if (kvs.map (·.1)).Nodup ∧ kvs.length ≤ 15 then .ok (.loc μ.nx) (μ1.put μ.nx (.dct kvs)) else .no
  | _, _ => .no
def relP (K : PySem.W.Frag) : Rel (List (Val × Val)) (List (V × V)) := fun w b H ps us => VRs K w.ad b H (ps.map (·.1)) (us.map (·.1)) ∧ VRs K w.ad b H (ps.map (·.2)) (us.map (·.2))
theorem tPairs_of {K : PySem.W.Frag} {E : XK} : ∀ (prs : List (ME × ME)) (σ : L2.St) (H : Hp) (Q : List (V × V) → Hp → Prop), tM K (relP K) E (mPrs prs) σ H Q → tPairs (prs.map fun p => (tM K (relE K) E p.1, tM K (relE K) E p.2)) σ H Q
  | [], σ, H, Q, ⟨w, ρ, μ, S, EN, hp⟩ => hp w H [] S ⟨.nil, .nil⟩ .refl
  | (a, b) :: r, σ, H, Q, ⟨w, ρ, μ, S, EN, hp⟩ => ⟨w, ρ, μ, S, EN, Post.bind hp fun x μ1 w1 H1 u1 S1 r1 g1 h1 => ⟨w1, ρ, μ1, S1, EN.grow g1, Post.bind h1 fun y μ2 w2 H2 u2 S2 r2 g2 h2 =>
      tPairs_of r σ H2 _ ⟨w2, ρ, μ2, S2, (EN.grow g1).grow g2, Post.bind h2 fun ps μ3 w3 H3 us S3 r3 g3 h3 => h3 w3 H3 ((u1, u2) :: us) S3 ⟨.cons (VR.grow g3 (VR.grow g2 r1)) r3.1, .cons (VR.grow g3 r2) r3.2⟩ .refl⟩⟩⟩
theorem kvOf_rel {K : PySem.W.Frag} {ad : Adr} {b : Nat} {H : Hp} : ∀ {ps : List (Val × Val)} {us : List (V × V)} {kvs : List (Key × Val)}, kvOf ps = some kvs → VRs K ad b H (ps.map (·.1)) (us.map (·.1)) → VRs K ad b H (ps.map (·.2)) (us.map (·.2)) →
    ∃ ks : List (Key × V), us = ks.map (fun kv => (kV kv.1, kv.2)) ∧ ks.map (·.1) = kvs.map (·.1) ∧ VRs K ad b H (kvs.map (·.2)) (ks.map (·.2))
  | [], [], kvs, h, _, _ => by
    cases h
    exact ⟨[], rfl, rfl, .nil⟩
  | [], _ :: _, kvs, h, r, _ => by cases r
  | (x, y) :: ps, [], kvs, h, r, _ => by cases r
  | (x, y) :: ps, (u, v) :: us, kvs, h, r, s => by
    rw [kvOf] at h
    split at h
    · rename_i k l h1 h2
      cases h
      cases r with
      | cons r1 r2 =>
        cases s with
        | cons s1 s2 =>
          obtain ⟨ks, e1, e2, e3⟩ := kvOf_rel h2 r2 s2
          refine ⟨(k, v) :: ks, ?_, ?_, .cons s1 e3⟩
          · rw [List.map_cons, ← e1]
            show (u, v) :: us = (kV k, v) :: us
            have e : u = kV k := keyOf_kV h1 r1
            rw [e]
          · rw [List.map_cons, List.map_cons, e2]
    · cases h
section
variable {X : Cx} {E : XK} {pos : Pos}
def PMP (X : Cx) (E : XK) (pos : Pos) (keys : List (Option Expr)) (vals : List Expr) (prs : List (ME × ME)) : Prop := PPs X pos keys vals (prs.map fun p => (tM X.K (relE X.K) E p.1, tM X.K (relE X.K) E p.2))
theorem pmp_nil : PMP X E pos [] [] [] := pps_nil
theorem pmp_cons {k v : Expr} {ks : List (Option Expr)} {vs : List Expr} {a b : ME} {prs : List (ME × ME)} (hk : PM X E k a) (hv : PM X E v b) (hr : PMP X E pos ks vs prs) : PMP X E pos (some k :: ks) (v :: vs) ((a, b) :: prs) := pps_cons hk hv hr
theorem pm_disp {keys : List (Option Expr)} {vals : List Expr} {prs : List (ME × ME)} (h : PMP X E pos keys vals prs) (hall : keys.all (·.isSome) = true := by rfl) (hl : keys.length = vals.length := by rfl) (h0 : keys ≠ [] := by exact fun z => nomatch z) (h15 : keys.length ≤ 15 := by decide) : PM X E (.Dict keys vals pos) (mDisp prs) :=
  PE.imp (pe_disp h hall hl h0 h15) fun σ H Q ⟨w, ρ, μ, S, EN, hp⟩ => fun p np => by
    obtain ⟨w0, S0, g0, e0⟩ := S.newD np (kvs := []) (us := []) rfl .nil
    unfold mDisp at hp
    have hp' := Post.grow hp g0
    refine tPairs_of prs σ _ _ ⟨w0, ρ, μ.new (.dct []), S0, EN.grow g0, Post.bind hp' fun ps μ1 w1 H1 us S1 r1 g1 h1 => ?_⟩
    split at h1
    · rename_i kvs hk hob
      split at h1
      · rename_i hc
        obtain ⟨us0, q1, q2, q3⟩ := S1.ok _ _ hob
        have ea : w1.ad μ.nx = p := (g1.ad μ.nx (Nat.lt_succ_self _)).trans e0
        have e2 : us0 = [] := List.map_eq_nil_iff.mp q2
        subst e2
        obtain ⟨ks, k1, k2, k3⟩ := kvOf_rel hk r1.1 r1.2
        obtain ⟨S4, g4⟩ := S1.setD hob k2 k3
        rw [ea] at q1 S4 g4
        have hm : mergeK [] ks = ks := by
          have := mergeK_nd ks [] (by rw [List.nil_append, k2]; exact hc.1)
          rw [List.nil_append] at this
          exact this
        have hlen : ks.length = kvs.length := by
          have := congrArg List.length k2
          simpa using this
        refine ⟨q1, ks, k1, by rw [hlen]; exact hc.2, ?_⟩
        rw [hm]
        refine h1 w1 _ _ S4 ?_ g4
        rw [← ea]
        exact VR.loc (S1.lt hob)
      · exact h1.elim
    · exact h1.elim
end
end Wn
/-! the law's level: chains of comparisons, isinstance, a dict against {}, two stores at once -/
namespace Wn
open PySem PySem.Spec PyProof.Rows L2 LamX He
section
variable {X : Cx} {E : XK} {e a b c o : Expr} {m ma mb mc mo mi mv : ME} {pos : Pos}
def mChain (f g : Val → Val → Mu → R Val) (a b c : ME) : ME := fun ρ μ => (a ρ μ).bind fun x μ => (b ρ μ).bind fun y μ => (f x y μ).bind fun z μ => match z with
  | .bl true => (c ρ μ).bind fun t μ => g y t μ
  | .bl false => .ok (.bl false) μ
  | _ => .no
theorem pmt_chain {op op' : CmpOp} {f g : Val → Val → Mu → R Val} (hf : CmpP X op f) (hg : CmpP X op' g) (ha : PM X E a ma) (hb : PM X E b mb) (hc : PM X E c mc) (hm : lastMarks [op, op'] [b, c] = false := by with_unfolding_all rfl) : PMT X E (.Compare a [op, op'] [b, c] pos) (mTest (mChain f g ma mb mc)) := by
  obtain ⟨r, ho, hf⟩ := hf.ex
  obtain ⟨r', ho', hg⟩ := hg.ex
  refine PT.imp (pt_chain ho ho' ha hb hc hm) fun σ H Q ⟨w, ρ, μ, S, EN, hp⟩ => ?_
  have hp := post_test hp
  exact ⟨w, ρ, μ, S, EN, Post.bind hp fun x μ1 w1 H1 u1 S1 r1 g1 h1 => ⟨w1, ρ, μ1, S1, EN.grow g1, Post.bind h1 fun y μ2 w2 H2 u2 S2 r2 g2 h2 =>
    hf E w2 μ2 H2 x y u1 u2 _ S2 (VR.grow g2 r1) r2 (Post.bind h2 fun z μ3 w3 H3 u3 S3 r3 g3 h3 => by
      split at h3
      · cases r3
        exact ⟨true, rfl, iteT ⟨w3, ρ, μ3, S3, ((EN.grow g1).grow g2).grow g3, Post.bind h3 fun t μ4 w4 H4 u4 S4 r4 g4 h4 => hg E w4 μ4 H4 y t u2 u4 _ S4 (VR.grow g4 (VR.grow g3 r2)) r4 h4⟩⟩
      · cases r3
        exact ⟨false, rfl, iteF (h3 w3 H3 _ S3 (.bl false) .refl)⟩
      · exact h3.elim)⟩⟩
/-- isinstance(x, int), isinstance(x, bool) -/
def isiM (bo : Bool) (x : Val) (μ : Mu) : R Val := match x with
  | .int _ => .ok (.bl (!bo)) μ
  | .bl _ => .ok (.bl true) μ
  | .non => .ok (.bl false) μ
  | .str _ => .ok (.bl false) μ
  | .tup _ => .ok (.bl false) μ
  | .loc n => match seqOf μ n with
    | some _ => .ok (.bl false) μ
    | none => .no
  | .vw _ _ _ => .no
def sDst2 (m o1 i1 o2 i2 : ME) : MS := fun ρ μ => (m ρ μ).bind fun v μ => match v with
  | .tup [a, b] => (o1 ρ μ).bind fun o μ => (i1 ρ μ).bind fun i μ => (dstoM o i a μ).bind fun _ μ => (o2 ρ μ).bind fun o μ => (i2 ρ μ).bind fun i μ => (dstoM o i b μ).bind fun _ μ => .ok (.nx ρ) μ
  | _ => .no
def neD0M : Val → Val → Mu → R Val
  | .loc n, .loc m, μ => match μ.ob n, μ.ob m with
    | some (.dct kvs), some (.dct []) => .ok (.bl (!kvs.isEmpty)) μ
    | _, _ => .no
  | _, _, _ => .no
end
end Wn
/-! any, all of a list of truths; what is never reached -/
namespace Wn
open PySem PySem.Spec PyProof.Rows L2 LamX He
theorem bls_plain : ∀ bs : List Bool, PyData.plainAll (bs.map PyData.bool) = true
  | [] => rfl
  | b :: bs => by
    rw [List.map_cons, PyData.plainAll, bls_plain bs]
    rfl
theorem bls_dp {K : PySem.W.Frag} {H : Hp} : ∀ bs : List Bool, DpAll K H (bs.map V.bl) (bs.map PyData.bool)
  | [] => .nil
  | b :: bs => .cons (.bl b) (bls_dp bs)
theorem bls_truthy (bs : List Bool) : (bs.map PyData.bool).any PyData.truthy = bs.any id ∧ (bs.map PyData.bool).all PyData.truthy = bs.all id := by
  induction bs with
  | nil => exact ⟨rfl, rfl⟩
  | cons b bs ih => exact ⟨by rw [List.map_cons, List.any_cons, List.any_cons, ih.1]; rfl, by rw [List.map_cons, List.all_cons, List.all_cons, ih.2]; rfl⟩
section
variable {X : Cx}
theorem cr_allB (hc : X.calm = true) : CallR X (.builtin "all") (fun vs H Q => ∃ (a : Addr) (bs : List Bool), vs = [V.ref a] ∧ SqL X.K H a (bs.map V.bl) ∧ Q (.bl (bs.all id)) H) := by
  intro pins s σ H vs us Q I r h
  obtain ⟨a, bs, rfl, hs, q⟩ := h
  obtain ⟨its, rv, hl, _⟩ := I.list hs
  rw [Vals.ref1 r]
  obtain ⟨as, ra⟩ := Dp.readsAll I _ _ its (bls_dp bs) rv
  refine PySem.W.all_list_data (I.ok.hd hc) hl.isList (by simpa using ra) (bls_plain bs) (fun x hx => ?_) fun h' tk hk => ?_
  · obtain ⟨b, _, rfl⟩ := List.mem_map.mp hx
    trivial
  · rw [(bls_truthy bs).2]
    exact ⟨.bl _, H, I.kept hk, rfl, q⟩
end
end Wn
/-! d.values(): x in d.values(), list(d.values()) -/
namespace VaI
open PySem PySem.Spec PyProof.Rows L2
section
variable {prog : Program} {w : World} {A : Around} {R : Result → Shared → Prop} {I : Addr} {fp wr : List Addr} {n : Nat} {P : Nat → Value → Prop} {St : Nat → Heap → Prop} {x : Value}
end
section
variable {prog : Program} {w : World} {K : Type} [DecidableEq K] {knd : KeyKind prog w K} {A : Around} {E : Value → Shared → Prop} {s : Shared} {d v : Addr} {kvs : List (K × Value)} {ep : Nat} {x : Value} {Q : Value → Shared → Prop}
end
section
variable {X : Cx} {e o : Expr} {te to : TE} {apos cpos pos : Pos}
end
section
variable {X : Cx} {apos cpos pos : Pos}
end
end VaI
/-! ### the law's level -/
namespace Wn
open PySem PySem.Spec PyProof.Rows L2 LamX He
section
variable {X : Cx} {E : XK} {e o : Expr} {apos cpos pos : Pos} {mo me : ME} {K : PySem.W.Frag}
end
/-! ### a def of the program that is given a system first -/
section
variable {X : Cx} {E : XK} {CX : CXT} {k : Nat} {f : Addr} {fd : FuncData} {ps : List Str} {sp : Sp} {x : Str} {p pos : Pos} {e : Expr} {es : List Expr} {mr : MA} {fm : MSy}
end
end Wn
/-! the law's level: what stands within a system is read -/
namespace Wn
open PySem PySem.Spec PyProof.Rows L2 LamX He

/-- the system at n, also while one of its dicts is walked -/
def svAt (μ : Mu) (n : Nat) : Option Sv := match μ.ob n with
  | some (.sys v) => some v
  | some (.sysL v _) => some v
  | _ => none
def vwAt (μ : Mu) (n k : Nat) : Option Sv := if μ.vr n = k then svAt μ n else none
theorem svAt_sysL {μ : Mu} {n : Nat} {v : Sv} {p : Pth} (h : μ.ob n = some (.sysL v p)) : svAt μ n = some v := by
  unfold svAt
  rw [h]
theorem vwAt_of {μ : Mu} {n k : Nat} {v : Sv} (h : svAt μ n = some v) (e : μ.vr n = k) : vwAt μ n k = some v := by
  unfold vwAt
  rw [if_pos e, h]
theorem vwAt_eq {μ : Mu} {n k : Nat} {v : Sv} (h : vwAt μ n k = some v) : μ.vr n = k ∧ svAt μ n = some v := by
  unfold vwAt at h
  split at h
  · rename_i e
    exact ⟨e, h⟩
  · cases h
structure SyRd (K : PySem.W.Frag) (H : Hp) (s : Sy) : Prop where
  ob : H s.p = some (.ins (ga K "System") s.dx (sysF s.P s.N s.T s.G s.made))
  tb : Rd H s.T (.dK (kv tbV s.tabs))
  tt : ∀ t ∈ s.tabs, Rd H t.2.ad (.dK (kv V.int t.2.rows))
  gb : Rd H s.G (.dK (kv thV s.ths))
  gt : ∀ t ∈ s.ths, TgAt K H t.2.ad t.2.tg
section
variable {K : PySem.W.Frag} {w : Wt} {μ : Mu} {H : Hp} {s : Sy}
theorem SyAt.rd (S : SyAt K H s) : SyRd K H s := ⟨S.ob, .inl S.tb, fun t h => .inl (S.tt t h), .inl S.gb, S.gt⟩
theorem SyL.rd {p : Pth} {f : Addr → Prop} (S : SyL K H s p f) : SyRd K H s := by
  obtain ⟨d, o, us, h1, h2, h3, h4⟩ := S
  have dk : ∀ {a ks}, upd H d (.dK us) a = some (.dK ks) → Rd H a (.dK ks) := fun {a ks} e => by
    by_cases c : a = d
    · subst c
      rw [upd_same] at e
      cases e
      exact .inr ⟨o, h3⟩
    · rw [upd_ne c] at e
      exact .inl e
  have ot : ∀ {a u}, upd H d (.dK us) a = some u → (∀ ks, u ≠ .dK ks) → H a = some u := fun {a u} e ne => by
    by_cases c : a = d
    · subst c
      rw [upd_same] at e
      exact absurd (Option.some.inj e).symm (ne us)
    · rw [upd_ne c] at e
      exact e
  refine ⟨ot h4.ob (fun _ z => by cases z), dk h4.tb, fun t ht => dk (h4.tt t ht), dk h4.gb, fun t ht => ?_⟩
  have q := h4.gt t ht
  cases e : t.2.tg with
  | src dx u f =>
    rw [e] at q
    exact ot q (fun _ z => by cases z)
  | set dx L R es row =>
    rw [e] at q
    obtain ⟨q1, q2, q3, q4⟩ := q
    exact ⟨ot q1 (fun _ z => by cases z), ot q2 (fun _ z => by cases z), ot q3 (fun _ z => by cases z), fun x hx => ot (q4 x hx) (fun _ z => by cases z)⟩
theorem Sim.rd (S : Sim K w μ H) {n : Nat} {v : Sv} (h : svAt μ n = some v) : n < μ.nx ∧ (w.sy n).p = w.ad n ∧ SyRd K H (w.sy n) ∧ (w.sy n).v = v ∧ WF v := by
  unfold svAt at h
  split at h
  · rename_i v' e
    cases h
    obtain ⟨h1, h2, h3, h4⟩ := S.ok _ _ e
    exact ⟨S.lt e, h1, h2.rd, h3, h4⟩
  · rename_i v' p e
    cases h
    obtain ⟨h1, h2, h3, h4⟩ := S.ok _ _ e
    exact ⟨S.lt e, h1, h2.rd, h3, h4⟩
  · cases h
/-- where a view points to -/
theorem Sim.vw (S : Sim K w μ H) {n k : Nat} {p : Pth} {v : Sv} {u : V} (h : vwAt μ n k = some v) (r : VR K w.ad μ.nx H (.vw n k p) u) : ∃ a, u = .ref a ∧ pAdr (w.sy n) p = some a := by
  obtain ⟨e, h2⟩ := vwAt_eq h
  cases r with
  | vw h1 h3 h4 => exact ⟨_, rfl, h4 ((S.vr n).trans e)⟩
/-- a view is handed on -/
theorem Sim.vwOf (S : Sim K w μ H) {n k : Nat} {p : Pth} {v : Sv} {a : Addr} (h : vwAt μ n k = some v) (e : pAdr (w.sy n) p = some a) : VR K w.ad μ.nx H (.vw n k p) (.ref a) := by
  obtain ⟨e1, h2⟩ := vwAt_eq h
  exact .vw (S.rd h2).1 (by rw [S.vr n, e1]; exact Nat.le_refl _) fun _ => e
end
theorem Tg.v_src {tg : Tg} {u : Int} {f : Bool} (h : tg.v = .src u f) : ∃ dx, tg = .src dx u f := by
  cases tg with
  | src dx u' f' => cases h; exact ⟨_, rfl⟩
  | set dx L R es row => cases h
theorem Tg.v_set {tg : Tg} {es : List Ev} {row : List Int} (h : tg.v = .set es row) : ∃ dx L R es', tg = .set dx L R es' row ∧ es'.map En.v = es := by
  cases tg with
  | src dx u' f' => cases h
  | set dx L R es' row' => cases h; exact ⟨_, _, _, _, rfl, rfl⟩
theorem Sy.th_of {s : Sy} {v : Sv} (e : s.v = v) {ser : Int} {tv : Tv} (h : lk v.ths ser = some tv) : ∃ th, lk s.ths ser = some th ∧ th.tg.v = tv := by
  rw [← e, Sy.ths_v] at h
  obtain ⟨th, h1, h2⟩ := Option.map_eq_some_iff.mp h
  exact ⟨th, h1, h2⟩
theorem Sy.tb_of {s : Sy} {v : Sv} (e : s.v = v) {p : Int} {rows : List (Int × Int)} (h : lk v.tabs p = some rows) : ∃ t, lk s.tabs p = some t ∧ t.rows = rows := by
  rw [← e, Sy.tabs_v] at h
  obtain ⟨th, h1, h2⟩ := Option.map_eq_some_iff.mp h
  exact ⟨th, h1, h2⟩
/-! ### attributes -/
section
variable {X : Cx} {E : XK} {e : Expr} {me : ME} {pos : Pos}
end
end Wn
/-! the law's level: dicts and lists within a system are read and walked -/
namespace Wn
open PySem PySem.Spec PyProof.Rows L2 LamX He

theorem SyRd.t {K : PySem.W.Frag} {H : Hp} {s : Sy} (S : SyRd K H s) : SyT K H s := ⟨S.ob, S.tb, S.tt⟩
/-! ### dicts -/
/-- what stands under a key -/
def vgetV (v : Sv) (n k : Nat) (p : Pth) (i : Int) : Option Val := match p with
  | .tabs => (lk v.tabs i).map fun _ => .vw n k (.tab i)
  | .ths => (lk v.ths i).map fun _ => .vw n k (.th i)
  | .tab q => (lk v.tabs q).bind fun rows => (lk rows i).map Val.int
  | _ => none
/-- the keys of a dict -/
def vkeys (v : Sv) (p : Pth) : Option (List Int) := match p with
  | .tabs => some (v.tabs.map (·.1))
  | .ths => some (v.ths.map (·.1))
  | .tab q => (lk v.tabs q).map fun rows => rows.map (·.1)
  | _ => none
section
variable {K : PySem.W.Frag} {w : Wt} {μ : Mu} {H : Hp}
/-- the dict a view stands for -/
theorem Sim.vdict (S : Sim K w μ H) {n k : Nat} {p : Pth} {v : Sv} {a : Addr} {ks : List Int} (h : vwAt μ n k = some v) (e : pAdr (w.sy n) p = some a) (hk : vkeys v p = some ks) : ∃ us : List (Key × V), Rd H a (.dK us) ∧ us.map (·.1) = ks.map Sum.inl ∧
    ∀ i : Int, (∀ y, vgetV v n k p i = some y → ∃ u, valV us (Sum.inl i : Key) = some u ∧ VR K w.ad μ.nx H y u) ∧ (vgetV v n k p i = none → valV us (Sum.inl i : Key) = none) := by
  obtain ⟨q1, q2, q3, q4, q5⟩ := S.rd (vwAt_eq h).2
  have keys : ∀ {α : Type} (g : α → V) (l : List (Int × α)), (kv g l).map (·.1) = (l.map (·.1)).map Sum.inl := fun g l => by
    unfold kv
    rw [List.map_map, List.map_map]
    rfl
  unfold vkeys at hk
  split at hk
  · cases hk
    cases e
    refine ⟨_, q3.tb, by rw [keys, ← Sy.pids, q4], fun i => ⟨fun y hy => ?_, fun hy => ?_⟩⟩
    · obtain ⟨rows, l1, l2⟩ := Option.map_eq_some_iff.mp hy
      obtain ⟨t, t1, t2⟩ := Sy.tb_of q4 l1
      subst l2
      refine ⟨tbV t, by rw [val_kv, t1]; rfl, S.vwOf h ?_⟩
      show (lk (w.sy n).tabs i).map _ = _
      rw [t1]
      rfl
    · have l1 := Option.map_eq_none_iff.mp hy
      rw [← q4, Sy.tabs_v] at l1
      rw [val_kv, Option.map_eq_none_iff.mp l1]
      rfl
  · cases hk
    cases e
    refine ⟨_, q3.gb, by rw [keys, ← Sy.sers, q4], fun i => ⟨fun y hy => ?_, fun hy => ?_⟩⟩
    · obtain ⟨rows, l1, l2⟩ := Option.map_eq_some_iff.mp hy
      obtain ⟨t, t1, t2⟩ := Sy.th_of q4 l1
      subst l2
      refine ⟨thV t, by rw [val_kv, t1]; rfl, S.vwOf h ?_⟩
      show (lk (w.sy n).ths i).map _ = _
      rw [t1]
      rfl
    · have l1 := Option.map_eq_none_iff.mp hy
      rw [← q4, Sy.ths_v] at l1
      rw [val_kv, Option.map_eq_none_iff.mp l1]
      rfl
  · rename_i q
    obtain ⟨rows, l0, l9⟩ := Option.map_eq_some_iff.mp hk
    obtain ⟨t, t1, t2⟩ := Sy.tb_of q4 l0
    subst l9
    have e : (lk (w.sy n).tabs q).map (·.ad) = some a := e
    rw [t1] at e
    cases e
    have rd := q3.tt _ (lk_mem t1)
    refine ⟨_, rd, by rw [keys, t2], fun i => ⟨fun y hy => ?_, fun hy => ?_⟩⟩
    · obtain ⟨rows', l1, l2⟩ := Option.bind_eq_some_iff.mp hy
      rw [l0] at l1
      cases l1
      obtain ⟨ser, l3, l4⟩ := Option.map_eq_some_iff.mp l2
      subst l4
      exact ⟨.int ser, by rw [val_kv, t2, l3]; rfl, .int _⟩
    · have hy : (lk v.tabs q).bind (fun rows => (lk rows i).map Val.int) = none := hy
      rw [l0] at hy
      have hy := Option.map_eq_none_iff.mp (show (lk rows i).map Val.int = none from hy)
      rw [val_kv, t2, hy]
      rfl
  · cases hk
end
section
variable {X : Cx} {E : XK} {a b e : Expr} {ma mb me : ME} {pos : Pos}
end
/-! ### lists -/
section
variable {X : Cx} {E : XK} {e tg : Expr} {m : ME}
end
/-! ### classes -/
def Tv.cls : Tv → Str
  | .src _ _ => "Source"
  | .set _ _ => "WaitSet"
def clsAt (x : Val) (μ : Mu) : Option Str := match x with
  | .vw n k p => match vwAt μ n k with
    | some v => match p with
      | .th ser => (lk v.ths ser).map Tv.cls
      | _ => none
    | none => none
  | .loc n => match svAt μ n with
    | some _ => some "System"
    | none => match μ.ob n with
      | some (.ins C _) => some C
      | _ => none
  | _ => none
theorem Sim.cls {K : PySem.W.Frag} {w : Wt} {μ : Mu} {H : Hp} (S : Sim K w μ H) {x : Val} {u : V} {A : Str} (h : clsAt x μ = some A) (r : VR K w.ad μ.nx H x u) : ∃ a dx fs, u = .ref a ∧ H a = some (.ins (ga K A) dx fs) := by
  unfold clsAt at h
  split at h
  · rename_i n k p
    split at h
    · rename_i v hv
      obtain ⟨a, rfl, ha⟩ := S.vw hv r
      obtain ⟨q1, q2, q3, q4, q5⟩ := S.rd (vwAt_eq hv).2
      split at h
      · rename_i ser
        obtain ⟨tv, l1, l2⟩ := Option.map_eq_some_iff.mp h
        obtain ⟨th, t1, t2⟩ := Sy.th_of q4 l1
        have ha : (lk (w.sy n).ths ser).map (·.ad) = some a := ha
        rw [t1] at ha
        cases ha
        have tg : TgAt K H th.ad th.tg := q3.gt _ (lk_mem t1)
        subst l2
        cases tv with
        | src u f =>
          obtain ⟨dx, ht⟩ := Tg.v_src t2
          rw [ht] at tg
          exact ⟨_, _, _, rfl, tg⟩
        | set es row =>
          obtain ⟨dx, L, R, es', ht, he'⟩ := Tg.v_set t2
          rw [ht] at tg
          exact ⟨_, _, _, rfl, tg.1⟩
      · cases h
    · cases h
  · rename_i n
    cases r with
    | loc hn =>
    split at h
    · rename_i v hv
      cases h
      obtain ⟨q1, q2, q3, q4, q5⟩ := S.rd hv
      rw [← q2]
      exact ⟨_, _, _, rfl, q3.ob⟩
    · split at h
      · rename_i C fs hob
        cases h
        obtain ⟨dx, us, o1, o2, o3⟩ := S.ok _ _ hob
        exact ⟨_, _, _, rfl, o1⟩
      · cases h
  · cases h
section
variable {X : Cx} {E : XK} {e : Expr} {me : ME} {p p2 pos : Pos}
end
end Wn
/-! sorted(xs, key=lambda x: ..): a lambda of one's own names -/
namespace Wn
open PySem PySem.Spec PyProof.Rows L2 LamX He
open PySem.W (AllAlike Sortable dataLe)

section
variable {X : Cx} {pins : List (Addr × Obj)} {σ : L2.St} {H : Hp} {s : Shared}
end
theorem Sqt.same {K : PySem.W.Frag} {H H' : Hp} {a : Addr} {xs : List V} (e : Same H H') (h : SqT K H a xs) : SqT K H' a xs := by
  rcases h with (h | ⟨o, h⟩) | h
  · exact .inl (.inl (e _ _ h))
  · exact .inl (.inr ⟨o, e _ _ h⟩)
  · exact .inr h
theorem Sql.same {K : PySem.W.Frag} {H H' : Hp} {a : Addr} {xs : List V} (e : Same H H') (h : SqL K H a xs) : SqL K H' a xs := by
  rcases h with (h | ⟨o, h⟩) | h
  · exact .inl (.inl (e _ _ h))
  · exact .inl (.inr ⟨o, e _ _ h⟩)
  · exact .inr h

end Wn
/-! the law's level: a dict within a system is walked, locked meanwhile -/
namespace Wn
open PySem PySem.Spec PyProof.Rows L2 LamX He
section
variable {K : PySem.W.Frag} {w w' : Wt} {μ : Mu} {H H' : Hp} {n : Nat} {v : Sv} {p : Pth} {d : Addr} {us : List (Key × V)} {o : Obj}
end
section
variable {K : PySem.W.Frag} {w : Wt} {μ : Mu} {H : Hp} {n : Nat} {v : Sv} {p : Pth}
end
section
variable {X : Cx} {E : XK}
end
/-! ### its keys -/
def vkL (n k : Nat) (p : Pth) (μ : Mu) : Option (List Val) := if μ.vr n = k then match μ.ob n with
    | some (.sysL v q) => if q = p then (vkeys v p).map fun ks => ks.map Val.int else none
    | _ => none
  else none
section
variable {K : PySem.W.Frag} {w : Wt} {μ : Mu} {H : Hp} {n k : Nat} {p : Pth}
theorem vkL_ex {ks : List Val} (h : vkL n k p μ = some ks) : ∃ v is, μ.vr n = k ∧ μ.ob n = some (.sysL v p) ∧ vkeys v p = some is ∧ ks = is.map Val.int := by
  unfold vkL at h
  split at h
  · rename_i e
    split at h
    · rename_i v q hob
      split at h
      · rename_i c
        subst c
        obtain ⟨is, h1, h2⟩ := Option.map_eq_some_iff.mp h
        exact ⟨v, is, e, hob, h1, h2.symm⟩
      · cases h
    · cases h
  · cases h
/-- the walked dict is locked -/
theorem Sim.locked (S : Sim K w μ H) {ks : List Val} {a : Addr} (h : vkL n k p μ = some ks) (r : VR K w.ad μ.nx H (.vw n k p) (.ref a)) : ∃ o us, H a = some (.frz o (.dK us)) ∧ us.map (fun q => kV q.1) = ks.map (fun x => match x with | .int i => V.int i | _ => .non) := by
  obtain ⟨v, is, e, hob, hk, rfl⟩ := vkL_ex h
  have vv : vwAt μ n k = some v := vwAt_of (svAt_sysL hob) e
  obtain ⟨a', e1, hp⟩ := S.vw vv r
  cases e1
  obtain ⟨us, q1, q2, _⟩ := S.vdict vv hp hk
  obtain ⟨h1, ⟨d, o, us', z1, z2, z3, z4⟩, h3, h4⟩ := S.ok _ _ hob
  rw [hp] at z1
  cases z1
  refine ⟨o, us', z3, ?_⟩
  rcases q1 with q1 | ⟨o', q1⟩
  · rw [z3] at q1
    cases q1
  · rw [z3] at q1
    cases q1
    have z := congrArg (List.map kV) q2
    rw [List.map_map, List.map_map] at z
    rw [List.map_map]
    exact z
end
end Wn
/-! ### sorted(d) of a dict whose keys are whole numbers, however many -/
namespace Wn
open PySem PySem.Spec PyProof.Rows L2 LamX He
end Wn
/-! ### min(xs, key=len, default=None) -/
namespace Wn
open PySem PySem.Spec PyProof.Rows L2 LamX He
section
variable {X : Cx} {e : Expr} {te : TE} {p p2 p3 p4 p5 pos : Pos} {j : Nat}
end
/-! #### at the law's level -/
section
variable {X : Cx} {E : XK} {e : Expr} {m : ME} {p p2 p3 p4 p5 pos : Pos} {j : Nat}
end
end Wn
/-! ### isinstance of list, tuple; min of a list; len(set(..)) of tuples -/
namespace Wn
open PySem PySem.Spec PyProof.Rows L2 LamX He
section
variable {X : Cx} {E : XK} {a : Expr} {ma : ME} {pos : Pos}
end
/-- the whole numbers of a list -/
def intsO : List Val → Option (List Int)
  | [] => some []
  | .int i :: l => (intsO l).map (i :: ·)
  | _ :: _ => none
theorem intsO_eq : ∀ {l : List Val} {ns : List Int}, intsO l = some ns → l = ns.map Val.int
  | [], ns, h => by cases h; rfl
  | .int i :: l, ns, h => by
    obtain ⟨ms, h1, h2⟩ := Option.map_eq_some_iff.mp (show (intsO l).map (i :: ·) = some ns from h)
    subst h2
    rw [intsO_eq h1]
    rfl
  | .non :: _, _, h => by cases h
  | .bl _ :: _, _, h => by cases h
  | .str _ :: _, _, h => by cases h
  | .tup _ :: _, _, h => by cases h
  | .loc _ :: _, _, h => by cases h
  | .vw _ _ _ :: _, _, h => by cases h
/-! #### len(set(xs)), xs tuples of whole numbers -/
section
variable {X : Cx} {E : XK} {a : Expr} {ta : TE} {ma : ME} {p p2 q pos : Pos}
end
section
variable {K : PySem.W.Frag} {ad : Adr} {b : Nat} {H : Hp}
end
section
variable {X : Cx} {E : XK} {a : Expr} {ma : ME} {p p2 q pos : Pos}
end
end Wn
/-! ### x in (a, b, ..), x a whole number or a text -/
namespace Wn
open PySem PySem.Spec PyProof.Rows L2 LamX He
def strsO : List Val → Option (List Str)
  | [] => some []
  | .str i :: l => (strsO l).map (i :: ·)
  | _ :: _ => none
theorem strsO_eq : ∀ {l : List Val} {ns : List Str}, strsO l = some ns → l = ns.map Val.str
  | [], ns, h => by cases h; rfl
  | .str i :: l, ns, h => by
    obtain ⟨ms, h1, h2⟩ := Option.map_eq_some_iff.mp (show (strsO l).map (i :: ·) = some ns from h)
    subst h2
    rw [strsO_eq h1]
    rfl
  | .non :: _, _, h => by cases h
  | .bl _ :: _, _, h => by cases h
  | .int _ :: _, _, h => by cases h
  | .tup _ :: _, _, h => by cases h
  | .loc _ :: _, _, h => by cases h
  | .vw _ _ _ :: _, _, h => by cases h
/-- whether it stands in the tuple -/
def tupHas (x y : Val) : Option Bool := match y, x with
  | .tup l, .int a => (intsO l).map fun ns => decide (a ∈ ns)
  | .tup l, .str a => (strsO l).map fun ns => decide (a ∈ ns)
  | _, _ => none
def inTM (x y : Val) (μ : Mu) : R Val := match tupHas x y with
  | some b => .ok (.bl b) μ
  | none => .no
section
variable {K : PySem.W.Frag} {ad : Adr} {b : Nat} {H : Hp}
theorem VRs.strs_eq : ∀ {l : List Str} {us : List V}, VRs K ad b H (l.map Val.str) us → us = l.map V.str
  | [], _, .nil => rfl
  | i :: l, _, .cons h r => by
    cases h
    rw [VRs.strs_eq r]
    rfl
theorem tupHas_ok {x y : Val} {u v : V} {c : Bool} (h : tupHas x y = some c) (rx : VR K ad b H x u) (ry : VR K ad b H y v) : ∃ p xs, v = .ref p ∧ SqT K H p xs ∧ flatV u = true ∧ xs.all flatV = true ∧ inV u xs = c := by
  unfold tupHas at h
  split at h
  · rename_i l a
    obtain ⟨ns, h1, h2⟩ := Option.map_eq_some_iff.mp h
    cases rx
    cases ry with
    | tup s1 s2 =>
      rw [intsO_eq h1] at s2
      rw [VRs.ints_eq s2] at s1
      refine ⟨_, _, rfl, s1, rfl, ?_, ?_⟩
      · rw [List.all_map]
        exact List.all_eq_true.mpr fun _ _ => rfl
      · rw [← h2]
        unfold inV
        rw [List.any_map, Bool.eq_iff_iff, List.any_eq_true]
        constructor
        · rintro ⟨z, hz, q⟩
          have q : (z == a) = true := q
          rw [beq_iff_eq] at q
          exact decide_eq_true (q ▸ hz)
        · intro q
          exact ⟨a, of_decide_eq_true q, by show (a == a) = true; simp⟩
  · rename_i l a
    obtain ⟨ns, h1, h2⟩ := Option.map_eq_some_iff.mp h
    cases rx
    cases ry with
    | tup s1 s2 =>
      rw [strsO_eq h1] at s2
      rw [VRs.strs_eq s2] at s1
      refine ⟨_, _, rfl, s1, rfl, ?_, ?_⟩
      · rw [List.all_map]
        exact List.all_eq_true.mpr fun _ _ => rfl
      · rw [← h2]
        unfold inV
        rw [List.any_map, Bool.eq_iff_iff, List.any_eq_true]
        constructor
        · rintro ⟨z, hz, q⟩
          have q : (z == a) = true := q
          rw [beq_iff_eq] at q
          exact decide_eq_true (q ▸ hz)
        · intro q
          exact ⟨a, of_decide_eq_true q, by show (a == a) = true; simp⟩
  · cases h
end
section
variable {X : Cx}
theorem c_inT : CmpP X .In inTM := by
  refine ⟨_, op_in_seq, ?_⟩
  intro E w μ H x y u v Q S hx hy hp
  unfold inTM at hp
  split at hp
  · rename_i c hc
    obtain ⟨p, xs, rfl, h1, h2, h3, h4⟩ := tupHas_ok hc hx hy
    exact ⟨p, xs, rfl, .inr h1, h2, h3, by rw [h4]; exact hp w H _ S (.bl _) .refl⟩
  · exact hp.elim
end
end Wn
/-! ### any(list of truths), all(list of truths) -/
namespace Wn
open PySem PySem.Spec PyProof.Rows L2 LamX He
def blsO : List Val → Option (List Bool)
  | [] => some []
  | .bl i :: l => (blsO l).map (i :: ·)
  | _ :: _ => none
theorem blsO_eq : ∀ {l : List Val} {ns : List Bool}, blsO l = some ns → l = ns.map Val.bl
  | [], ns, h => by cases h; rfl
  | .bl i :: l, ns, h => by
    obtain ⟨ms, h1, h2⟩ := Option.map_eq_some_iff.mp (show (blsO l).map (i :: ·) = some ns from h)
    subst h2
    rw [blsO_eq h1]
    rfl
  | .non :: _, _, h => by cases h
  | .int _ :: _, _, h => by cases h
  | .str _ :: _, _, h => by cases h
  | .tup _ :: _, _, h => by cases h
  | .loc _ :: _, _, h => by cases h
  | .vw _ _ _ :: _, _, h => by cases h
theorem VRs.bls_eq {K : PySem.W.Frag} {ad : Adr} {b : Nat} {H : Hp} : ∀ {bs : List Bool} {us : List V}, VRs K ad b H (bs.map Val.bl) us → us = bs.map V.bl
  | [], _, h => by cases h; rfl
  | b :: bs, _, h => by
    rw [List.map_cons] at h
    cases h with
    | cons h1 h2 =>
      cases h1
      rw [VRs.bls_eq h2]
      rfl
def allM : List Val → Mu → R Val
  | [.loc n], μ => match (seqOf μ n).bind blsO with
    | some l => .ok (.bl (l.all id)) μ
    | none => .no
  | _, _ => .no
theorem p_all {K : PySem.W.Frag} : PrimA K (fun vs H Q => ∃ (a : Addr) (bs : List Bool), vs = [V.ref a] ∧ SqL K H a (bs.map V.bl) ∧ Q (.bl (bs.all id)) H) allM := by
  intro E w μ H xs us Q S r hp
  unfold allM at hp
  split at hp
  · cases r with
    | cons r1 r2 =>
      cases r2; cases r1
      split at hp
      · rename_i l hl
        obtain ⟨vs, h1, h2⟩ := Option.bind_eq_some_iff.mp hl
        obtain ⟨us, q1, q2⟩ := seqOf_sq S h1
        rw [blsO_eq h2] at q2
        rw [VRs.bls_eq q2] at q1
        exact ⟨_, l, rfl, q1, hp w H _ S (.bl _) .refl⟩
      · exact hp.elim
  · exact hp.elim
end Wn
/-! ### isinstance(x, str) -/
namespace Wn
open PySem PySem.Spec PyProof.Rows L2 LamX He
def isiT (x : Val) (μ : Mu) : R Val := match x with
  | .str _ => .ok (.bl true) μ
  | .loc n => match seqOf μ n with
    | some _ => .ok (.bl false) μ
    | none => .no
  | .vw _ _ _ => .no
  | _ => .ok (.bl false) μ
section
variable {X : Cx} {E : XK} {a : Expr} {ma : ME} {pos : Pos}
theorem vr_tyT {K : PySem.W.Frag} {w : Wt} {μ : Mu} {H : Hp} (S : Sim K w μ H) {x : Val} {u : V} {Q : V → Hp → Prop} (r : VR K w.ad μ.nx H x u) (hp : Post K (relE K) E w μ.nx H Q (isiT x μ)) : ∃ (t : Value) (b : Bool), TyX K H u t ∧ PySem.W.kitOne K t (.type "str") = some b ∧ Q (.bl b) H := by
  unfold isiT at hp
  cases r with
  | non => exact ⟨.type "NoneType", false, .base .non, kit_ty (by decide +kernel), hp w H _ S (.bl _) .refl⟩
  | bl y => exact ⟨.type "bool", false, .base (.bl y), kit_ty (by decide +kernel), hp w H _ S (.bl _) .refl⟩
  | int i => exact ⟨.type "int", false, .base (.int i), kit_ty (by decide +kernel), hp w H _ S (.bl _) .refl⟩
  | str y => exact ⟨.type "str", true, .base (.str y), kit_ty (by decide +kernel), hp w H _ S (.bl _) .refl⟩
  | tup h _ =>
    refine ⟨.type "tuple", false, ?_, kit_ty (by decide +kernel), hp w H _ S (.bl _) .refl⟩
    rcases h with (h | ⟨o, h⟩) | ⟨o, _, _, h1, h2, _⟩
    · exact .base (.tup h)
    · exact .fTuple h
    · exact .kTuple h1 h2
  | vw _ _ _ => exact hp.elim
  | loc hn =>
    simp only at hp
    split at hp
    · rename_i vs hq
      obtain ⟨us, h, _⟩ := seqOf_sq S hq
      refine ⟨.type "list", false, ?_, kit_ty (by decide +kernel), hp w H _ S (.bl _) .refl⟩
      rcases h with (h | ⟨o, h⟩) | ⟨o, _, _, h1, h2, _⟩
      · exact .base (.lst h)
      · exact .base (.frz h)
      · exact .kList h1 h2
    · exact hp.elim
theorem pm_isiT {y : Str} {p p2 : Pos} (hg : Gl X "isinstance") (hm : X.mg "isinstance" = none) (hgy : Gl X y) (hmy : X.mg y = none) (hvy : bootBuiltins y = some (.type "str")) (ha : PM X E a ma) (hny : y ≠ "__name__" := by decide) (hdy : (y == ("__debug__" : Str)) = false := by decide)
    (he : starEach [a, .Name y p2] X.env = (false, eval a X.env) :: starEach [.Name y p2] X.env := by rfl) (hpl : (backTo pos (starEach [.Name y p2] X.env)).any (·.1) = false := by rfl) : PM X E (.Call (.Name "isinstance" p) [a, .Name y p2] [] pos) (mUn isiT ma) :=
  PE.imp (pe_callB call_isi hg hm (by decide +kernel) (pa_cons ha (pa_cons (pe_bltn (v := .ty "str") hgy hmy hvy rfl hny hdy) pa_nil) (hs := he)) (by decide) (by decide) he hpl) fun σ H Q ⟨w, ρ, μ, S, EN, hp⟩ => ⟨w, ρ, μ, S, EN, Post.bind hp fun x μ1 w1 H1 u1 S1 r1 g1 h1 => by
    obtain ⟨t, b, ty, hk, q⟩ := vr_tyT S1 r1 h1
    exact ⟨u1, .ty "str", t, .type "str", b, rfl, .ty _, ty, hk, q⟩⟩
end
/-! ### d.get(k, x), d.pop(k, x) -/
def mD2 (f : Val → Val → Val → Mu → R Val) (o k d : ME) : ME := fun ρ μ => (o ρ μ).bind fun x μ => match dctV x μ with
  | some _ => (k ρ μ).bind fun y μ => (d ρ μ).bind fun z μ => f x y z μ
  | none => .no
def get2DM : Val → Val → Val → Mu → R Val
  | .loc n, y, z, μ => match dctOf μ n, keyOf y with
    | some kvs, some k => .ok ((kGet kvs k).getD z) μ
    | _, _ => .no
  | _, _, _, _ => .no
section
variable {X : Cx} {E : XK} {o e f : Expr} {apos cpos : Pos} {mo me mf : ME}
theorem pm_dget2 (hu : X.A.units + 1 < cLine) (ho : PM X E o mo) (he : PM X E e me) (hf : PM X E f mf) (m : M2 X o "get" apos e f cpos := by exact ⟨rfl, rfl, rfl, rfl⟩) : PM X E (.Call (.Attribute o "get" apos) [e, f] [] cpos) (mD2 get2DM mo me mf) :=
  PE.imp (pe_dget2 hu ho he hf m) fun σ H Q ⟨w, ρ, μ, S, EN, hp⟩ => ⟨w, ρ, μ, S, EN, Post.bind hp fun x μ1 w1 H1 u1 S1 r1 g1 h1 => by
    unfold dctV at h1
    split at h1
    · rename_i kv0 hd
      split at hd
      · rename_i n
        cases r1 with
        | loc hn =>
        obtain ⟨us0, d1, d2, d3⟩ := dctOf_rd S1 hd
        refine ⟨_, rfl, .inl ⟨_, d1⟩, w1, ρ, μ1, S1, EN.grow g1, Post.bind h1 fun y μ2 w2 H2 u2 S2 r2 g2 h2 => ⟨w2, ρ, μ2, S2, (EN.grow g1).grow g2, Post.bind h2 fun z μ3 w3 H3 u3 S3 r3 g3 h3 => ?_⟩⟩
        have ea : w3.ad n = w1.ad n := (g3.ad n (Nat.lt_of_lt_of_le hn g2.le)).trans (g2.ad n hn)
        unfold get2DM at h3
        simp only at h3
        split at h3
        · rename_i kvs k hob hk
          obtain ⟨us, q1, q2, q3⟩ := dctOf_rd S3 hob
          have ek := keyOf_kV hk r2
          subst ek
          have dg : DGet H3 (w3.ad n) (kV k) (valV us k) := .inl ⟨us, k, q1, rfl, rfl⟩
          rw [ea] at dg
          refine ⟨_, dg, ?_⟩
          rcases kGet_rel (k := k) q2 q3 with ⟨v', u', e1, e2, e3⟩ | ⟨e1, e2⟩
          · rw [e1] at h3
            rw [e2]
            exact h3 w3 H3 u' S3 e3 .refl
          · rw [e1] at h3
            rw [e2]
            exact h3 w3 H3 _ S3 r3 .refl
        · exact h3.elim
      · cases hd
    · exact h1.elim⟩
end
end Wn
/-! the law's level: a module's texts and numbers by their names, x not in a row that is only read, sorted rows of data -/
namespace Wn
open PySem PySem.Spec PyProof.Rows L2 LamX He
section
variable {X : Cx} {E : XK} {pos : Pos}
theorem pm_gstr {x s : Str} (hg : Gl X x) (hm : ∃ t, X.mg x = some (.str s t)) (hd : (x == ("__debug__" : Str)) = false := by decide) : PM X E (.Name x pos) (mC (.str s)) := by
  obtain ⟨t, hm⟩ := hm
  exact PE.imp (pe_glob (v := .str s) hg hm ⟨_, rfl⟩ hd) fun σ H Q ⟨w, ρ, μ, S, EN, hp⟩ => hp w H _ S (.str _) .refl
theorem pm_gint {x : Str} {i : Int} (hg : Gl X x) (hm : ∃ t, X.mg x = some (.int i t)) (hd : (x == ("__debug__" : Str)) = false := by decide) : PM X E (.Name x pos) (mC (.int i)) := by
  obtain ⟨t, hm⟩ := hm
  exact PE.imp (pe_glob (v := .int i) hg hm ⟨_, rfl⟩ hd) fun σ H Q ⟨w, ρ, μ, S, EN, hp⟩ => hp w H _ S (.int _) .refl
end
/-! ### x not in l, l within a system -/
/-! ### sorted rows of data -/
section
variable {X : Cx}
end
end Wn
/-! plain data: what the law's lists, tuples and numbers are; what they stand for among the objects -/
namespace Wn
open PySem PySem.Spec PyProof.Rows L2 LamX He
inductive Dt where
  | non | bl (b : Bool) | int (i : Int) | str (x : Str) | tup (l : List Dt) | lst (l : List Dt) | dct (kvs : List (Key × Dt)) | ref (k : Nat)
  /-- the script: a list that is only read -/
  | ros (l : List Dt)
  /-- a system that is only read, and what stands within it -/
  | sysv (v : Sv) | sysw (v : Sv) | vw (v : Sv) (p : Pth)
  /-- a dict whose keys are tuples -/
  | dtt (kvs : List (List Key × Dt))
/-- what can change: a bag, a system, an object of the law's own -/
inductive Cel where
  | bag | sys (v : Sv) | dat (d : Dt) | lkt (l : List (List Key × Dt))
abbrev Sg := List Cel
abbrev Hd := List Nat
/-- a variable: plain data, or a list that nobody else has -/
inductive Lc where
  | im (d : Dt) | ow (d : Dt)
abbrev Ev_ := List (Option Lc)
mutual
inductive DR (h : Hd) (X : List Nat) (μ : Mu) : Val → Dt → Prop
  | non : DR h X μ .non .non
  | bl (x : Bool) : DR h X μ (.bl x) (.bl x)
  | int (i : Int) : DR h X μ (.int i) (.int i)
  | str (x : Str) : DR h X μ (.str x) (.str x)
  | tup {vs : List Val} {ds : List Dt} : DRs h X μ vs ds → DR h X μ (.tup vs) (.tup ds)
  | obj {n : Nat} {o : Ob} {d : Dt} : n ∉ h → n ∉ X → n < μ.nx → μ.ob n = some o → CD h X μ o d → DR h X μ (.loc n) d
  | ref {n k : Nat} : h[k]? = some n → DR h X μ (.loc n) (.ref k)
  | sysv {n : Nat} {v : Sv} : n ∉ h → n ∉ X → n < μ.nx → μ.ob n = some (.sys v) → DR h X μ (.loc n) (.sysv v)
  | sysw {n : Nat} {v : Sv} : n ∉ h → n ∉ X → n < μ.nx → svAt μ n = some v → DR h X μ (.loc n) (.sysw v)
  | vw {n k : Nat} {v : Sv} {p : Pth} : n ∉ h → n ∉ X → n < μ.nx → svAt μ n = some v → μ.vr n = k → DR h X μ (.vw n k p) (.vw v p)
inductive DRs (h : Hd) (X : List Nat) (μ : Mu) : List Val → List Dt → Prop
  | nil : DRs h X μ [] []
  | cons {v : Val} {vs : List Val} {d : Dt} {ds : List Dt} : DR h X μ v d → DRs h X μ vs ds → DRs h X μ (v :: vs) (d :: ds)
inductive CD (h : Hd) (X : List Nat) (μ : Mu) : Ob → Dt → Prop
  | lst {vs : List Val} {ds : List Dt} : DRs h X μ vs ds → CD h X μ (.lst vs) (.lst ds)
  | dct {vs : List (Key × Val)} {ds : List (Key × Dt)} : vs.map (·.1) = ds.map (·.1) → DRs h X μ (vs.map (·.2)) (ds.map (·.2)) → CD h X μ (.dct vs) (.dct ds)
  | ros {o : Ob} {vs : List Val} {ds : List Dt} : (o = .lst vs ∨ o = .ro vs) → DRs h X μ vs ds → CD h X μ o (.ros ds)
  | dtt {vs : List (List Key × Val)} {ds : List (List Key × Dt)} : vs.map (·.1) = ds.map (·.1) → DRs h X μ (vs.map (·.2)) (ds.map (·.2)) → CD h X μ (.dtt vs) (.dtt ds)
end
/-- what a step leaves: new handles are new places; only handles and O change -/
structure Ext (h h' : Hd) (O : List Nat) (μ μ' : Mu) : Prop where
  le : μ.nx ≤ μ'.nx
  hd : ∃ t, h' = h ++ t ∧ ∀ n ∈ t, μ.nx ≤ n
  ob : ∀ n, n < μ.nx → n ∉ h → n ∉ O → μ'.ob n = μ.ob n
  vr : ∀ n, n < μ.nx → n ∉ h → n ∉ O → μ'.vr n = μ.vr n
theorem svAt_eq {μ μ' : Mu} {n : Nat} (h : μ'.ob n = μ.ob n) : svAt μ' n = svAt μ n := by
  unfold svAt
  rw [h]
section
variable {h h' h2 : Hd} {X X' O O' : List Nat} {μ μ' μ2 : Mu} {v : Val} {d : Dt} {vs : List Val} {ds : List Dt}
theorem Ext.refl (h : Hd) (O : List Nat) (μ : Mu) : Ext h h O μ μ := ⟨Nat.le_refl _, ⟨[], (List.append_nil _).symm, fun _ z => nomatch z⟩, fun _ _ _ _ => rfl, fun _ _ _ _ => rfl⟩
theorem Ext.mem (e : Ext h h' O μ μ') {n : Nat} (q : n ∈ h') : n ∈ h ∨ μ.nx ≤ n := by
  obtain ⟨t, rfl, ht⟩ := e.hd
  exact (List.mem_append.mp q).imp id (ht n)
theorem Ext.not (e : Ext h h' O μ μ') {n : Nat} (l : n < μ.nx) (q : n ∉ h) : n ∉ h' := fun z => (e.mem z).elim q fun z => absurd l (Nat.not_lt.mpr z)
theorem Ext.get (e : Ext h h' O μ μ') {k n : Nat} (q : h[k]? = some n) : h'[k]? = some n := by
  obtain ⟨t, rfl, ht⟩ := e.hd
  rw [List.getElem?_append_left (List.getElem?_eq_some_iff.mp q).1]
  exact q
theorem Ext.trans (a : Ext h h' O μ μ') (b : Ext h' h2 O' μ' μ2) (hO : ∀ n ∈ O', n ∈ O ∨ μ.nx ≤ n) : Ext h h2 O μ μ2 := by
  refine ⟨Nat.le_trans a.le b.le, ?_, fun n l q z => ?_, fun n l q z => ?_⟩
  · obtain ⟨t, rfl, ht⟩ := a.hd
    obtain ⟨s, rfl, hs⟩ := b.hd
    exact ⟨t ++ s, by rw [List.append_assoc], fun n hn => (List.mem_append.mp hn).elim (ht n) fun y => Nat.le_trans a.le (hs n y)⟩
  · rw [b.ob n (Nat.lt_of_lt_of_le l a.le) (a.not l q) (fun y => (hO n y).elim z fun y => absurd l (Nat.not_lt.mpr y)), a.ob n l q z]
  · rw [b.vr n (Nat.lt_of_lt_of_le l a.le) (a.not l q) (fun y => (hO n y).elim z fun y => absurd l (Nat.not_lt.mpr y)), a.vr n l q z]
theorem Ext.tr (a : Ext h h' [] μ μ') (b : Ext h' h2 [] μ' μ2) : Ext h h2 [] μ μ2 := a.trans b fun _ z => nomatch z
theorem Ext.mono (a : Ext h h' O μ μ') (hO : ∀ n ∈ O, n ∈ O') : Ext h h' O' μ μ' := ⟨a.le, a.hd, fun n l q z => a.ob n l q fun y => z (hO n y), fun n l q z => a.vr n l q fun y => z (hO n y)⟩
theorem Ext.kee {S : List Nat} (k : Kee S μ μ') (hs : ∀ n ∈ S, n ∈ h) : Ext h h [] μ μ' := ⟨k.le, ⟨[], (List.append_nil _).symm, fun _ z => nomatch z⟩, fun n l q _ => k.ob n l fun z => q (hs n z), fun n l q _ => k.vr n l fun z => q (hs n z)⟩
theorem Ext.new (h : Hd) (O : List Nat) (μ : Mu) (o : Ob) : Ext h h O μ (μ.new o) := ⟨Nat.le_succ _, ⟨[], (List.append_nil _).symm, fun _ z => nomatch z⟩, fun n l _ _ => Mu.new_ne _ _ (Nat.ne_of_lt l), fun _ _ _ _ => rfl⟩
mutual
theorem DR.ext (e : Ext h h' O μ μ') (hO : ∀ n ∈ O, n ∈ X) : ∀ {v : Val} {d : Dt}, DR h X μ v d → DR h' X μ' v d
  | _, _, .non => .non
  | _, _, .bl x => .bl x
  | _, _, .int i => .int i
  | _, _, .str x => .str x
  | _, _, .tup q => .tup (DRs.ext e hO q)
  | _, _, .obj a b c o q => .obj (e.not c a) b (Nat.lt_of_lt_of_le c e.le) ((e.ob _ c a fun z => b (hO _ z)).trans o) (CD.ext e hO q)
  | _, _, .ref q => .ref (e.get q)
  | _, _, .sysv a b c o => .sysv (e.not c a) b (Nat.lt_of_lt_of_le c e.le) ((e.ob _ c a fun z => b (hO _ z)).trans o)
  | _, _, .sysw a b c o => .sysw (e.not c a) b (Nat.lt_of_lt_of_le c e.le) ((svAt_eq (e.ob _ c a fun z => b (hO _ z))).trans o)
  | _, _, .vw a b c o k => .vw (e.not c a) b (Nat.lt_of_lt_of_le c e.le) ((svAt_eq (e.ob _ c a fun z => b (hO _ z))).trans o) ((e.vr _ c a fun z => b (hO _ z)).trans k)
theorem DRs.ext (e : Ext h h' O μ μ') (hO : ∀ n ∈ O, n ∈ X) : ∀ {vs : List Val} {ds : List Dt}, DRs h X μ vs ds → DRs h' X μ' vs ds
  | _, _, .nil => .nil
  | _, _, .cons a b => .cons (DR.ext e hO a) (DRs.ext e hO b)
theorem CD.ext (e : Ext h h' O μ μ') (hO : ∀ n ∈ O, n ∈ X) : ∀ {o : Ob} {d : Dt}, CD h X μ o d → CD h' X μ' o d
  | _, _, .lst a => .lst (DRs.ext e hO a)
  | _, _, .dct k a => .dct k (DRs.ext e hO a)
  | _, _, .ros k a => .ros k (DRs.ext e hO a)
  | _, _, .dtt k a => .dtt k (DRs.ext e hO a)
end
mutual
/-- less is hidden, or what is hidden is new -/
theorem DR.hid (hX : ∀ n ∈ X', n ∈ X ∨ μ.nx ≤ n) : ∀ {v : Val} {d : Dt}, DR h X μ v d → DR h X' μ v d
  | _, _, .non => .non
  | _, _, .bl x => .bl x
  | _, _, .int i => .int i
  | _, _, .str x => .str x
  | _, _, .tup q => .tup (DRs.hid hX q)
  | _, _, .obj a b c o q => .obj a (fun z => (hX _ z).elim b fun y => absurd c (Nat.not_lt.mpr y)) c o (CD.hid hX q)
  | _, _, .ref q => .ref q
  | _, _, .sysw a b c o => .sysw a (fun z => (hX _ z).elim b fun y => absurd c (Nat.not_lt.mpr y)) c o
  | _, _, .sysv a b c o => .sysv a (fun z => (hX _ z).elim b fun y => absurd c (Nat.not_lt.mpr y)) c o
  | _, _, .vw a b c o k => .vw a (fun z => (hX _ z).elim b fun y => absurd c (Nat.not_lt.mpr y)) c o k
theorem DRs.hid (hX : ∀ n ∈ X', n ∈ X ∨ μ.nx ≤ n) : ∀ {vs : List Val} {ds : List Dt}, DRs h X μ vs ds → DRs h X' μ vs ds
  | _, _, .nil => .nil
  | _, _, .cons a b => .cons (DR.hid hX a) (DRs.hid hX b)
theorem CD.hid (hX : ∀ n ∈ X', n ∈ X ∨ μ.nx ≤ n) : ∀ {o : Ob} {d : Dt}, CD h X μ o d → CD h X' μ o d
  | _, _, .lst a => .lst (DRs.hid hX a)
  | _, _, .dct k a => .dct k (DRs.hid hX a)
  | _, _, .ros k a => .ros k (DRs.hid hX a)
  | _, _, .dtt k a => .dtt k (DRs.hid hX a)
end
theorem DR.weak (hX : ∀ n ∈ X', n ∈ X) (q : DR h X μ v d) : DR h X' μ v d := q.hid fun n z => .inl (hX n z)
theorem DRs.weak (hX : ∀ n ∈ X', n ∈ X) (q : DRs h X μ vs ds) : DRs h X' μ vs ds := q.hid fun n z => .inl (hX n z)
theorem CD.weak' {o : Ob} (hX : ∀ n ∈ X', n ∈ X) (q : CD h X μ o d) : CD h X' μ o d := q.hid fun n z => .inl (hX n z)
theorem DRs.len : ∀ {vs : List Val} {ds : List Dt}, DRs h X μ vs ds → vs.length = ds.length
  | _, _, .nil => rfl
  | _, _, .cons _ b => congrArg (· + 1) (DRs.len b)
theorem DRs.get : ∀ {vs : List Val} {ds : List Dt}, DRs h X μ vs ds → ∀ {i : Nat} {d : Dt}, ds[i]? = some d → ∃ v, vs[i]? = some v ∧ DR h X μ v d
  | _, _, .nil, i, d, e => by cases i <;> cases e
  | _, _, .cons a b, 0, d, e => by cases e; exact ⟨_, rfl, a⟩
  | _, _, .cons a b, i + 1, d, e => DRs.get b (i := i) e
theorem DRs.app {vs ws : List Val} {ds es : List Dt} : DRs h X μ vs ds → DRs h X μ ws es → DRs h X μ (vs ++ ws) (ds ++ es)
  | .nil, b => b
  | .cons a r, b => .cons a (DRs.app r b)
theorem DRs.drop : ∀ (k : Nat) {vs : List Val} {ds : List Dt}, DRs h X μ vs ds → DRs h X μ (vs.drop k) (ds.drop k)
  | 0, _, _, q => q
  | _ + 1, _, _, .nil => .nil
  | k + 1, _, _, .cons _ b => DRs.drop k b
theorem DRs.take : ∀ (k : Nat) {vs : List Val} {ds : List Dt}, DRs h X μ vs ds → DRs h X μ (vs.take k) (ds.take k)
  | 0, _, _, _ => .nil
  | _ + 1, _, _, .nil => .nil
  | k + 1, _, _, .cons a b => .cons a (DRs.take k b)
theorem DRs.set : ∀ {vs : List Val} {ds : List Dt}, DRs h X μ vs ds → ∀ (k : Nat), DR h X μ v d → DRs h X μ (vs.set k v) (ds.set k d)
  | _, _, .nil, _, _ => .nil
  | _, _, .cons a b, 0, q => .cons q b
  | _, _, .cons a b, k + 1, q => .cons a (DRs.set b k q)
theorem DRs.erase : ∀ {vs : List Val} {ds : List Dt}, DRs h X μ vs ds → ∀ (k : Nat), DRs h X μ (vs.eraseIdx k) (ds.eraseIdx k)
  | _, _, .nil, _ => .nil
  | _, _, .cons a b, 0 => b
  | _, _, .cons a b, k + 1 => .cons a (DRs.erase b k)
theorem DRs.of {α : Type} {f : α → Val} {g : α → Dt} : ∀ (l : List α), (∀ x ∈ l, DR h X μ (f x) (g x)) → DRs h X μ (l.map f) (l.map g)
  | [], _ => .nil
  | a :: l, q => .cons (q a List.mem_cons_self) (DRs.of l fun x hx => q x (List.mem_cons_of_mem _ hx))
end
/-- what a cell stands for -/
def CR (h : Hd) (X : List Nat) (μ : Mu) (n : Nat) : Cel → Prop
  | .bag => ∃ c m, μ.ob n = some (.lst [.int c, .int m])
  | .sys v => μ.ob n = some (.sys v)
  | .dat d => ∃ o, μ.ob n = some o ∧ CD h X μ o d
  | .lkt l => ∃ vs, μ.ob n = some (.rodt vs) ∧ CD h X μ (.dtt vs) (.dtt l)
structure Sm (h : Hd) (X : List Nat) (μ : Mu) (σ : Sg) : Prop where
  len : h.length = σ.length
  nd : h.Nodup
  lt : ∀ n ∈ h, n < μ.nx
  xl : ∀ n ∈ X, n < μ.nx
  ob : ∀ (k n : Nat) (c : Cel), h[k]? = some n → σ[k]? = some c → CR h X μ n c
structure EnvD (h : Hd) (X O : List Nat) (μ : Mu) (ρ : Rho) (r : Ev_) : Prop where
  len : ρ.length = r.length
  im : ∀ (i : Nat) (d : Dt), r[i]? = some (some (.im d)) → ∃ v, ρ[i]? = some (some v) ∧ DR h (O ++ X) μ v d
  ow : ∀ (i : Nat) (d : Dt), r[i]? = some (some (.ow d)) → ∃ n o, ρ[i]? = some (some (.loc n)) ∧ n ∈ O ∧ n ∉ h ∧ n ∉ X ∧ n < μ.nx ∧ μ.ob n = some o ∧ CD h (O ++ X) μ o d
  ne : ∀ (i j : Nat) (d e : Dt) (n : Nat), i ≠ j → r[i]? = some (some (.ow d)) → r[j]? = some (some (.ow e)) → ρ[i]? = some (some (.loc n)) → ρ[j]? ≠ some (some (.loc n))
section
variable {h h' h2 : Hd} {X X' O O' : List Nat} {μ μ' μ2 : Mu} {σ σ' : Sg} {ρ : Rho} {r : Ev_}
theorem CR.ext (e : Ext h h' O μ μ') (hO : ∀ n ∈ O, n ∈ X) {n : Nat} {c : Cel} (q : CR h X μ n c) (hb : μ'.ob n = μ.ob n) : CR h' X μ' n c := by
  cases c with
  | bag =>
    obtain ⟨c, m, q⟩ := q
    exact ⟨c, m, hb.trans q⟩
  | sys v => exact hb.trans q
  | dat d =>
    obtain ⟨o, a, b⟩ := q
    exact ⟨o, hb.trans a, b.ext e hO⟩
  | lkt l =>
    obtain ⟨o, a, b⟩ := q
    exact ⟨o, hb.trans a, b.ext e hO⟩
theorem CR.hid (hX : ∀ n ∈ X', n ∈ X ∨ μ.nx ≤ n) {n : Nat} {c : Cel} (q : CR h X μ n c) : CR h X' μ n c := by
  cases c with
  | bag => exact q
  | sys v => exact q
  | dat d =>
    obtain ⟨o, a, b⟩ := q
    exact ⟨o, a, b.hid hX⟩
  | lkt l =>
    obtain ⟨o, a, b⟩ := q
    exact ⟨o, a, b.hid hX⟩
theorem Sm.hid (S : Sm h X μ σ) (hX : ∀ n ∈ X', n ∈ X ∨ μ.nx ≤ n) (xl : ∀ n ∈ X', n < μ.nx) : Sm h X' μ σ := ⟨S.len, S.nd, S.lt, xl, fun k n c a b => (S.ob k n c a b).hid hX⟩
theorem Sm.weak (S : Sm h X μ σ) (hX : ∀ n ∈ X', n ∈ X) : Sm h X' μ σ := S.hid (fun n z => .inl (hX n z)) fun n z => S.xl n (hX n z)
/-- nothing but places that are no handles changes, or new ones -/
theorem Sm.keep (S : Sm h X μ σ) (e : Ext h h O μ μ') (hO : ∀ n ∈ O, n ∈ X) (hb : ∀ n ∈ h, μ'.ob n = μ.ob n) : Sm h X μ' σ := ⟨S.len, S.nd, fun n z => Nat.lt_of_lt_of_le (S.lt n z) e.le, fun n z => Nat.lt_of_lt_of_le (S.xl n z) e.le, fun k n c a b => (S.ob k n c a b).ext e hO (hb n (List.mem_of_getElem? a))⟩
theorem Sm.new (S : Sm h X μ σ) (o : Ob) : Sm h X (μ.new o) σ := S.keep (Ext.new h [] μ o) (fun _ z => nomatch z) fun n z => Mu.new_ne _ _ (Nat.ne_of_lt (S.lt n z))
theorem nd_at {α : Type} {l : List α} (nd : l.Nodup) {i j : Nat} {x : α} (a : l[i]? = some x) (b : l[j]? = some x) : i = j := by
  obtain ⟨hi, rfl⟩ := List.getElem?_eq_some_iff.mp a
  obtain ⟨hj, e⟩ := List.getElem?_eq_some_iff.mp b
  have P := List.pairwise_iff_getElem.mp nd
  rcases Nat.lt_trichotomy i j with c | c | c
  · exact absurd e.symm (P i j hi hj c)
  · exact c
  · exact absurd e (P j i hj hi c)
/-- one cell changes -/
theorem Sm.put (S : Sm h X μ σ) {k n : Nat} (hk : h[k]? = some n) (e : Ext h h [] μ μ') {c : Cel} (hc : CR h X μ' n c) (hb : ∀ m ∈ h, m ≠ n → μ'.ob m = μ.ob m) : Sm h X μ' (σ.set k c) := by
  refine ⟨by rw [List.length_set]; exact S.len, S.nd, fun n z => Nat.lt_of_lt_of_le (S.lt n z) e.le, fun n z => Nat.lt_of_lt_of_le (S.xl n z) e.le, fun j m c' a b => ?_⟩
  by_cases q : j = k
  · subst q
    rw [hk] at a
    cases a
    rw [List.getElem?_set, if_pos rfl] at b
    split at b
    · cases b
      exact hc
    · cases b
  · rw [List.getElem?_set, if_neg (fun z => q z.symm)] at b
    refine (S.ob j m c' a b).ext e (fun _ z => nomatch z) (hb m (List.mem_of_getElem? a) fun z => ?_)
    subst z
    exact q (nd_at S.nd a hk)
/-- a new cell -/
theorem Sm.mk_ (S : Sm h X μ σ) {n : Nat} (e : Ext h h [] μ μ') (hn : μ.nx ≤ n) (hl : n < μ'.nx) (hb : ∀ m ∈ h, μ'.ob m = μ.ob m) {c : Cel} (hc : CR (h ++ [n]) X μ' n c) : Sm (h ++ [n]) X μ' (σ ++ [c]) ∧ Ext h (h ++ [n]) [] μ μ' := by
  have E : Ext h (h ++ [n]) [] μ μ' := ⟨e.le, ⟨[n], rfl, fun m z => by cases List.mem_singleton.mp z; exact hn⟩, e.ob, e.vr⟩
  refine ⟨⟨by rw [List.length_append, List.length_append, S.len]; rfl, ?_, fun m z => ?_, fun m z => Nat.lt_of_lt_of_le (S.xl m z) e.le, fun k m c' a b => ?_⟩, E⟩
  · refine List.nodup_append.mpr ⟨S.nd, (by simp), fun a ha b hb => ?_⟩
    cases List.mem_singleton.mp hb
    have := S.lt a ha
    omega
  · rcases List.mem_append.mp z with z | z
    · exact Nat.lt_of_lt_of_le (S.lt m z) e.le
    · cases List.mem_singleton.mp z
      exact hl
  · by_cases q : k < h.length
    · rw [List.getElem?_append_left q] at a
      rw [List.getElem?_append_left (by rw [← S.len]; exact q)] at b
      exact (S.ob k m c' a b).ext E (fun _ z => nomatch z) (hb m (List.mem_of_getElem? a))
    · rw [List.getElem?_append_right (by omega)] at a
      rw [List.getElem?_append_right (by rw [← S.len]; omega)] at b
      rw [← S.len] at b
      have k0 : k - h.length = 0 := by
        have := (List.getElem?_eq_some_iff.mp a).1
        simp at this
        omega
      rw [k0] at a b
      cases a
      cases b
      exact hc
theorem EnvD.ext {Z : List Nat} (E : EnvD h X O μ ρ r) (e : Ext h h' Z μ μ') (hZ : ∀ n ∈ Z, n ∈ X) : EnvD h' X O μ' ρ r := by
  have hZ' : ∀ n ∈ Z, n ∈ O ++ X := fun n z => List.mem_append_right _ (hZ n z)
  refine ⟨E.len, fun i d q => ?_, fun i d q => ?_, E.ne⟩
  · obtain ⟨v, a, b⟩ := E.im i d q
    exact ⟨v, a, b.ext e hZ'⟩
  · obtain ⟨n, o, a, b, c, f, g, i, j⟩ := E.ow i d q
    exact ⟨n, o, a, b, e.not g c, f, Nat.lt_of_lt_of_le g e.le, (e.ob n g c fun z => f (hZ n z)).trans i, j.ext e hZ'⟩
theorem DRs.move {Z : List Nat} {vs : List Val} {ds : List Dt} (q : DRs h X μ vs ds) (e : Ext h h' Z μ μ') (hZ : ∀ n ∈ Z, n ∈ X) (hX : ∀ n ∈ X', n ∈ X ∨ μ.nx ≤ n) : DRs h' X' μ' vs ds :=
  DRs.weak (X := X' ++ X) (fun n z => List.mem_append_left _ z) (DRs.ext e (fun n z => List.mem_append_right _ (hZ n z)) (DRs.hid (X' := X' ++ X) (fun n z => (List.mem_append.mp z).elim (hX n) .inl) q))
/-- an own object changes -/
theorem EnvD.upd (E : EnvD h X O μ ρ r) {i n : Nat} {d0 d : Dt} {o : Ob} (hi : r[i]? = some (some (.ow d0))) (hn : ρ[i]? = some (some (.loc n))) (q : CD h (O ++ X) μ o d) : EnvD h X O (μ.put n o) ρ (r.set i (some (.ow d))) ∧ Ext h h O μ (μ.put n o) ∧ n ∈ O ∧ n ∉ h ∧ n ∉ X ∧ n < μ.nx := by
  obtain ⟨n', o0, a, b, c, f, g, _, _⟩ := E.ow i d0 hi
  rw [hn] at a
  cases a
  have e1 : Ext h h [n] μ (μ.put n o) := ⟨Nat.le_refl _, ⟨[], (List.append_nil _).symm, fun _ z => nomatch z⟩, fun m _ _ z => Mu.put_ne _ _ fun y => z (List.mem_singleton.mpr y), fun m _ _ z => Mu.put_vrN _ _ fun y => z (List.mem_singleton.mpr y)⟩
  have hz : ∀ m ∈ [n], m ∈ O ++ X := fun m z => List.mem_append_left _ (List.mem_singleton.mp z ▸ b)
  have il : i < r.length := (List.getElem?_eq_some_iff.mp hi).1
  have sp : ∀ {j : Nat} {z : Lc}, (r.set i (some (.ow d)))[j]? = some (some z) → (j = i ∧ z = .ow d) ∨ (j ≠ i ∧ r[j]? = some (some z)) := fun {j z} y => by
    rw [List.getElem?_set] at y
    split at y
    · rename_i c
      cases y
      exact .inl ⟨c.symm, rfl⟩
    · rename_i c
      exact .inr ⟨fun y => c y.symm, y⟩
  refine ⟨⟨by rw [List.length_set]; exact E.len, fun j d' z => ?_, fun j d' z => ?_, fun j k x y m jk z1 z2 z3 => ?_⟩, e1.mono fun m z => List.mem_singleton.mp z ▸ b, b, c, f, g⟩
  · rcases sp z with ⟨_, e⟩ | ⟨_, z⟩
    · cases e
    · obtain ⟨v, y, w⟩ := E.im j d' z
      exact ⟨v, y, w.ext e1 hz⟩
  · rcases sp z with ⟨rfl, e⟩ | ⟨cj, z⟩
    · cases e
      exact ⟨n, o, hn, b, c, f, g, Mu.put_same _ _ _, q.ext e1 hz⟩
    · obtain ⟨m, o', x1, x2, x3, x4, x5, x6, x7⟩ := E.ow j d' z
      have mn : m ≠ n := fun y => by
        subst y
        exact E.ne j i d' d0 m cj z hi x1 hn
      exact ⟨m, o', x1, x2, x3, x4, x5, (Mu.put_ne _ _ mn).trans x6, x7.ext e1 hz⟩
  · have w1 : ∃ d1, r[j]? = some (some (.ow d1)) := (sp z1).elim (fun ⟨e, _⟩ => ⟨d0, e ▸ hi⟩) fun ⟨_, z⟩ => ⟨_, z⟩
    have w2 : ∃ d1, r[k]? = some (some (.ow d1)) := (sp z2).elim (fun ⟨e, _⟩ => ⟨d0, e ▸ hi⟩) fun ⟨_, z⟩ => ⟨_, z⟩
    obtain ⟨d1, w1⟩ := w1
    obtain ⟨d2, w2⟩ := w2
    exact E.ne j k d1 d2 m jk w1 w2 z3
theorem EnvD.hid (E : EnvD h X O μ ρ r) (hX : ∀ n ∈ X', n ∈ X ∨ μ.nx ≤ n) : EnvD h X' O μ ρ r := by
  have hX' : ∀ n ∈ O ++ X', n ∈ O ++ X ∨ μ.nx ≤ n := fun n z => (List.mem_append.mp z).elim (fun z => .inl (List.mem_append_left _ z)) fun z => (hX n z).imp (List.mem_append_right _) id
  refine ⟨E.len, fun i d q => ?_, fun i d q => ?_, E.ne⟩
  · obtain ⟨v, a, b⟩ := E.im i d q
    exact ⟨v, a, b.hid hX'⟩
  · obtain ⟨n, o, a, b, c, f, g, i, j⟩ := E.ow i d q
    exact ⟨n, o, a, b, c, fun z => (hX n z).elim f fun y => absurd g (Nat.not_lt.mpr y), g, i, j.hid hX'⟩
theorem EnvD.set (E : EnvD h X O μ ρ r) (i : Nat) {v : Val} {d : Dt} (q : DR h (O ++ X) μ v d) : EnvD h X O μ (ρ.set i (some v)) (r.set i (some (.im d))) := by
  have sp : ∀ {j : Nat} {d' : Dt}, (r.set i (some (.im d)))[j]? = some (some (.ow d')) → j ≠ i ∧ r[j]? = some (some (.ow d')) := fun {j d'} z => by
    rw [List.getElem?_set] at z
    split at z
    · split at z <;> cases z
    · rename_i c
      exact ⟨fun y => c y.symm, z⟩
  refine ⟨by rw [List.length_set, List.length_set]; exact E.len, fun j d' z => ?_, fun j d' z => ?_, fun j k a b n jk z1 z2 z3 => ?_⟩
  · rw [List.getElem?_set] at z ⊢
    split at z
    · rename_i c
      split at z
      · rename_i l
        cases z
        exact ⟨v, by rw [if_pos c, if_pos (by rw [E.len]; exact l)], q⟩
      · cases z
    · rename_i c
      rw [if_neg c]
      exact E.im j d' z
  · obtain ⟨c, z⟩ := sp z
    rw [List.getElem?_set, if_neg (fun y => c y.symm)]
    exact E.ow j d' z
  · obtain ⟨c1, z1⟩ := sp z1
    obtain ⟨c2, z2⟩ := sp z2
    rw [List.getElem?_set, if_neg (fun y => c1 y.symm)] at z3
    rw [List.getElem?_set, if_neg (fun y => c2 y.symm)]
    exact E.ne j k a b n jk z1 z2 z3
/-- a variable has a new object -/
theorem EnvD.own (E : EnvD h X O μ ρ r) (e : Ext h h' [] μ μ') (i : Nat) {n : Nat} {o : Ob} {d : Dt} (hm : μ.nx ≤ n) (hn : n ∉ h') (hx : n ∉ X) (hl : n < μ'.nx) (ho : μ'.ob n = some o) (q : CD h' (n :: O ++ X) μ' o d) : EnvD h' X (n :: O) μ' (ρ.set i (some (.loc n))) (r.set i (some (.ow d))) := by
  have hX' : ∀ m ∈ n :: O ++ X, m ∈ O ++ X ∨ μ.nx ≤ m := fun m z => by
    rcases List.mem_cons.mp z with z | z
    · exact .inr (z ▸ hm)
    · exact .inl z
  have sp : ∀ {j : Nat} {z : Lc}, (r.set i (some (.ow d)))[j]? = some (some z) → (j = i ∧ z = .ow d ∧ i < r.length) ∨ (j ≠ i ∧ r[j]? = some (some z)) := fun {j z} y => by
    rw [List.getElem?_set] at y
    split at y
    · rename_i c
      split at y
      · rename_i l
        cases y
        exact .inl ⟨c.symm, rfl, l⟩
      · cases y
    · rename_i c
      exact .inr ⟨fun y => c y.symm, y⟩
  have old : ∀ {j : Nat} {a : Dt}, r[j]? = some (some (.ow a)) → ρ[j]? ≠ some (some (.loc n)) := fun {j a} z y => by
    obtain ⟨m, o', x1, _, _, _, x5, _⟩ := E.ow j a z
    rw [x1] at y
    cases y
    exact absurd x5 (Nat.not_lt.mpr hm)
  refine ⟨by rw [List.length_set, List.length_set]; exact E.len, fun j d' z => ?_, fun j d' z => ?_, fun j k a b m jk z1 z2 z3 => ?_⟩
  · rcases sp z with ⟨_, e', _⟩ | ⟨c, z⟩
    · cases e'
    · obtain ⟨v, y, w⟩ := E.im j d' z
      rw [List.getElem?_set, if_neg (fun y => c y.symm)]
      exact ⟨v, y, (w.hid hX').ext e fun _ z => nomatch z⟩
  · rcases sp z with ⟨rfl, e', l⟩ | ⟨c, z⟩
    · cases e'
      exact ⟨n, o, by rw [List.getElem?_set, if_pos rfl, if_pos (by rw [E.len]; exact l)], List.mem_cons_self, hn, hx, hl, ho, q⟩
    · obtain ⟨m, o', x1, x2, x3, x4, x5, x6, x7⟩ := E.ow j d' z
      rw [List.getElem?_set, if_neg (fun y => c y.symm)]
      exact ⟨m, o', x1, List.mem_cons_of_mem _ x2, e.not x5 x3, x4, Nat.lt_of_lt_of_le x5 e.le, (e.ob m x5 x3 fun z => nomatch z).trans x6, (x7.hid hX').ext e fun _ z => nomatch z⟩
  · rcases sp z1 with ⟨rfl, e1, l1⟩ | ⟨c1, y1⟩
    · rcases sp z2 with ⟨rfl, _, _⟩ | ⟨c2, y2⟩
      · exact absurd rfl jk
      · rw [List.getElem?_set, if_pos rfl, if_pos (by rw [E.len]; exact l1)] at z3
        cases z3
        rw [List.getElem?_set, if_neg (fun y => c2 y.symm)]
        exact old y2
    · clear z1
      rw [List.getElem?_set, if_neg (fun y => c1 y.symm)] at z3
      rcases sp z2 with ⟨rfl, e2, l2⟩ | ⟨c2, y2⟩
      · rw [List.getElem?_set, if_pos rfl, if_pos (by rw [E.len]; exact l2)]
        intro y
        cases y
        exact old y1 z3
      · rw [List.getElem?_set, if_neg (fun y => c2 y.symm)]
        exact E.ne j k a b m jk y1 y2 z3
/-- an own object becomes plain data -/
theorem EnvD.rel (E : EnvD h X O μ ρ r) {i : Nat} {d : Dt} (hi : r[i]? = some (some (.ow d))) : ∃ n, ρ[i]? = some (some (.loc n)) ∧ EnvD h X (O.filter fun m => decide (m ≠ n)) μ ρ (r.set i (some (.im d))) := by
  obtain ⟨n, o, a, b, c, f, g, y, w⟩ := E.ow i d hi
  have il : i < r.length := (List.getElem?_eq_some_iff.mp hi).1
  have hX : ∀ m ∈ (O.filter fun m => decide (m ≠ n)) ++ X, m ∈ O ++ X := fun m z => (List.mem_append.mp z).elim (fun z => List.mem_append_left _ (List.mem_filter.mp z).1) fun z => List.mem_append_right _ z
  have hX' : ∀ m ∈ (O.filter fun m => decide (m ≠ n)) ++ X, m ∈ O ++ X ∨ μ.nx ≤ m := fun m z => .inl (hX m z)
  have sp : ∀ {j : Nat} {z : Lc}, (r.set i (some (.im d)))[j]? = some (some z) → (j = i ∧ z = .im d) ∨ (j ≠ i ∧ r[j]? = some (some z)) := fun {j z} y => by
    rw [List.getElem?_set] at y
    split at y
    · rename_i c
      cases y
      exact .inl ⟨c.symm, rfl⟩
    · rename_i c
      exact .inr ⟨fun y => c y.symm, y⟩
  refine ⟨n, a, by rw [List.length_set]; exact E.len, fun j d' z => ?_, fun j d' z => ?_, fun j k x x' m jk z1 z2 z3 => ?_⟩
  · rcases sp z with ⟨rfl, e⟩ | ⟨_, z⟩
    · cases e
      refine ⟨_, a, .obj c (fun z => ?_) g y (w.hid hX')⟩
      rcases List.mem_append.mp z with z | z
      · exact absurd rfl (of_decide_eq_true (List.mem_filter.mp z).2)
      · exact f z
    · obtain ⟨v, y, w⟩ := E.im j d' z
      exact ⟨v, y, w.hid hX'⟩
  · rcases sp z with ⟨_, e⟩ | ⟨cj, z⟩
    · cases e
    · obtain ⟨m, o', x1, x2, x3, x4, x5, x6, x7⟩ := E.ow j d' z
      have mn : m ≠ n := fun y => by
        subst y
        exact E.ne j i d' d m cj z hi x1 a
      exact ⟨m, o', x1, List.mem_filter.mpr ⟨x2, decide_eq_true mn⟩, x3, x4, x5, x6, x7.hid hX'⟩
  · rcases sp z1 with ⟨_, e⟩ | ⟨_, z1⟩
    · cases e
    · rcases sp z2 with ⟨_, e⟩ | ⟨_, z2⟩
      · cases e
      · exact E.ne j k x x' m jk z1 z2 z3
end
end Wn
/-! plain data: expressions -/
namespace Wn
open PySem PySem.Spec PyProof.Rows L2 LamX He
abbrev PlE := Ev_ → Sg → (Dt → Sg → Prop) → Prop
abbrev PlA := Ev_ → Sg → (List Dt → Sg → Prop) → Prop
abbrev PlT := Ev_ → Sg → (Bool → Sg → Prop) → Prop
abbrev DRel (α β : Type) := Mu → Hd → List Nat → Mu → α → β → Prop
/-- what is read at once may be what nobody else has -/
def DW (h : Hd) (X : List Nat) (μ : Mu) (v : Val) (d : Dt) : Prop := DR h X μ v d ∨ ∃ n o, v = .loc n ∧ n ∉ h ∧ n < μ.nx ∧ μ.ob n = some o ∧ CD h X μ o d
def DWs (h : Hd) (X : List Nat) (μ : Mu) : List Val → List Dt → Prop
  | [], [] => True
  | v :: vs, d :: ds => DW h X μ v d ∧ DWs h X μ vs ds
  | _, _ => False
def rlE : DRel Val Dt := fun _ h X μ v d => DR h X μ v d
def rlW : DRel Val Dt := fun _ h X μ v d => DW h X μ v d
def rlA : DRel (List Val) (List Dt) := fun _ h X μ v d => DRs h X μ v d
def rlAW : DRel (List Val) (List Dt) := fun _ h X μ v d => DWs h X μ v d
def rlT : DRel Bool Bool := fun _ _ _ _ a b => a = b
def OkR {α β : Type} (rel : DRel α β) (h : Hd) (X : List Nat) (μ : Mu) (Q : β → Sg → Prop) (r : R α) : Prop :=
  ∃ a μ' h' b σ', r = .ok a μ' ∧ Ext h h' [] μ μ' ∧ Sm h' X μ' σ' ∧ rel μ h' X μ' a b ∧ Q b σ'
def Si {α β : Type} (rel : DRel α β) (m : Rho → Mu → R α) (p : Ev_ → Sg → (β → Sg → Prop) → Prop) : Prop :=
  ∀ (h : Hd) (X O : List Nat) (μ : Mu) (σ : Sg) (ρ : Rho) (r : Ev_) (Q : β → Sg → Prop), Sm h (O ++ X) μ σ → EnvD h X O μ ρ r → p r σ Q → OkR rel h (O ++ X) μ Q (m ρ μ)
abbrev SiE := Si rlE
abbrev SiW := Si rlW
abbrev SiA := Si rlA
abbrev SiAW := Si rlAW
abbrev SiT := Si rlT
/-- a new object, that nothing else has -/
def OkF (h : Hd) (X : List Nat) (μ : Mu) (Q : Dt → Sg → Prop) (r : R Val) : Prop :=
  ∃ n o μ' h' d σ', r = .ok (.loc n) μ' ∧ Ext h h' [] μ μ' ∧ Sm h' (n :: X) μ' σ' ∧ μ.nx ≤ n ∧ n ∉ h' ∧ n ∉ X ∧ μ'.ob n = some o ∧ CD h' (n :: X) μ' o d ∧ Q d σ'
def SiF (m : ME) (p : Ev_ → Sg → (Dt → Sg → Prop) → Prop) : Prop :=
  ∀ (h : Hd) (X O : List Nat) (μ : Mu) (σ : Sg) (ρ : Rho) (r : Ev_) (Q : Dt → Sg → Prop), Sm h (O ++ X) μ σ → EnvD h X O μ ρ r → p r σ Q → OkF h (O ++ X) μ Q (m ρ μ)
theorem none_in {n : Nat} {P : Prop} : n ∈ ([] : List Nat) → P := fun z => nomatch z
section
variable {h h' : Hd} {X : List Nat} {μ μ' : Mu} {v : Val} {d : Dt} {vs : List Val} {ds : List Dt} {σ : Sg}
theorem DW.ext (q : DW h X μ v d) (e : Ext h h' [] μ μ') : DW h' X μ' v d := by
  rcases q with q | ⟨n, o, a, b, c, f, g⟩
  · exact .inl (q.ext e fun _ => none_in)
  · exact .inr ⟨n, o, a, e.not c b, Nat.lt_of_lt_of_le c e.le, (e.ob n c b none_in).trans f, g.ext e fun _ => none_in⟩
theorem DWs.ext (e : Ext h h' [] μ μ') : ∀ {vs : List Val} {ds : List Dt}, DWs h X μ vs ds → DWs h' X μ' vs ds
  | [], [], _ => trivial
  | _ :: _, _ :: _, ⟨a, b⟩ => ⟨a.ext e, DWs.ext e b⟩
  | [], _ :: _, q => q.elim
  | _ :: _, [], q => q.elim
theorem DRs.w : ∀ {vs : List Val} {ds : List Dt}, DRs h X μ vs ds → DWs h X μ vs ds
  | _, _, .nil => trivial
  | _, _, .cons a b => ⟨.inl a, DRs.w b⟩
theorem OkF.e {Q : Dt → Sg → Prop} {r : R Val} (q : OkF h X μ Q r) : OkR rlE h X μ Q r := by
  obtain ⟨n, o, μ', h', d, σ', e, E, S, a, b, c, f, g, hq⟩ := q
  exact ⟨_, μ', h', d, σ', e, E, S.weak fun m z => List.mem_cons_of_mem _ z, .obj b c (S.xl n List.mem_cons_self) f (g.hid fun m z => .inl (List.mem_cons_of_mem _ z)), hq⟩
theorem OkR.mono {α β γ : Type} {rel : DRel α β} {rel' : DRel α γ} {h : Hd} {X : List Nat} {μ : Mu} {Q : β → Sg → Prop} {Q' : γ → Sg → Prop} {r : R α} (q : OkR rel h X μ Q r) (f : ∀ h' μ' a b σ', rel μ h' X μ' a b → Q b σ' → ∃ c, rel' μ h' X μ' a c ∧ Q' c σ') : OkR rel' h X μ Q' r := by
  obtain ⟨a, μ', h', b, σ', e1, e2, e3, e4, e5⟩ := q
  obtain ⟨c, x, y⟩ := f h' μ' a b σ' e4 e5
  exact ⟨a, μ', h', c, σ', e1, e2, e3, x, y⟩
/-- told of a later start, so of an earlier one -/
class RelUp {α β : Type} (rel : DRel α β) : Prop where
  up : ∀ {μ0 μ1 : Mu} {h : Hd} {X : List Nat} {μ : Mu} {a : α} {b : β}, μ0.nx ≤ μ1.nx → rel μ1 h X μ a b → rel μ0 h X μ a b
instance : RelUp rlE := ⟨fun _ z => z⟩
instance : RelUp rlW := ⟨fun _ z => z⟩
instance : RelUp rlA := ⟨fun _ z => z⟩
instance : RelUp rlAW := ⟨fun _ z => z⟩
instance : RelUp rlT := ⟨fun _ z => z⟩
/-- one step, then another one -/
theorem OkR.bind {α β γ δ : Type} {rel : DRel α β} {rel' : DRel γ δ} [RelUp rel'] {h : Hd} {X : List Nat} {μ : Mu} {Q : β → Sg → Prop} {Q' : δ → Sg → Prop} {r : R α} {k : α → Mu → R γ} (q : OkR rel h X μ Q r)
    (f : ∀ a μ' h' b σ', Ext h h' [] μ μ' → Sm h' X μ' σ' → rel μ h' X μ' a b → Q b σ' → OkR rel' h' X μ' Q' (k a μ')) : OkR rel' h X μ Q' (r.bind k) := by
  obtain ⟨a, μ', h', b, σ', rfl, e2, e3, e4, e5⟩ := q
  obtain ⟨a2, μ2, h2, b2, σ2, f1, f2, f3, f4, f5⟩ := f a μ' h' b σ' e2 e3 e4 e5
  exact ⟨a2, μ2, h2, b2, σ2, f1, e2.tr f2, f3, RelUp.up e2.le f4, f5⟩
end
theorem OkR.bindF {α β : Type} {rel : DRel α β} {h : Hd} {X : List Nat} {μ : Mu} {Q : β → Sg → Prop} {Q' : Dt → Sg → Prop} {r : R α} {k : α → Mu → R Val} (q : OkR rel h X μ Q r)
    (f : ∀ a μ' h' b σ', Ext h h' [] μ μ' → Sm h' X μ' σ' → rel μ h' X μ' a b → Q b σ' → OkF h' X μ' Q' (k a μ')) : OkF h X μ Q' (r.bind k) := by
  obtain ⟨a, μ', h', b, σ', rfl, e2, e3, e4, e5⟩ := q
  obtain ⟨n, o, μ2, h2, d, σ2, e, E, S, g⟩ := f a μ' h' b σ' e2 e3 e4 e5
  obtain ⟨g1, g2⟩ := g
  exact ⟨n, o, μ2, h2, d, σ2, e, e2.tr E, S, Nat.le_trans e2.le g1, g2⟩
/-- an answer, if there is one -/
def oK (o : Option Dt) (K : Dt → Prop) : Prop := match o with
  | some d => K d
  | none => False
theorem oK_some {d : Dt} {K : Dt → Prop} : oK (some d) K = K d := rfl
theorem oK_of {o : Option Dt} {K : Dt → Prop} (h : oK o K) : ∃ d, o = some d ∧ K d := by
  cases o with
  | some d => exact ⟨d, rfl, h⟩
  | none => exact h.elim

/-! ### the parts -/
def pC (d : Dt) : PlE := fun _ σ Q => Q d σ
def pV (i : Nat) : PlE := fun r σ Q => match r[i]? with
  | some (some (.im d)) => Q d σ
  | _ => False
/-- a variable that has its own list -/
def pO (i : Nat) : PlE := fun r σ Q => match r[i]? with
  | some (some (.ow d)) => Q d σ
  | _ => False
def pNil : PlA := fun _ σ Q => Q [] σ
def pCons (a : PlE) (b : PlA) : PlA := fun r σ Q => a r σ fun x σ => b r σ fun xs σ => Q (x :: xs) σ
def pTup (a : PlA) : PlE := fun r σ Q => a r σ fun xs σ => xs.length ≤ 1000 ∧ Q (.tup xs) σ
def pLst (a : PlA) : PlE := fun r σ Q => a r σ fun xs σ => xs.length ≤ 1000 ∧ Q (.lst xs) σ
def pOp (f : Dt → Dt → Sg → Option Dt) (a b : PlE) : PlE := fun r σ Q => a r σ fun x σ => b r σ fun y σ => oK (f x y σ) fun d => Q d σ
def pUn (f : Dt → Sg → Option Dt) (a : PlE) : PlE := fun r σ Q => a r σ fun x σ => oK (f x σ) fun d => Q d σ
def pFn (f : List Dt → Sg → Option Dt) (a : PlA) : PlE := fun r σ Q => a r σ fun xs σ => oK (f xs σ) fun d => Q d σ
def pTest (a : PlE) : PlT := fun r σ Q => a r σ fun x σ => match x with
  | .bl b => Q b σ
  | _ => False
def pAnd (a b : PlT) : PlT := fun r σ Q => a r σ fun c σ => if c = true then b r σ Q else Q false σ
def pOr (a b : PlT) : PlT := fun r σ Q => a r σ fun c σ => if c = true then Q true σ else b r σ Q
def pNot (a : PlT) : PlT := fun r σ Q => a r σ fun c σ => Q (!c) σ
def pIf (c : PlT) (a b : PlE) : PlE := fun r σ Q => c r σ fun k σ => if k = true then a r σ Q else b r σ Q
def pNotV (a : PlE) : PlE := fun r σ Q => a r σ fun x σ => match x with
  | .bl b => Q (.bl (!b)) σ
  | _ => False
def pOrV (a b : PlE) : PlE := fun r σ Q => a r σ fun x σ => match x with
  | .bl c => if c = true then Q (.bl true) σ else b r σ Q
  | _ => False
def pYes : PlT := fun _ σ Q => Q true σ
/-! ### what they read -/
def lstD (σ : Sg) : Dt → Option (List Dt)
  | .lst l => some l
  | .ref k => match σ[k]? with
    | some (.dat (.lst l)) => some l
    | _ => none
  | _ => none
def dctD (σ : Sg) : Dt → Option (List (Key × Dt))
  | .dct l => some l
  | .ref k => match σ[k]? with
    | some (.dat (.dct l)) => some l
    | _ => none
  | _ => none
def scaP : Dt → Option PyData
  | .non => some .none
  | .bl b => some (.bool b)
  | .int i => some (.int i)
  | .str x => if PyData.strOk x = true then some (.str x) else none
  | _ => none
def toP : Nat → Sg → Dt → Option PyData
  | 0, _, d => scaP d
  | k + 1, σ, .tup l => (allO (l.map (toP k σ))).map .tuple
  | k + 1, σ, .lst l => (allO (l.map (toP k σ))).map .list
  | k + 1, σ, .ros l => (allO (l.map (toP k σ))).map .list
  | k + 1, σ, .ref j => match σ[j]? with
    | some (.dat (.lst l)) => (allO (l.map (toP k σ))).map .list
    | _ => none
  | _ + 1, _, d => scaP d
def datP (σ : Sg) (d : Dt) : Option PyData := toP 8 σ d
def addD : Dt → Dt → Sg → Option Dt
  | .int i, .int j, _ => some (.int (i + j))
  | .str a, .str b, _ => if a.length + b.length ≤ 1000000 then some (.str (a ++ b)) else none
  | .tup a, .tup b, _ => if a ≠ [] ∧ a.length + b.length ≤ 1000000 then some (.tup (a ++ b)) else none
  | x, y, σ => match lstD σ x, lstD σ y with
    | some a, some b => if a.length + b.length ≤ 1000000 then some (.lst (a ++ b)) else none
    | _, _ => none
def subD : Dt → Dt → Sg → Option Dt
  | .int i, .int j, _ => some (.int (i - j))
  | _, _, _ => none

def modD : Dt → Dt → Sg → Option Dt
  | .int i, .int j, _ => if 0 < j then some (.int (i % j)) else none
  | _, _, _ => none

def cmpD (f : Int → Int → Bool) : Dt → Dt → Sg → Option Dt
  | .int i, .int j, _ => some (.bl (f i j))
  | _, _, _ => none
def ltD : Dt → Dt → Sg → Option Dt := cmpD fun i j => decide (i < j)
def leD : Dt → Dt → Sg → Option Dt := cmpD fun i j => decide (i ≤ j)
def gtD : Dt → Dt → Sg → Option Dt := cmpD fun i j => decide (j < i)
def geD : Dt → Dt → Sg → Option Dt := cmpD fun i j => decide (j ≤ i)
def nonD : Dt → Bool
  | .non => true
  | _ => false
def isD : Dt → Dt → Sg → Option Dt
  | x, .non, _ => some (.bl (nonD x))
  | _, _, _ => none
def isntD : Dt → Dt → Sg → Option Dt
  | x, .non, _ => some (.bl (!nonD x))
  | _, _, _ => none
def eqD (x y : Dt) (σ : Sg) : Option Dt := match datP σ x, datP σ y with
  | some d, some e => some (.bl (PyData.eqv d e))
  | _, _ => none
def neD (x y : Dt) (σ : Sg) : Option Dt := match datP σ x, datP σ y with
  | some d, some e => some (.bl (!PyData.eqv d e))
  | _, _ => none
def keyD : Dt → Option Key
  | .int i => some (.inl i)
  | .str x => some (.inr x)
  | _ => none
def kGetD (kvs : List (Key × Dt)) (k : Key) : Option Dt := (kvs.find? fun p => decide (p.1 = k)).map (·.2)
def hasDt (x y : Dt) (σ : Sg) : Option Bool := match lstD σ y with
  | some l => match datP σ x, allO (l.map (datP σ)) with
    | some d, some ds => some (ds.any fun z => PyData.eqv z d)
    | _, _ => none
  | none => match dctD σ y, keyD x with
    | some kvs, some k => some (kGetD kvs k).isSome
    | _, _ => none
def inD (x y : Dt) (σ : Sg) : Option Dt := (hasDt x y σ).map .bl
def ninD (x y : Dt) (σ : Sg) : Option Dt := (hasDt x y σ).map fun b => .bl (!b)
def getD_ : Dt → Dt → Sg → Option Dt
  | .tup l, .int i, _ => atI l i
  | x, .int i, σ => (lstD σ x).bind fun l => atI l i
  | _, _, _ => none
def negD : Dt → Sg → Option Dt
  | .int i, _ => some (.int (-i))
  | _, _ => none
def lenD : List Dt → Sg → Option Dt
  | [.tup l], _ => some (.int l.length)
  | [.ros l], _ => some (.int l.length)
  | [.str x], _ => if x.length ≤ 1000000 then some (.int x.length) else none
  | [x], σ => (lstD σ x).map fun l => .int l.length
  | _, _ => none
def listD : List Dt → Sg → Option Dt
  | [.tup l], _ => some (.lst l)
  | [x], σ => (lstD σ x).map .lst
  | _, _ => none
def tupleD : List Dt → Sg → Option Dt
  | [.tup l], _ => some (.tup l)
  | [x], σ => (lstD σ x).map .tup
  | _, _ => none
def minD : List Dt → Sg → Option Dt
  | [.int i, .int j], _ => some (.int (if j < i then j else i))
  | _, _ => none
def maxD : List Dt → Sg → Option Dt
  | [.int i, .int j], _ => some (.int (if j > i then j else i))
  | _, _ => none
def absD : List Dt → Sg → Option Dt
  | [.int i], _ => some (.int (if i < 0 then -i else i))
  | _, _ => none
def intD : List Dt → Sg → Option Dt
  | [.int i], _ => some (.int i)
  | _, _ => none
def intBD : List Dt → Sg → Option Dt
  | [.int i], _ => some (.int i)
  | [.bl k], _ => some (.int (if k then 1 else 0))
  | _, _ => none

def truD (σ : Sg) : Dt → Option Bool
  | .non => some false
  | .bl b => some b
  | .int i => some (i != 0)
  | .str x => if x.length ≤ 1000000 then some ((x.length : Int) != 0) else none
  | .tup l => some (!l.isEmpty)
  | x => (lstD σ x).map fun l => !l.isEmpty
def pOrT (a b : PlE) : PlE := fun r σ Q => a r σ fun x σ => match truD σ x with
  | some true => Q x σ
  | some false => b r σ Q
  | none => False
def pAndT (a b : PlE) : PlE := fun r σ Q => a r σ fun x σ => match truD σ x with
  | some true => b r σ Q
  | some false => Q x σ
  | none => False
def pChain (f g : Dt → Dt → Sg → Option Dt) (a b c : PlE) : PlE := fun r σ Q => a r σ fun x σ => b r σ fun y σ => match f x y σ with
  | some (.bl true) => c r σ fun t σ => oK (g y t σ) fun d => Q d σ
  | some (.bl false) => Q (.bl false) σ
  | _ => False
end Wn
/-! plain data: what the parts do is what the law's defs do -/
namespace Wn
open PySem PySem.Spec PyProof.Rows L2 LamX He
section
variable {h h' : Hd} {X : List Nat} {μ μ' : Mu} {v : Val} {d : Dt} {vs : List Val} {ds : List Dt} {σ : Sg}
theorem DW.int {i : Int} (q : DW h X μ v (.int i)) : v = .int i := by
  rcases q with q | ⟨n, o, _, _, _, _, q⟩
  · cases q with
    | int => rfl
    | obj _ _ _ _ q => cases q
  · cases q
theorem DW.str {i : Str} (q : DW h X μ v (.str i)) : v = .str i := by
  rcases q with q | ⟨n, o, _, _, _, _, q⟩
  · cases q with
    | str => rfl
    | obj _ _ _ _ q => cases q
  · cases q
theorem DW.bl {i : Bool} (q : DW h X μ v (.bl i)) : v = .bl i := by
  rcases q with q | ⟨n, o, _, _, _, _, q⟩
  · cases q with
    | bl => rfl
    | obj _ _ _ _ q => cases q
  · cases q
theorem DW.non (q : DW h X μ v .non) : v = .non := by
  rcases q with q | ⟨n, o, _, _, _, _, q⟩
  · cases q with
    | non => rfl
    | obj _ _ _ _ q => cases q
  · cases q
theorem DW.tup {l : List Dt} (q : DW h X μ v (.tup l)) : ∃ vs, v = .tup vs ∧ DRs h X μ vs l := by
  rcases q with q | ⟨n, o, _, _, _, _, q⟩
  · cases q with
    | tup q => exact ⟨_, rfl, q⟩
    | obj _ _ _ _ q => cases q
  · cases q
theorem DW.sysv {s : Sv} (q : DW h X μ v (.sysv s)) : ∃ n, v = .loc n ∧ n ∉ h ∧ n ∉ X ∧ n < μ.nx ∧ μ.ob n = some (.sys s) := by
  rcases q with q | ⟨n, o, _, _, _, _, q⟩
  · cases q with
    | sysv a b c d => exact ⟨_, rfl, a, b, c, d⟩
    | obj _ _ _ _ q => cases q
  · cases q
theorem DW.sysw {s : Sv} (q : DW h X μ v (.sysw s)) : ∃ n, v = .loc n ∧ n ∉ h ∧ n ∉ X ∧ n < μ.nx ∧ svAt μ n = some s := by
  rcases q with q | ⟨n, o, _, _, _, _, q⟩
  · cases q with
    | sysw a b c d => exact ⟨_, rfl, a, b, c, d⟩
    | obj _ _ _ _ q => cases q
  · cases q
theorem DW.vw {s : Sv} {p : Pth} (q : DW h X μ v (.vw s p)) : ∃ n k, v = .vw n k p ∧ n ∉ h ∧ n ∉ X ∧ n < μ.nx ∧ svAt μ n = some s ∧ μ.vr n = k := by
  rcases q with q | ⟨n, o, _, _, _, _, q⟩
  · cases q with
    | vw a b c d e => exact ⟨_, _, rfl, a, b, c, d, e⟩
    | obj _ _ _ _ q => cases q
  · cases q
theorem DW.ref {k : Nat} (q : DW h X μ v (.ref k)) : ∃ n, v = .loc n ∧ h[k]? = some n := by
  rcases q with q | ⟨n, o, _, _, _, _, q⟩
  · cases q with
    | ref q => exact ⟨_, rfl, q⟩
    | obj _ _ _ _ q => cases q
  · cases q
theorem DW.lst {l : List Dt} (S : Sm h X μ σ) (q : DW h X μ v d) (e : lstD σ d = some l) : ∃ n vs, v = .loc n ∧ n < μ.nx ∧ μ.ob n = some (.lst vs) ∧ DRs h X μ vs l := by
  cases d with
  | lst l' =>
    cases e
    rcases q with q | ⟨n, o, rfl, _, a, b, q⟩
    · cases q with
      | obj _ _ a b q =>
        cases q with
        | lst q => exact ⟨_, _, rfl, a, b, q⟩
    · cases q with
      | lst q => exact ⟨_, _, rfl, a, b, q⟩
  | ref k =>
    obtain ⟨n, rfl, hk⟩ := q.ref
    dsimp only [lstD] at e
    split at e
    · rename_i l' hc
      cases e
      obtain ⟨o, a, b⟩ := S.ob _ _ _ hk hc
      cases b with
      | lst b => exact ⟨n, _, rfl, S.lt n (List.mem_of_getElem? hk), a, b⟩
    · cases e
  | _ => cases e
theorem DW.dct {l : List (Key × Dt)} (S : Sm h X μ σ) (q : DW h X μ v d) (e : dctD σ d = some l) : ∃ n vs, v = .loc n ∧ n < μ.nx ∧ μ.ob n = some (.dct vs) ∧ vs.map (·.1) = l.map (·.1) ∧ DRs h X μ (vs.map (·.2)) (l.map (·.2)) := by
  cases d with
  | dct l' =>
    cases e
    rcases q with q | ⟨n, o, rfl, _, a, b, q⟩
    · cases q with
      | obj _ _ a b q =>
        cases q with
        | dct k q => exact ⟨_, _, rfl, a, b, k, q⟩
    · cases q with
      | dct k q => exact ⟨_, _, rfl, a, b, k, q⟩
  | ref k =>
    obtain ⟨n, rfl, hk⟩ := q.ref
    dsimp only [dctD] at e
    split at e
    · rename_i l' hc
      cases e
      obtain ⟨o, a, b⟩ := S.ob _ _ _ hk hc
      cases b with
      | dct k b => exact ⟨n, _, rfl, S.lt n (List.mem_of_getElem? hk), a, k, b⟩
    · cases e
  | _ => cases e
theorem DW.ros {l : List Dt} (q : DW h X μ v (.ros l)) : ∃ n vs, v = .loc n ∧ n < μ.nx ∧ seqOf μ n = some vs ∧ DRs h X μ vs l := by
  have key : ∀ {n : Nat} {o : Ob}, n < μ.nx → μ.ob n = some o → CD h X μ o (.ros l) → ∃ vs, seqOf μ n = some vs ∧ DRs h X μ vs l := fun {n o} _ a c => by
    cases c with
    | ros k r =>
      refine ⟨_, ?_, r⟩
      unfold seqOf
      rcases k with rfl | rfl <;> rw [a]
  rcases q with q | ⟨n, o, rfl, _, a, b, q⟩
  · cases q with
    | obj _ _ a b q =>
      obtain ⟨vs, x, y⟩ := key a b q
      exact ⟨_, vs, rfl, a, x, y⟩
  · obtain ⟨vs, x, y⟩ := key a b q
    exact ⟨n, vs, rfl, a, x, y⟩
theorem seqOf_l {n : Nat} (e : μ.ob n = some (.lst vs)) : seqOf μ n = some vs := by unfold seqOf; rw [e]
theorem allO_rel {γ : Type} {f : Val → Option γ} {g : Dt → Option γ} (hf : ∀ a b c, DR h X μ a b → g b = some c → f a = some c) : ∀ {as : List Val} {bs : List Dt} {cs : List γ}, DRs h X μ as bs → allO (bs.map g) = some cs → allO (as.map f) = some cs
  | _, _, cs, .nil, e => e
  | _, _, cs, .cons (v := a) (vs := as) (d := b) (ds := bs) x y, e => by
    rw [List.map_cons] at e ⊢
    cases hb : g b with
    | none => rw [hb, allO] at e; cases e
    | some c =>
      rw [hb, allO] at e
      split at e
      · cases e
      · rename_i l hl
        cases e
        rw [hf a b c x hb, allO, allO_rel hf y hl]
theorem scaP_ok {e : PyData} (q : DW h X μ v d) (hd : scaP d = some e) : scaD v = some e := by
  cases d with
  | non => rw [q.non]; exact hd
  | bl b => rw [q.bl]; exact hd
  | int i => rw [q.int]; exact hd
  | str x => rw [q.str]; exact hd
  | _ => cases hd
theorem toP_ok (S : Sm h X μ σ) : ∀ (k : Nat) {v : Val} {d : Dt} {e : PyData}, DW h X μ v d → toP k σ d = some e → toD k μ v = some e
  | 0, v, d, e, q, hd => scaP_ok q hd
  | k + 1, v, d, e, q, hd => by
    cases d with
    | non => rw [q.non]; exact hd
    | bl b => rw [q.bl]; exact hd
    | int i => rw [q.int]; exact hd
    | str x => rw [q.str]; exact hd
    | tup l =>
      obtain ⟨vs, rfl, r⟩ := q.tup
      unfold toP at hd
      obtain ⟨es, a, rfl⟩ := Option.map_eq_some_iff.mp hd
      unfold toD
      rw [allO_rel (fun a b c x y => toP_ok S k (.inl x) y) r a]
      rfl
    | lst l =>
      obtain ⟨n, vs, rfl, _, b, r⟩ := DW.lst S q (l := l) rfl
      unfold toP at hd
      obtain ⟨es, a, rfl⟩ := Option.map_eq_some_iff.mp hd
      unfold toD
      rw [seqOf_l b]
      simp only
      rw [allO_rel (fun a b c x y => toP_ok S k (.inl x) y) r a]
      rfl
    | dct l => unfold toP at hd; cases hd
    | sysv l => unfold toP at hd; cases hd
    | dtt l => unfold toP at hd; cases hd
    | sysw l => unfold toP at hd; cases hd
    | vw l p => unfold toP at hd; cases hd
    | ros l =>
      obtain ⟨n, vs, rfl, _, b, r⟩ := DW.ros q
      unfold toP at hd
      obtain ⟨es, a, rfl⟩ := Option.map_eq_some_iff.mp hd
      unfold toD
      rw [b]
      simp only
      rw [allO_rel (fun a b c x y => toP_ok S k (.inl x) y) r a]
      rfl
    | ref j =>
      unfold toP at hd
      split at hd
      · rename_i l hc
        obtain ⟨n, vs, rfl, _, b, r⟩ := DW.lst S q (l := l) (by dsimp only [lstD]; rw [hc])
        obtain ⟨es, a, rfl⟩ := Option.map_eq_some_iff.mp hd
        unfold toD
        rw [seqOf_l b]
        simp only
        rw [allO_rel (fun a b c x y => toP_ok S k (.inl x) y) r a]
        rfl
      · cases hd
theorem datP_ok (S : Sm h X μ σ) {e : PyData} (q : DW h X μ v d) (hd : datP σ d = some e) : datM μ v = some e := toP_ok S 8 q hd
theorem atI_map {α β : Type} {as : List α} {bs : List β} (hl : as.length = bs.length) {i : Int} {b : β} (hb : atI bs i = some b) : ∃ k : Nat, bs[k]? = some b ∧ atI as i = as[k]? := by
  unfold atI at hb ⊢
  rw [hl]
  cases e : ixN bs.length i with
  | none => rw [e] at hb; cases hb
  | some k => rw [e] at hb; exact ⟨k, hb, rfl⟩
theorem DRs.atI {i : Int} (r : DRs h X μ vs ds) (e : atI ds i = some d) : ∃ v, atI vs i = some v ∧ DR h X μ v d := by
  obtain ⟨k, a, b⟩ := atI_map r.len e
  obtain ⟨v, f, g⟩ := r.get a
  exact ⟨v, b.trans f, g⟩
theorem kGet_relD : ∀ {vs : List (Key × Val)} {ds : List (Key × Dt)}, vs.map (·.1) = ds.map (·.1) → DRs h X μ (vs.map (·.2)) (ds.map (·.2)) → ∀ k, (kGetD ds k = none ∧ kGet vs k = none) ∨ ∃ v d, kGet vs k = some v ∧ kGetD ds k = some d ∧ DR h X μ v d
  | [], [], _, _, k => .inl ⟨rfl, rfl⟩
  | [], _ :: _, e, _, k => nomatch e
  | _ :: _, [], e, _, k => nomatch e
  | (a, v) :: vs, (b, d) :: ds, e, r, k => by
    rw [List.map_cons, List.map_cons] at e
    obtain ⟨e1, e2⟩ := List.cons.inj e
    cases r with
    | cons r1 r2 =>
      have e1 : a = b := e1
      subst e1
      unfold kGetD kGet
      rw [List.find?_cons, List.find?_cons]
      by_cases c : a = k
      · simp only [c, decide_true]
        exact .inr ⟨v, d, rfl, rfl, r1⟩
      · simp only [c, decide_false]
        exact kGet_relD e2 r2 k
theorem keyD_ok {k : Key} (q : DW h X μ v d) (e : keyD d = some k) : keyOf v = some k := by
  cases d with
  | int i => rw [q.int]; exact e
  | str i => rw [q.str]; exact e
  | _ => cases e
theorem okF_new (S : Sm h X μ σ) {o : Ob} {Q : Dt → Sg → Prop} (c : CD h X μ o d) (hq : Q d σ) : OkF h X μ Q (.ok (.loc μ.nx) (μ.new o)) := by
  have E := Ext.new h [] μ o
  have hX : ∀ n ∈ μ.nx :: X, n ∈ X ∨ μ.nx ≤ n := fun n z => (List.mem_cons.mp z).elim (fun z => .inr (Nat.le_of_eq z.symm)) .inl
  refine ⟨μ.nx, o, _, h, d, σ, rfl, E, ⟨S.len, S.nd, fun n z => Nat.lt_succ_of_lt (S.lt n z), fun n z => ?_, fun k n c a b => ?_⟩, Nat.le_refl _, fun z => absurd (S.lt _ z) (Nat.lt_irrefl _), fun z => absurd (S.xl _ z) (Nat.lt_irrefl _), Mu.new_same _ _, (c.hid hX).ext E fun _ => none_in, hq⟩
  · rcases List.mem_cons.mp z with z | z
    · rw [z]; exact Nat.lt_succ_self _
    · exact Nat.lt_succ_of_lt (S.xl n z)
  · exact ((S.ob k n c a b).hid hX).ext E (fun _ => none_in) (Mu.new_ne _ _ (Nat.ne_of_lt (S.lt n (List.mem_of_getElem? a))))
end
/-! ### prims -/
def Ok1 (h : Hd) (X : List Nat) (μ : Mu) (σ : Sg) (d : Dt) (r : R Val) : Prop := ∃ v μ', r = .ok v μ' ∧ Ext h h [] μ μ' ∧ Sm h X μ' σ ∧ DR h X μ' v d
def P2 (fm : Val → Val → Mu → R Val) (fp : Dt → Dt → Sg → Option Dt) : Prop := ∀ (h : Hd) (X : List Nat) (μ : Mu) (σ : Sg) (x y : Val) (dx dy d : Dt), Sm h X μ σ → DW h X μ x dx → DW h X μ y dy → fp dx dy σ = some d → Ok1 h X μ σ d (fm x y μ)
def P1 (fm : Val → Mu → R Val) (fp : Dt → Sg → Option Dt) : Prop := ∀ (h : Hd) (X : List Nat) (μ : Mu) (σ : Sg) (x : Val) (dx d : Dt), Sm h X μ σ → DW h X μ x dx → fp dx σ = some d → Ok1 h X μ σ d (fm x μ)
def PN (fm : List Val → Mu → R Val) (fp : List Dt → Sg → Option Dt) : Prop := ∀ (h : Hd) (X : List Nat) (μ : Mu) (σ : Sg) (xs : List Val) (dxs : List Dt) (d : Dt), Sm h X μ σ → DWs h X μ xs dxs → fp dxs σ = some d → Ok1 h X μ σ d (fm xs μ)
section
variable {h : Hd} {X : List Nat} {μ : Mu} {v : Val} {d : Dt} {vs : List Val} {ds : List Dt} {σ : Sg}
theorem Ok1.id (S : Sm h X μ σ) (q : DR h X μ v d) : Ok1 h X μ σ d (.ok v μ) := ⟨v, μ, rfl, Ext.refl _ _ _, S, q⟩
theorem Ok1.new (S : Sm h X μ σ) {o : Ob} (c : CD h X μ o d) : Ok1 h X μ σ d (.ok (.loc μ.nx) (μ.new o)) := by
  have E := Ext.new h [] μ o
  exact ⟨_, _, rfl, E, S.new o, .obj (fun z => absurd (S.lt _ z) (Nat.lt_irrefl _)) (fun z => absurd (S.xl _ z) (Nat.lt_irrefl _)) (Nat.lt_succ_self _) (Mu.new_same _ _) (c.ext E fun _ => none_in)⟩
theorem DWs.one {x : Dt} (q : DWs h X μ vs [x]) : ∃ v, vs = [v] ∧ DW h X μ v x := by
  match vs, q with
  | [v], ⟨a, _⟩ => exact ⟨v, rfl, a⟩
  | [], q => exact q.elim
  | _ :: _ :: _, ⟨_, q⟩ => exact q.elim
theorem DWs.two {x y : Dt} (q : DWs h X μ vs [x, y]) : ∃ v w, vs = [v, w] ∧ DW h X μ v x ∧ DW h X μ w y := by
  match vs, q with
  | [v, w], ⟨a, b, _⟩ => exact ⟨v, w, rfl, a, b⟩
  | [], q => exact q.elim
  | [_], ⟨_, q⟩ => exact q.elim
  | _ :: _ :: _ :: _, ⟨_, _, q⟩ => exact q.elim
end
theorem p_add : P2 addM addD := by
  intro h X μ σ x y dx dy d S hx hy e
  unfold addD at e
  split at e
  · cases e; rw [hx.int, hy.int]; exact .id S (.int _)
  · split at e
    · rename_i c; cases e; rw [hx.str, hy.str]; unfold addM; simp only; rw [if_pos c]; exact .id S (.str _)
    · cases e
  · split at e
    · rename_i c
      cases e
      obtain ⟨vs, rfl, r1⟩ := hx.tup
      obtain ⟨ws, rfl, r2⟩ := hy.tup
      unfold addM
      simp only
      rw [if_pos ⟨fun z => c.1 (by subst z; cases r1; rfl), by rw [r1.len, r2.len]; exact c.2⟩]
      exact .id S (.tup (r1.app r2))
    · cases e
  · split at e
    · rename_i a b h1 h2
      split at e
      · rename_i c
        cases e
        obtain ⟨n, vs, rfl, _, o1, r1⟩ := hx.lst S h1
        obtain ⟨m, ws, rfl, _, o2, r2⟩ := hy.lst S h2
        unfold addM
        simp only [o1, o2]
        rw [if_pos (by rw [r1.len, r2.len]; exact c)]
        exact .new S (.lst (r1.app r2))
      · cases e
    · cases e
theorem p_cmp (f : Int → Int → Bool) : P2 (fun x y μ => cmpI f x y μ) (cmpD f) := by
  intro h X μ σ x y dx dy d S hx hy e
  unfold cmpD at e
  split at e
  · cases e; rw [hx.int, hy.int]; exact .id S (.bl _)
  · cases e
theorem p_lt : P2 ltM ltD := p_cmp _
theorem p_le : P2 leM leD := p_cmp _
theorem non_rel {h : Hd} {X : List Nat} {μ : Mu} {v : Val} {d : Dt} (q : DW h X μ v d) : isNon v = nonD d := by
  cases d with
  | non => rw [q.non]; rfl
  | bl b => rw [q.bl]; rfl
  | int b => rw [q.int]; rfl
  | str b => rw [q.str]; rfl
  | tup l => obtain ⟨vs, rfl, _⟩ := q.tup; rfl
  | ref k => obtain ⟨n, rfl, _⟩ := q.ref; rfl
  | lst l =>
    rcases q with q | ⟨n, o, rfl, _⟩
    · cases q; rfl
    · rfl
  | dct l =>
    rcases q with q | ⟨n, o, rfl, _⟩
    · cases q; rfl
    · rfl
  | ros l =>
    obtain ⟨n, vs, rfl, _⟩ := DW.ros q
    rfl
  | sysv l =>
    rcases q with q | ⟨n, o, rfl, _⟩
    · cases q <;> rfl
    · rfl
  | sysw l =>
    rcases q with q | ⟨n, o, rfl, _⟩
    · cases q <;> rfl
    · rfl
  | vw l p =>
    rcases q with q | ⟨n, o, rfl, _⟩
    · cases q <;> rfl
    · rfl
  | dtt l =>
    rcases q with q | ⟨n, o, rfl, _⟩
    · cases q <;> rfl
    · rfl
theorem p_is : P2 isM' isD := by
  intro h X μ σ x y dx dy d S hx hy e
  unfold isD at e
  split at e
  · cases e; rw [hy.non, ← non_rel hx]; exact .id S (.bl _)
  · cases e
theorem p_eq : P2 eqM eqD := by
  intro h X μ σ x y dx dy d S hx hy e
  unfold eqD at e
  split at e
  · rename_i a b h1 h2
    cases e
    unfold eqM
    rw [datP_ok S hx h1, datP_ok S hy h2]
    exact .id S (.bl _)
  · cases e
theorem p_ne : P2 neM neD := by
  intro h X μ σ x y dx dy d S hx hy e
  unfold neD at e
  split at e
  · rename_i a b h1 h2
    cases e
    unfold neM
    rw [datP_ok S hx h1, datP_ok S hy h2]
    exact .id S (.bl _)
  · cases e
theorem has_rel {h : Hd} {X : List Nat} {μ : Mu} {σ : Sg} {x y : Val} {dx dy : Dt} {b : Bool} (S : Sm h X μ σ) (hx : DW h X μ x dx) (hy : DW h X μ y dy) (e : hasDt dx dy σ = some b) : hasM x y μ = some b := by
  unfold hasDt at e
  split at e
  · rename_i l hl
    obtain ⟨n, vs, rfl, _, o, r⟩ := hy.lst S hl
    split at e
    · rename_i d ds h1 h2
      cases e
      unfold hasM
      simp only [o, datP_ok S hx h1, allO_rel (fun a b c x y => datP_ok S (.inl x) y) r h2]
    · cases e
  · split at e
    · rename_i kvs k h1 h2
      cases e
      obtain ⟨n, vs, rfl, _, o, r1, r2⟩ := hy.dct S h1
      unfold hasM
      simp only [o, keyD_ok hx h2]
      rcases kGet_relD r1 r2 k with ⟨a, b⟩ | ⟨v, d, a, b, _⟩
      · rw [a, b]; rfl
      · rw [a, b]; rfl
    · cases e
theorem p_in : P2 inM inD := by
  intro h X μ σ x y dx dy d S hx hy e
  unfold inD at e
  obtain ⟨b, a, rfl⟩ := Option.map_eq_some_iff.mp e
  unfold inM
  rw [has_rel S hx hy a]
  exact .id S (.bl _)
theorem p_nin : P2 ninM ninD := by
  intro h X μ σ x y dx dy d S hx hy e
  unfold ninD at e
  obtain ⟨b, a, rfl⟩ := Option.map_eq_some_iff.mp e
  unfold ninM
  rw [has_rel S hx hy a]
  exact .id S (.bl _)
theorem p_get : P2 getM getD_ := by
  intro h X μ σ x y dx dy d S hx hy e
  unfold getD_ at e
  split at e
  · obtain ⟨vs, rfl, r⟩ := hx.tup
    obtain ⟨v, a, b⟩ := r.atI e
    rw [hy.int]
    unfold getM
    simp only [a]
    exact .id S b
  · obtain ⟨l, h1, h2⟩ := Option.bind_eq_some_iff.mp e
    obtain ⟨n, vs, rfl, _, o, r⟩ := hx.lst S h1
    obtain ⟨v, a, b⟩ := r.atI h2
    rw [hy.int]
    unfold getM
    simp only [seqOf_l o, a]
    exact .id S b
  · cases e
theorem p_neg : P1 negM negD := by
  intro h X μ σ x dx d S hx e
  unfold negD at e
  split at e
  · cases e; rw [hx.int]; exact .id S (.int _)
  · cases e
theorem p_len' : PN lenM lenD := by
  intro h X μ σ xs dxs d S hx e
  unfold lenD at e
  split at e
  · cases e
    obtain ⟨v, rfl, q⟩ := hx.one
    obtain ⟨vs, rfl, r⟩ := q.tup
    unfold lenM
    simp only [r.len]
    exact .id S (.int _)
  · cases e
    obtain ⟨v, rfl, q⟩ := hx.one
    obtain ⟨n, vs, rfl, _, o, r⟩ := DW.ros q
    unfold lenM
    simp only [o, r.len]
    exact .id S (.int _)
  · split at e
    · rename_i c
      cases e
      obtain ⟨v, rfl, q⟩ := hx.one
      rw [q.str]
      unfold lenM
      simp only
      rw [if_pos c]
      exact .id S (.int _)
    · cases e
  · obtain ⟨l, h1, rfl⟩ := Option.map_eq_some_iff.mp e
    obtain ⟨v, rfl, q⟩ := hx.one
    obtain ⟨n, vs, rfl, _, o, r⟩ := q.lst S h1
    unfold lenM
    simp only [seqOf_l o, r.len]
    exact .id S (.int _)
  · cases e
theorem p_min' : PN minM minD := by
  intro h X μ σ xs dxs d S hx e
  unfold minD at e
  split at e
  · cases e
    obtain ⟨v, w, rfl, a, b⟩ := hx.two
    rw [a.int, b.int]
    exact .id S (.int _)
  · cases e
theorem p_max' : PN maxM maxD := by
  intro h X μ σ xs dxs d S hx e
  unfold maxD at e
  split at e
  · cases e
    obtain ⟨v, w, rfl, a, b⟩ := hx.two
    rw [a.int, b.int]
    exact .id S (.int _)
  · cases e
end Wn
/-! plain data: expressions, comprehensions -/
namespace Wn
open PySem PySem.Spec PyProof.Rows L2 LamX He
section
variable {m a b c : ME} {p a' b' c' : PlE} {ms as : MA} {ps as' : PlA} {t t2 : MT} {q q2 : PlT}
theorem Si.w (s : SiE m p) : SiW m p := fun h X O μ σ ρ r Q S E hq => (s h X O μ σ ρ r Q S E hq).mono fun h' μ' a b σ' x y => ⟨b, .inl x, y⟩
theorem SiF.e (s : SiF m p) : SiE m p := fun h X O μ σ ρ r Q S E hq => (s h X O μ σ ρ r Q S E hq).e
theorem SiA.w (s : SiA ms ps) : SiAW ms ps := fun h X O μ σ ρ r Q S E hq => (s h X O μ σ ρ r Q S E hq).mono fun h' μ' a b σ' x y => ⟨b, DRs.w x, y⟩
theorem okR_ret {α β : Type} {rel : DRel α β} {h : Hd} {X : List Nat} {μ : Mu} {σ : Sg} {Q : β → Sg → Prop} {a : α} {b : β} (S : Sm h X μ σ) (q : rel μ h X μ a b) (hq : Q b σ) : OkR rel h X μ Q (.ok a μ) := ⟨a, μ, h, b, σ, rfl, Ext.refl _ _ _, S, q, hq⟩
theorem Ok1.r {h : Hd} {X : List Nat} {μ : Mu} {σ : Sg} {d : Dt} {r : R Val} {Q : Dt → Sg → Prop} (o : Ok1 h X μ σ d r) (hq : Q d σ) : OkR rlE h X μ Q r := by
  obtain ⟨v, μ', e, E, S, q⟩ := o
  exact ⟨v, μ', h, d, σ, e, E, S, q, hq⟩
theorem si_int (i : Int) : SiE (mC (.int i)) (pC (.int i)) := fun h X O μ σ ρ r Q S E hq => okR_ret (rel := rlE) S (.int i) hq
theorem si_str (i : Str) : SiE (mC (.str i)) (pC (.str i)) := fun h X O μ σ ρ r Q S E hq => okR_ret (rel := rlE) S (.str i) hq
theorem si_bl (i : Bool) : SiE (mC (.bl i)) (pC (.bl i)) := fun h X O μ σ ρ r Q S E hq => okR_ret (rel := rlE) S (.bl i) hq
theorem si_non : SiE (mC .non) (pC .non) := fun h X O μ σ ρ r Q S E hq => okR_ret (rel := rlE) S .non hq
theorem si_var (i : Nat) : SiE (mV i) (pV i) := fun h X O μ σ ρ r Q S E hq => by
  unfold pV at hq
  split at hq
  · rename_i d e
    obtain ⟨v, a, b⟩ := E.im i d e
    unfold mV
    rw [a]
    exact okR_ret (rel := rlE) S b hq
  · exact hq.elim
theorem si_own (i : Nat) : SiW (mV i) (pO i) := fun h X O μ σ ρ r Q S E hq => by
  unfold pO at hq
  split at hq
  · rename_i d e
    obtain ⟨n, o, a, b, c, f, g, x, y⟩ := E.ow i d e
    unfold mV
    rw [a]
    exact okR_ret (rel := rlW) S (.inr ⟨n, o, rfl, c, g, x, y⟩) hq
  · exact hq.elim
theorem si_nil : SiA mNil pNil := fun h X O μ σ ρ r Q S E hq => okR_ret (rel := rlA) S .nil hq
theorem si_nilW : SiAW mNil pNil := fun h X O μ σ ρ r Q S E hq => okR_ret (rel := rlAW) S (show DWs h (O ++ X) μ [] [] from trivial) hq
theorem si_cons (sa : SiE a a') (sr : SiA as as') : SiA (mCons a as) (pCons a' as') := fun h X O μ σ ρ r Q S E hq => by
  refine (sa h X O μ σ ρ r _ S E hq).bind fun v μ1 h1 d σ1 e1 S1 q1 hq1 => ?_
  obtain ⟨vs, μ2, h2, ds, σ2, e, e2, S2, q2, hq2⟩ := sr h1 X O μ1 σ1 ρ r _ S1 (E.ext e1 fun _ => none_in) hq1
  rw [e]
  exact ⟨_, _, _, _, _, rfl, e2, S2, .cons (q1.ext e2 fun _ => none_in) q2, hq2⟩
theorem si_consW (sa : SiW a a') (sr : SiAW as as') : SiAW (mCons a as) (pCons a' as') := fun h X O μ σ ρ r Q S E hq => by
  refine (sa h X O μ σ ρ r _ S E hq).bind fun v μ1 h1 d σ1 e1 S1 q1 hq1 => ?_
  obtain ⟨vs, μ2, h2, ds, σ2, e, e2, S2, q2, hq2⟩ := sr h1 X O μ1 σ1 ρ r _ S1 (E.ext e1 fun _ => none_in) hq1
  rw [e]
  exact ⟨v :: vs, μ2, h2, d :: ds, σ2, rfl, e2, S2, (show DWs h2 (O ++ X) μ2 (v :: vs) (d :: ds) from ⟨DW.ext q1 e2, q2⟩), hq2⟩
theorem si_tup (sr : SiA as as') : SiE (mTup as) (pTup as') := fun h X O μ σ ρ r Q S E hq => by
  refine (sr h X O μ σ ρ r _ S E hq).bind fun v μ1 h1 d σ1 e1 S1 q1 hq1 => ?_
  have q1 : DRs h1 (O ++ X) μ1 v d := q1
  rw [if_pos (by rw [q1.len]; exact hq1.1)]
  exact ⟨_, _, _, _, _, rfl, Ext.refl _ _ _, S1, .tup q1, hq1.2⟩
theorem si_lstF (sr : SiA as as') : SiF (mLst as) (pLst as') := fun h X O μ σ ρ r Q S E hq => by
  refine OkR.bindF (sr h X O μ σ ρ r _ S E hq) fun v μ1 h1 d σ1 e1 S1 q1 hq1 => ?_
  have q1 : DRs h1 (O ++ X) μ1 v d := q1
  rw [if_pos (by rw [q1.len]; exact hq1.1)]
  exact okF_new S1 (.lst q1) hq1.2
theorem si_lst (sr : SiA as as') : SiE (mLst as) (pLst as') := (si_lstF sr).e
theorem si_op {f : Val → Val → Mu → R Val} {f' : Dt → Dt → Sg → Option Dt} (hf : P2 f f') (sa : SiW a a') (sb : SiW b b') : SiE (mOp f a b) (pOp f' a' b') := fun h X O μ σ ρ r Q S E hq => by
  refine (sa h X O μ σ ρ r _ S E hq).bind fun v μ1 h1 d σ1 e1 S1 q1 hq1 => ?_
  refine (sb h1 X O μ1 σ1 ρ r _ S1 (E.ext e1 fun _ => none_in) hq1).bind fun w μ2 h2 e σ2 e2 S2 q2 hq2 => ?_
  obtain ⟨y, hy, hq2⟩ := oK_of hq2
  exact (hf h2 _ μ2 σ2 v w d e y S2 (DW.ext q1 e2) q2 hy).r hq2
theorem si_un {f : Val → Mu → R Val} {f' : Dt → Sg → Option Dt} (hf : P1 f f') (sa : SiW a a') : SiE (mUn f a) (pUn f' a') := fun h X O μ σ ρ r Q S E hq => by
  refine (sa h X O μ σ ρ r _ S E hq).bind fun v μ1 h1 d σ1 e1 S1 q1 hq1 => ?_
  obtain ⟨y, hy, hq1⟩ := oK_of hq1
  exact (hf h1 _ μ1 σ1 v d y S1 q1 hy).r hq1
theorem si_fn {f : List Val → Mu → R Val} {f' : List Dt → Sg → Option Dt} (hf : PN f f') (sa : SiAW as as') : SiE (mFn f as) (pFn f' as') := fun h X O μ σ ρ r Q S E hq => by
  refine (sa h X O μ σ ρ r _ S E hq).bind fun v μ1 h1 d σ1 e1 S1 q1 hq1 => ?_
  obtain ⟨y, hy, hq1⟩ := oK_of hq1
  exact (hf h1 _ μ1 σ1 v d y S1 q1 hy).r hq1
theorem si_test (sa : SiE a a') : SiT (mTest a) (pTest a') := fun h X O μ σ ρ r Q S E hq => by
  refine (sa h X O μ σ ρ r _ S E hq).bind fun v μ1 h1 d σ1 e1 S1 q1 hq1 => ?_
  cases d with
  | bl k =>
    have : v = .bl k := DW.bl (.inl q1)
    subst this
    exact okR_ret (rel := rlT) S1 rfl hq1
  | _ => exact hq1.elim
theorem si_yes : SiT mYes pYes := fun h X O μ σ ρ r Q S E hq => okR_ret (rel := rlT) S rfl hq
theorem si_and (sa : SiT t q) (sb : SiT t2 q2) : SiT (mAnd t t2) (pAnd q q2) := fun h X O μ σ ρ r Q S E hq => by
  refine (sa h X O μ σ ρ r _ S E hq).bind fun v μ1 h1 d σ1 e1 S1 q1 hq1 => ?_
  have q1 : v = d := q1
  subst q1
  cases v
  · exact okR_ret (rel := rlT) S1 rfl hq1
  · exact sb h1 X O μ1 σ1 ρ r _ S1 (E.ext e1 fun _ => none_in) hq1
theorem si_or (sa : SiT t q) (sb : SiT t2 q2) : SiT (mOr t t2) (pOr q q2) := fun h X O μ σ ρ r Q S E hq => by
  refine (sa h X O μ σ ρ r _ S E hq).bind fun v μ1 h1 d σ1 e1 S1 q1 hq1 => ?_
  have q1 : v = d := q1
  subst q1
  cases v
  · exact sb h1 X O μ1 σ1 ρ r _ S1 (E.ext e1 fun _ => none_in) hq1
  · exact okR_ret (rel := rlT) S1 rfl hq1
theorem si_not (sa : SiT t q) : SiT (mNot t) (pNot q) := fun h X O μ σ ρ r Q S E hq => by
  refine (sa h X O μ σ ρ r _ S E hq).bind fun v μ1 h1 d σ1 e1 S1 q1 hq1 => ?_
  have q1 : v = d := q1
  subst q1
  exact okR_ret (rel := rlT) S1 rfl hq1
theorem si_if (st : SiT t q) (sa : SiE a a') (sb : SiE b b') : SiE (mIf t a b) (pIf q a' b') := fun h X O μ σ ρ r Q S E hq => by
  refine (st h X O μ σ ρ r _ S E hq).bind fun v μ1 h1 d σ1 e1 S1 q1 hq1 => ?_
  have q1 : v = d := q1
  subst q1
  cases v
  · exact sb h1 X O μ1 σ1 ρ r _ S1 (E.ext e1 fun _ => none_in) hq1
  · exact sa h1 X O μ1 σ1 ρ r _ S1 (E.ext e1 fun _ => none_in) hq1
theorem tru_rel {h : Hd} {X : List Nat} {μ : Mu} {σ : Sg} {v : Val} {d : Dt} {k : Bool} (S : Sm h X μ σ) (x : DW h X μ v d) (e : truD σ d = some k) : truM v μ = some k := by
  cases d with
  | non => rw [x.non]; exact e
  | bl i => rw [x.bl]; exact e
  | int i => rw [x.int]; exact e
  | str i => rw [x.str]; exact e
  | tup l =>
    obtain ⟨vs, rfl, r⟩ := x.tup
    cases r <;> exact e
  | dct l => cases e
  | ros l => cases e
  | sysv l => cases e
  | sysw l => cases e
  | vw l p => cases e
  | dtt l => cases e
  | lst l =>
    obtain ⟨n, vs, rfl, _, o, r⟩ := x.lst S (l := l) rfl
    unfold truM
    simp only [seqOf_l o]
    cases r <;> exact e
  | ref j =>
    obtain ⟨l, h1, h2⟩ := Option.map_eq_some_iff.mp (show (lstD σ (.ref j)).map (fun l => !l.isEmpty) = some k from e)
    obtain ⟨n, vs, rfl, _, o, r⟩ := x.lst S h1
    unfold truM
    simp only [seqOf_l o]
    cases r <;> exact congrArg some h2
theorem si_orT (sa : SiE a a') (sb : SiE b b') : SiE (mOrT a b) (pOrT a' b') := fun h X O μ σ ρ r Q S E hq => by
  refine (sa h X O μ σ ρ r _ S E hq).bind fun v μ1 h1 d σ1 e1 S1 q1 hq1 => ?_
  split at hq1
  · rename_i hk
    simp only [tru_rel S1 (.inl q1) hk]
    exact okR_ret (rel := rlE) S1 q1 hq1
  · rename_i hk
    simp only [tru_rel S1 (.inl q1) hk]
    exact sb h1 X O μ1 σ1 ρ r _ S1 (E.ext e1 fun _ => none_in) hq1
  · exact hq1.elim
theorem si_andT (sa : SiE a a') (sb : SiE b b') : SiE (mAndT a b) (pAndT a' b') := fun h X O μ σ ρ r Q S E hq => by
  refine (sa h X O μ σ ρ r _ S E hq).bind fun v μ1 h1 d σ1 e1 S1 q1 hq1 => ?_
  split at hq1
  · rename_i hk
    simp only [tru_rel S1 (.inl q1) hk]
    exact sb h1 X O μ1 σ1 ρ r _ S1 (E.ext e1 fun _ => none_in) hq1
  · rename_i hk
    simp only [tru_rel S1 (.inl q1) hk]
    exact okR_ret (rel := rlE) S1 q1 hq1
  · exact hq1.elim
theorem si_chain {f g : Val → Val → Mu → R Val} {f' g' : Dt → Dt → Sg → Option Dt} (hf : P2 f f') (hg : P2 g g') (sa : SiE a a') (sb : SiE b b') (sc : SiE c c') : SiE (mChain f g a b c) (pChain f' g' a' b' c') := fun h X O μ σ ρ r Q S E hq => by
  refine (sa h X O μ σ ρ r _ S E hq).bind fun v μ1 h1 d σ1 e1 S1 q1 hq1 => ?_
  refine (sb h1 X O μ1 σ1 ρ r _ S1 (E.ext e1 fun _ => none_in) hq1).bind fun w μ2 h2 e σ2 e2 S2 q2 hq2 => ?_
  have q1' : DR h2 (O ++ X) μ2 v d := DR.ext e2 (fun _ => none_in) q1
  split at hq2
  · rename_i hy
    refine (Ok1.r (Q := fun d σ => d = .bl true ∧ σ = σ2) (hf h2 _ μ2 σ2 v w d e _ S2 (.inl q1') (.inl q2) hy) ⟨rfl, rfl⟩).bind fun z μ3 h3 d3 σ3 e3 S3 q3 hq3 => ?_
    obtain ⟨rfl, rfl⟩ := hq3
    have : z = .bl true := DW.bl (.inl q3)
    subst this
    refine (sc h3 X O μ3 σ3 ρ r _ S3 (E.ext (e1.tr (e2.tr e3)) fun _ => none_in) hq2).bind fun t μ4 h4 d4 σ4 e4 S4 q4 hq4 => ?_
    obtain ⟨d5, hd5, hq4⟩ := oK_of hq4
    exact (hg h4 _ μ4 σ4 w t e d4 d5 S4 (.inl (DR.ext e4 (fun _ => none_in) (DR.ext e3 (fun _ => none_in) q2))) (.inl q4) hd5).r hq4
  · rename_i hy
    refine (Ok1.r (Q := fun d σ => d = .bl false ∧ σ = σ2) (hf h2 _ μ2 σ2 v w d e _ S2 (.inl q1') (.inl q2) hy) ⟨rfl, rfl⟩).bind fun z μ3 h3 d3 σ3 e3 S3 q3 hq3 => ?_
    obtain ⟨rfl, rfl⟩ := hq3
    have : z = .bl false := DW.bl (.inl q3)
    subst this
    exact okR_ret (rel := rlE) S3 (.bl _) hq2
  · exact hq2.elim
end
/-! ### slices -/
abbrev PlO := Ev_ → Sg → (Option Int → Sg → Prop) → Prop
def rlO : DRel (Option Int) (Option Int) := fun _ _ _ _ a b => a = b
instance : RelUp rlO := ⟨fun _ z => z⟩
def pP0 : PlO := fun _ σ Q => Q none σ
def pP (a : PlE) : PlO := fun r σ Q => a r σ fun x σ => match x with
  | .int i => Q (some i) σ
  | _ => False
def slD (x : Dt) (lo hi : Option Int) (σ : Sg) : Option Dt := match x with
  | .tup l => if HT.sIx l.length 0 lo = 0 ∧ HT.sIx l.length l.length hi = l.length then none else some (.tup (cutG l lo hi))
  | x => (lstD σ x).map fun l => .lst (cutG l lo hi)
def pSl (e : PlE) (lo hi : PlO) : PlE := fun r σ Q => e r σ fun x σ => lo r σ fun l σ => hi r σ fun h σ => oK (slD x l h σ) fun d => Q d σ
theorem si_p0 : Si rlO mP0 pP0 := fun h X O μ σ ρ r Q S E hq => okR_ret (rel := rlO) S rfl hq
theorem si_p {a : ME} {a' : PlE} (sa : SiE a a') : Si rlO (mP a) (pP a') := fun h X O μ σ ρ r Q S E hq => by
  refine (sa h X O μ σ ρ r _ S E hq).bind fun v μ1 h1 d σ1 e1 S1 q1 hq1 => ?_
  cases d with
  | int k =>
    have : v = .int k := DW.int (.inl q1)
    subst this
    exact okR_ret (rel := rlO) S1 rfl hq1
  | _ => exact hq1.elim
theorem DRs.cut {h : Hd} {X : List Nat} {μ : Mu} {vs : List Val} {ds : List Dt} (q : DRs h X μ vs ds) (lo hi : Option Int) : DRs h X μ (cutG vs lo hi) (cutG ds lo hi) := by
  unfold cutG
  rw [q.len]
  exact (q.drop _).take _
theorem si_sl {a : ME} {a' : PlE} {lo hi : MO} {lo' hi' : PlO} (sa : SiW a a') (sl : Si rlO lo lo') (sh : Si rlO hi hi') : SiE (mSl a lo hi) (pSl a' lo' hi') := fun h X O μ σ ρ r Q S E hq => by
  refine (sa h X O μ σ ρ r _ S E hq).bind fun v μ1 h1 d σ1 e1 S1 q1 hq1 => ?_
  refine (sl h1 X O μ1 σ1 ρ r _ S1 (E.ext e1 fun _ => none_in) hq1).bind fun x μ2 h2 e σ2 e2 S2 q2 hq2 => ?_
  refine (sh h2 X O μ2 σ2 ρ r _ S2 ((E.ext e1 fun _ => none_in).ext e2 fun _ => none_in) hq2).bind fun y μ3 h3 f σ3 e3 S3 q3 hq3 => ?_
  have q2 : x = e := q2
  have q3 : y = f := q3
  subst q2 q3
  have q1 : DW h3 (O ++ X) μ3 v d := (DW.ext q1 e2).ext e3
  obtain ⟨z, hz, hq3⟩ := oK_of hq3
  · skip
    unfold slD at hz
    split at hz
    · rename_i l
      split at hz
      · cases hz
      · rename_i c
        cases hz
        obtain ⟨vs, rfl, r⟩ := q1.tup
        unfold slM
        simp only
        rw [if_neg (by rw [r.len]; exact c)]
        exact okR_ret (rel := rlE) S3 (.tup (r.cut _ _)) hq3
    · obtain ⟨l, h1, rfl⟩ := Option.map_eq_some_iff.mp hz
      obtain ⟨n, vs, rfl, _, o, r⟩ := q1.lst S3 h1
      unfold slM
      simp only [seqOf_l o]
      exact (Ok1.new S3 (.lst (r.cut _ _))).r hq3
/-! ### what is walked -/
abbrev PlI := Ev_ → Sg → (List Dt → Sg → Prop) → Prop
/-- what is walked stays, whatever the frame's own objects do -/
def rlI : DRel Wk (List Dt) := fun _ h X μ k ds => ∀ (h' : Hd) (μ' : Mu) (O X' : List Nat), Ext h h' O μ μ' → (∀ n ∈ O, n ∈ X) → (∀ n ∈ X', n ∈ X ∨ μ.nx ≤ n) → ∃ vs, k.items μ' = some vs ∧ DRs h' X' μ' vs ds
def rlIW : DRel Wk (List Dt) := fun _ h X μ k ds => ∀ (h' : Hd) (μ' : Mu) (X' : List Nat), Ext h h' [] μ μ' → (∀ n ∈ X', n ∈ X ∨ μ.nx ≤ n) → ∃ vs, k.items μ' = some vs ∧ DRs h' X' μ' vs ds
instance : RelUp rlI := ⟨fun _ z => z⟩
instance : RelUp rlIW := ⟨fun _ z => z⟩
abbrev SiI := Si rlI
abbrev SiIW := Si rlIW
def rngD (lo : Int) (n : Nat) : List Dt := (List.range n).map fun (k : Nat) => .int (lo + (k : Int))
def enmD (ds : List Dt) : List Dt := ds.zipIdx.map fun p => .tup [.int (p.2 : Nat), p.1]
def pIt (a : PlE) : PlI := fun r σ Q => a r σ fun d σ => match d with
  | .tup l => Q l σ
  | .lst l => Q l σ
  | _ => False
def pItW (a : PlE) : PlI := fun r σ Q => a r σ fun d σ => match d with
  | .tup l => Q l σ
  | .lst l => Q l σ
  | _ => False
def pRng1 (a : PlA) : PlI := fun r σ Q => a r σ fun xs σ => match xs with
  | [.int j] => (j ≤ 1000000 ∧ -1000000 ≤ j) ∧ Q (rngD 0 j.toNat) σ
  | _ => False
def pRng2 (a : PlA) : PlI := fun r σ Q => a r σ fun xs σ => match xs with
  | [.int i, .int j] => ((j ≤ 1000000 ∧ -1000000 ≤ j) ∧ i ≤ 1000000 ∧ -1000000 ≤ i) ∧ Q (rngD i (j - i).toNat) σ
  | _ => False
def pEnm (a : PlA) : PlI := fun r σ Q => a r σ fun xs σ => match xs with
  | [.lst l] => Q (enmD l) σ
  | _ => False
section
variable {m : ME} {p : PlE} {ms : MA} {ps : PlA} {mi : MI} {pi : PlI}
theorem SiI.w (s : SiI mi pi) : SiIW mi pi := fun h X O μ σ ρ r Q S E hq => (s h X O μ σ ρ r Q S E hq).mono fun h' μ' a b σ' x y => ⟨b, fun h2 μ2 X' e hX => x h2 μ2 [] X' e (fun _ => none_in) hX, y⟩
theorem si_it (s : SiE m p) : SiI (iSeq m) (pIt p) := fun h X O μ σ ρ r Q S E hq => by
  refine (s h X O μ σ ρ r _ S E hq).bind fun v μ1 h1 d σ1 e1 S1 q1 hq1 => ?_
  split at hq1
  · rename_i l
    obtain ⟨vs, rfl, r⟩ := DW.tup (.inl q1)
    exact okR_ret (rel := rlI) S1 (fun h' μ' O' X' e hO hX => ⟨vs, rfl, r.move e hO hX⟩) hq1
  · rename_i l
    have q1 : DR h1 (O ++ X) μ1 v (.lst l) := q1
    cases q1 with
    | obj a b c o q =>
      cases q with
      | lst q =>
        have it : ∀ {μ' : Mu} {n : Nat} {vs : List Val}, μ'.ob n = some (.lst vs) → (Wk.seq (.loc n)).items μ' = some vs := fun {μ' n vs} z => by
          show seqOf μ' n = _
          exact seqOf_l z
        simp only [it o]
        exact okR_ret (rel := rlI) S1 (fun h' μ' O' X' e hO hX => ⟨_, it ((e.ob _ c a fun z => b (hO _ z)).trans o), q.move e hO hX⟩) hq1
  · exact hq1.elim
theorem si_itW (s : SiW m p) : SiIW (iSeq m) (pItW p) := fun h X O μ σ ρ r Q S E hq => by
  refine (s h X O μ σ ρ r _ S E hq).bind fun v μ1 h1 d σ1 e1 S1 q1 hq1 => ?_
  have it : ∀ {μ' : Mu} {n : Nat} {vs : List Val}, μ'.ob n = some (.lst vs) → (Wk.seq (.loc n)).items μ' = some vs := fun {μ' n vs} z => by
    show seqOf μ' n = _
    exact seqOf_l z
  cases d with
  | tup l =>
    obtain ⟨vs, rfl, r⟩ := DW.tup q1
    exact okR_ret (rel := rlIW) S1 (fun h' μ' X' e hX => ⟨vs, rfl, r.move e (fun _ => none_in) hX⟩) hq1
  | lst l =>
    have q1 : DW h1 (O ++ X) μ1 v (.lst l) := q1
    obtain ⟨n, vs, rfl, c, o, r, nh⟩ : ∃ n vs, v = .loc n ∧ n < μ1.nx ∧ μ1.ob n = some (.lst vs) ∧ DRs h1 (O ++ X) μ1 vs l ∧ n ∉ h1 := by
      rcases q1 with q1 | ⟨n, o, rfl, a, c, o', q⟩
      · cases q1 with
        | obj a b c o q =>
          cases q with
          | lst q => exact ⟨_, _, rfl, c, o, q, a⟩
      · cases q with
        | lst q => exact ⟨_, _, rfl, c, o', q, a⟩
    simp only [it o]
    exact okR_ret (rel := rlIW) S1 (fun h' μ' X' e hX => ⟨_, it ((e.ob _ c nh none_in).trans o), r.move e (fun _ => none_in) hX⟩) hq1
  | _ => exact hq1.elim
theorem DRs.rng {h : Hd} {X : List Nat} {μ : Mu} (lo : Int) (n : Nat) : DRs h X μ (rngM lo n) (rngD lo n) := DRs.of _ fun x _ => .int _
theorem si_rng1 (s : SiA ms ps) : SiI (iRng1 ms) (pRng1 ps) := fun h X O μ σ ρ r Q S E hq => by
  refine (s h X O μ σ ρ r _ S E hq).bind fun v μ1 h1 d σ1 e1 S1 q1 hq1 => ?_
  split at hq1
  · rename_i j
    obtain ⟨w, rfl, z⟩ := DWs.one (DRs.w q1)
    rw [z.int]
    simp only
    rw [if_pos hq1.1]
    exact okR_ret (rel := rlI) S1 (fun h' μ' O' X' e hO hX => ⟨_, rfl, .rng _ _⟩) hq1.2
  · exact hq1.elim
theorem DRs.enm {h : Hd} {X : List Nat} {μ : Mu} : ∀ {vs : List Val} {ds : List Dt} (k : Nat), DRs h X μ vs ds → DRs h X μ ((vs.zipIdx k).map fun p => .tup [.int (p.2 : Nat), p.1]) ((ds.zipIdx k).map fun p => .tup [.int (p.2 : Nat), p.1])
  | _, _, _, .nil => .nil
  | _, _, k, .cons a b => .cons (.tup (.cons (.int _) (.cons a .nil))) (DRs.enm (k + 1) b)
theorem si_enm (s : SiA ms ps) : SiI (iEnm ms) (pEnm ps) := fun h X O μ σ ρ r Q S E hq => by
  refine (s h X O μ σ ρ r _ S E hq).bind fun v μ1 h1 d σ1 e1 S1 q1 hq1 => ?_
  split at hq1
  · rename_i l
    obtain ⟨w, rfl, qq⟩ : ∃ w, v = [w] ∧ DR h1 (O ++ X) μ1 w (.lst l) := by
      have q2 : DRs h1 (O ++ X) μ1 v [.lst l] := q1
      cases q2 with
      | cons a b =>
        cases b
        exact ⟨_, rfl, a⟩
    cases qq with
    | obj a b c o q =>
      cases q with
      | lst q =>
        have it : ∀ {μ' : Mu} {n : Nat} {vs : List Val}, μ'.ob n = some (.lst vs) → (Wk.enm n).items μ' = some (enmM vs) := fun {μ' n vs} z => by
          show (seqOf μ' n).map enmM = _
          rw [seqOf_l z]
          rfl
        simp only [seqOf_l o]
        exact okR_ret (rel := rlI) S1 (fun h' μ' O' X' e hO hX => ⟨_, it ((e.ob _ c a fun z => b (hO _ z)).trans o), (q.move e hO hX).enm 0⟩) hq1
  · exact hq1.elim
end
end Wn
/-! plain data: comprehensions, statements, loops, defs -/
namespace Wn
open PySem PySem.Spec PyProof.Rows L2 LamX He
abbrev Tgd := Dt → Ev_ → Option Ev_
/-- a target does at the law's level what it does here -/
def SiG (g : Val → Rho → Option Rho) (p : Tgd) : Prop := ∀ (h : Hd) (X O : List Nat) (μ : Mu) (ρ : Rho) (r r' : Ev_) (v : Val) (d : Dt), EnvD h X O μ ρ r → DR h (O ++ X) μ v d → p d r = some r' → ∃ ρ', g v ρ = some ρ' ∧ EnvD h X O μ ρ' r'
def gN (i : Nat) : Tgd := fun d r => some (r.set i (some (.im d)))
def unpD : List Nat → List Dt → Ev_ → Option Ev_
  | [], [], r => some r
  | i :: is, d :: ds, r => unpD is ds (r.set i (some (.im d)))
  | _, _, _ => none
def gT (is : List Nat) : Tgd := fun d r => match d with
  | .tup ds => unpD is ds r
  | _ => none
theorem si_gN (i : Nat) : SiG (tgN i) (gN i) := fun h X O μ ρ r r' v d E q e => by
  cases e
  exact ⟨_, rfl, E.set i q⟩
theorem unp_rel {h : Hd} {X O : List Nat} {μ : Mu} : ∀ (is : List Nat) {vs : List Val} {ds : List Dt} {ρ : Rho} {r r' : Ev_}, EnvD h X O μ ρ r → DRs h (O ++ X) μ vs ds → unpD is ds r = some r' → ∃ ρ', unp is vs ρ = some ρ' ∧ EnvD h X O μ ρ' r'
  | [], _, _, _, _, _, E, .nil, e => by cases e; exact ⟨_, rfl, E⟩
  | [], _, _, _, _, _, E, .cons _ _, e => by cases e
  | i :: is, _, _, _, _, _, E, .nil, e => by cases e
  | i :: is, _, _, _, _, _, E, .cons a b, e => unp_rel is (E.set i a) b e
theorem si_gT (is : List Nat) : SiG (tgT is) (gT is) := fun h X O μ ρ r r' v d E q e => by
  unfold gT at e
  split at e
  · obtain ⟨vs, rfl, b⟩ := DW.tup (.inl q)
    exact unp_rel is E b e
  · cases e
def wipeE (r : Ev_) : List Nat → Ev_
  | [] => r
  | v :: vs => (wipeE r vs).set v none
theorem EnvD.wipe {h : Hd} {X O : List Nat} {μ : Mu} {ρ : Rho} {r : Ev_} (E : EnvD h X O μ ρ r) : ∀ vs : List Nat, EnvD h X O μ (wipeV ρ vs) (wipeE r vs)
  | [] => E
  | v :: vs => by
    have E := EnvD.wipe E vs
    show EnvD h X O μ ((wipeV ρ vs).set v none) ((wipeE r vs).set v none)
    have sp : ∀ {j : Nat} {z : Lc}, ((wipeE r vs).set v none)[j]? = some (some z) → j ≠ v ∧ (wipeE r vs)[j]? = some (some z) := fun {j z} y => by
      rw [List.getElem?_set] at y
      split at y
      · split at y <;> cases y
      · rename_i c
        exact ⟨fun y => c y.symm, y⟩
    refine ⟨by rw [List.length_set, List.length_set]; exact E.len, fun j d' z => ?_, fun j d' z => ?_, fun j k x y m jk z1 z2 z3 => ?_⟩
    · obtain ⟨c, z⟩ := sp z
      rw [List.getElem?_set, if_neg (fun y => c y.symm)]
      exact E.im j d' z
    · obtain ⟨c, z⟩ := sp z
      rw [List.getElem?_set, if_neg (fun y => c y.symm)]
      exact E.ow j d' z
    · obtain ⟨c1, z1⟩ := sp z1
      obtain ⟨c2, z2⟩ := sp z2
      rw [List.getElem?_set, if_neg (fun y => c1 y.symm)] at z3
      rw [List.getElem?_set, if_neg (fun y => c2 y.symm)]
      exact E.ne j k x y m jk z1 z2 z3
/-! ### comprehensions -/
def lcP (g : Tgd) (c : PlT) (elt : PlE) (r : Ev_) : List Dt → List Dt → Sg → (List Dt → Sg → Prop) → Prop
  | [], acc, σ, Q => Q acc σ
  | d :: ds, acc, σ, Q => match g d r with
    | none => False
    | some r1 => c r1 σ fun k σ => if k = true then elt r1 σ fun y σ => acc.length ≤ 1000000 ∧ lcP g c elt r ds (acc ++ [y]) σ Q else lcP g c elt r ds acc σ Q
def pLc (it : PlI) (own : List Nat) (g : Tgd) (c : PlT) (elt : PlE) : PlE := fun r σ Q => it r σ fun ds σ => lcP g c elt (wipeE r own) ds [] σ fun acc σ => Q (.lst acc) σ
theorem lc_run {get : Mu → Option (List Val)} {g : Val → Rho → Option Rho} {g' : Tgd} {c : MT} {c' : PlT} {elt : ME} {elt' : PlE} (hg : SiG g g') (hc : SiT c c') (he : SiE elt elt') {D : Nat} {ρ : Rho} {r : Ev_} {X O : List Nat} {h0 : Hd} {μ0 : Mu} {ds0 : List Dt} (hD : μ0.nx = D)
    (hgt : ∀ (h' : Hd) (μ' : Mu), Ext h0 h' [] μ0 μ' → ∃ vs, get μ' = some vs ∧ DRs h' (O ++ D :: X) μ' vs ds0) :
    ∀ (ds : List Dt) (i f : Nat) (h : Hd) (μ : Mu) (σ : Sg) (accV : List Val) (acc : List Dt) (Q : List Dt → Sg → Prop), ds0.drop i = ds → f = ds.length + 1 → Ext h0 h [] μ0 μ → Sm h (O ++ D :: X) μ σ → EnvD h (D :: X) O μ ρ r → D ∉ h → D < μ.nx → μ.ob D = some (.lst accV) → DRs h (O ++ D :: X) μ accV acc → lcP g' c' elt' r ds acc σ Q →
    ∃ μ' h' acc' accV' σ', lcM get g c elt D ρ f i μ = .ok () μ' ∧ Ext h0 h' [] μ0 μ' ∧ Sm h' (O ++ D :: X) μ' σ' ∧ D ∉ h' ∧ D < μ'.nx ∧ μ'.ob D = some (.lst accV') ∧ DRs h' (O ++ D :: X) μ' accV' acc' ∧ Q acc' σ'
  | [], i, _, h, μ, σ, accV, acc, Q, hds, rfl, e, S, E, nD, lD, oD, q, hq => by
    obtain ⟨vs, x1, x2⟩ := hgt h μ e
    have : vs[i]? = none := by
      rw [List.getElem?_eq_none_iff, x2.len]
      exact List.drop_eq_nil_iff.mp hds
    refine ⟨μ, h, acc, accV, σ, ?_, e, S, nD, lD, oD, q, hq⟩
    show lcM get g c elt D ρ (0 + 1) i μ = _
    rw [lcM, x1]
    simp only [this]
  | d :: ds, i, _, h, μ, σ, accV, acc, Q, hds, rfl, e, S, E, nD, lD, oD, q, hq => by
    obtain ⟨vs, x1, x2⟩ := hgt h μ e
    have hd : ds0[i]? = some d := by
      have := congrArg (·[0]?) hds
      simpa [List.getElem?_drop] using this
    have hds' : ds0.drop (i + 1) = ds := by
      have := congrArg (List.drop 1) hds
      rw [List.drop_drop] at this
      exact this
    obtain ⟨v, y1, y2⟩ := x2.get hd
    unfold lcP at hq
    split at hq
    · exact hq.elim
    · rename_i r1 hr1
      obtain ⟨ρ1, z1, z2⟩ := hg h (D :: X) O μ ρ r r1 v d E y2 hr1
      obtain ⟨k, μ1, h1, k', σ1, a1, a2, a3, a4, a5⟩ := hc h (D :: X) O μ σ ρ1 r1 _ S z2 hq
      have a4 : k = k' := a4
      subst a4
      have E1 := E.ext a2 fun _ => none_in
      have oD1 := (a2.ob D lD nD none_in).trans oD
      have lD1 := Nat.lt_of_lt_of_le lD a2.le
      have nD1 := a2.not lD nD
      show ∃ μ' h' acc' accV' σ', lcM get g c elt D ρ (ds.length + 1 + 1) i μ = .ok () μ' ∧ _
      rw [lcM, x1]
      simp only [y1, z1, a1, R.cut, R.bind_ok]
      cases k with
      | false =>
        rw [if_neg (by decide)] at a5 ⊢
        exact lc_run hg hc he hD hgt ds (i + 1) _ h1 μ1 σ1 accV acc Q hds' rfl (e.tr a2) a3 E1 nD1 lD1 oD1 (q.ext a2 fun _ => none_in) a5
      | true =>
        rw [if_pos rfl] at a5 ⊢
        obtain ⟨w, μ2, h2, y, σ2, b1, b2, b3, b4, b5, b6⟩ := he h1 (D :: X) O μ1 σ1 ρ1 r1 _ a3 (z2.ext a2 fun _ => none_in) a5
        have oD2 := (b2.ob D lD1 nD1 none_in).trans oD1
        have lD2 := Nat.lt_of_lt_of_le lD1 b2.le
        have nD2 := b2.not lD1 nD1
        have q2 := (q.ext a2 fun _ => none_in).ext b2 fun _ => none_in
        rw [b1]
        simp only [R.bind_ok, oD2]
        rw [if_pos (by rw [q2.len]; exact b5)]
        have eP : Ext h2 h2 [D] μ2 (μ2.put D (.lst (accV ++ [w]))) := ⟨Nat.le_refl _, ⟨[], (List.append_nil _).symm, fun _ z => nomatch z⟩, fun m _ _ z => Mu.put_ne _ _ fun y => z (List.mem_singleton.mpr y), fun m _ _ z => Mu.put_vrN _ _ fun y => z (List.mem_singleton.mpr y)⟩
        have hz : ∀ m ∈ [D], m ∈ D :: X := fun m z => List.mem_singleton.mp z ▸ List.mem_cons_self
        have hz' : ∀ m ∈ [D], m ∈ O ++ D :: X := fun m z => List.mem_append_right _ (hz m z)
        refine lc_run hg hc he hD hgt ds (i + 1) _ h2 (μ2.put D (.lst (accV ++ [w]))) σ2 (accV ++ [w]) (acc ++ [y]) Q hds' rfl ?_ ?_ ?_ nD2 lD2 (Mu.put_same _ _ _) ?_ b6
        · exact ((e.tr a2).tr b2).trans eP fun m z => .inr (by cases List.mem_singleton.mp z; omega)
        · exact b3.keep eP hz' fun m z => Mu.put_ne _ _ fun y => nD2 (y ▸ z)
        · exact (E1.ext b2 fun _ => none_in).ext eP hz
        · exact (q2.app (.cons b4 .nil)).ext eP hz'
theorem si_lcF {it : MI} {it' : PlI} {own : List Nat} {g : Val → Rho → Option Rho} {g' : Tgd} {c : MT} {c' : PlT} {elt : ME} {elt' : PlE} (hi : SiIW it it') (hg : SiG g g') (hc : SiT c c') (he : SiE elt elt') : SiF (mLc it own g c elt) (pLc it' own g' c' elt') := fun h X O μ σ ρ r Q S E hq => by
  refine OkR.bindF (hi h X O μ σ ρ r _ S E hq) fun k μ1 h1 ds σ1 e1 S1 q1 hq1 => ?_
  have q1 : rlIW μ h1 (O ++ X) μ1 k ds := q1
  have E1 := E.ext e1 fun _ => none_in
  obtain ⟨vs, i1, i2⟩ := q1 h1 μ1 (O ++ X) (Ext.refl _ _ _) fun n z => .inl z
  simp only [i1]
  have nw := Ext.new h1 [] μ1 (.lst [])
  have hX : ∀ n ∈ O ++ μ1.nx :: X, n ∈ O ++ X ∨ μ1.nx ≤ n := fun n z => by
    rcases List.mem_append.mp z with z | z
    · exact .inl (List.mem_append_left _ z)
    · rcases List.mem_cons.mp z with z | z
      · exact .inr (Nat.le_of_eq z.symm)
      · exact .inl (List.mem_append_right _ z)
  have hX2 : ∀ n ∈ μ1.nx :: X, n ∈ X ∨ μ1.nx ≤ n := fun n z => (List.mem_cons.mp z).elim (fun z => .inr (Nat.le_of_eq z.symm)) .inl
  have nh : μ1.nx ∉ h1 := fun z => absurd (S1.lt _ z) (Nat.lt_irrefl _)
  have S2 : Sm h1 (O ++ μ1.nx :: X) (μ1.new (.lst [])) σ1 := by
    have z := S1.new (.lst [])
    refine ⟨z.len, z.nd, z.lt, fun n y => ?_, fun k n c a b => ?_⟩
    · rcases hX n y with y | y
      · exact z.xl n y
      · rcases List.mem_append.mp ‹n ∈ O ++ μ1.nx :: X› with w | w
        · exact z.xl n (List.mem_append_left _ w)
        · rcases List.mem_cons.mp w with w | w
          · rw [w]; exact Nat.lt_succ_self _
          · exact z.xl n (List.mem_append_right _ w)
    · exact ((S1.ob k n c a b).hid hX).ext nw (fun _ => none_in) (Mu.new_ne _ _ (Nat.ne_of_lt (S1.lt n (List.mem_of_getElem? a))))
  obtain ⟨μ', h', acc', accV', σ', a1, a2, a3, a4, a5, a6, a7, a8⟩ := lc_run (get := k.items) (D := μ1.nx) (ρ := wipeV ρ own) (r := wipeE r own) (X := X) (O := O) (h0 := h1) (μ0 := μ1) (ds0 := ds) hg hc he rfl
    (fun h' μ' e => q1 h' μ' (O ++ μ1.nx :: X) e hX) ds 0 (vs.length + 1) h1 (μ1.new (.lst [])) σ1 [] [] _ rfl (by rw [i2.len]) nw S2 (((E1.hid hX2).wipe own).ext nw fun _ => none_in) nh (Nat.lt_succ_self _) (Mu.new_same _ _) .nil hq1
  rw [a1, R.bind_ok]
  have hm : ∀ m ∈ μ1.nx :: (O ++ X), m ∈ O ++ μ1.nx :: X := fun m z => by
    rcases List.mem_cons.mp z with z | z
    · rw [z]; exact List.mem_append_right _ List.mem_cons_self
    · rcases List.mem_append.mp z with z | z
      · exact List.mem_append_left _ z
      · exact List.mem_append_right _ (List.mem_cons_of_mem _ z)
  exact ⟨μ1.nx, _, μ', h', .lst acc', σ', rfl, a2, a3.weak hm, Nat.le_refl _, a4, fun z => absurd (S1.xl _ z) (Nat.lt_irrefl _), a6, .lst (a7.weak hm), a8⟩
theorem si_lc {it : MI} {it' : PlI} {own : List Nat} {g : Val → Rho → Option Rho} {g' : Tgd} {c : MT} {c' : PlT} {elt : ME} {elt' : PlE} (hi : SiIW it it') (hg : SiG g g') (hc : SiT c c') (he : SiE elt elt') : SiE (mLc it own g c elt) (pLc it' own g' c' elt') := (si_lcF hi hg hc he).e
/-! ### statements -/
structure Kn where
  nx : Ev_ → Sg → Prop
  bk : Ev_ → Sg → Prop
  ct : Ev_ → Sg → Prop
  rt : Dt → Sg → Prop
abbrev PlS := Ev_ → Sg → Kn → Prop
def FlR (k : Kn) (h : Hd) (X O : List Nat) (μ : Mu) (σ : Sg) : Fl → Prop
  | .nx ρ => ∃ r, EnvD h X O μ ρ r ∧ k.nx r σ
  | .bk ρ => ∃ r, EnvD h X O μ ρ r ∧ k.bk r σ
  | .ct ρ => ∃ r, EnvD h X O μ ρ r ∧ k.ct r σ
  | .rt v => ∃ d, DR h X μ v d ∧ k.rt d σ
def OkS (h : Hd) (X O : List Nat) (μ : Mu) (k : Kn) (r : R Fl) : Prop :=
  ∃ f μ' h' O' σ', r = .ok f μ' ∧ Ext h h' O μ μ' ∧ (∀ n ∈ O', n ∈ O ∨ μ.nx ≤ n) ∧ Sm h' (O' ++ X) μ' σ' ∧ FlR k h' X O' μ' σ' f
def SiS (m : MS) (p : PlS) : Prop := ∀ (h : Hd) (X O : List Nat) (μ : Mu) (σ : Sg) (ρ : Rho) (r : Ev_) (k : Kn), Sm h (O ++ X) μ σ → EnvD h X O μ ρ r → p r σ k → OkS h X O μ k (m ρ μ)
def qNil : PlS := fun r σ k => k.nx r σ
def qSeq (a b : PlS) : PlS := fun r σ k => a r σ { k with nx := fun r σ => b r σ k }
def qSet (i : Nat) (a : PlE) : PlS := fun r σ k => a r σ fun d σ => k.nx (r.set i (some (.im d))) σ
/-- a variable gets a new list of its own -/
def qOwn (i : Nat) (a : PlE) : PlS := fun r σ k => a r σ fun d σ => k.nx (r.set i (some (.ow d))) σ
def qExpr (a : PlE) : PlS := fun r σ k => a r σ fun _ σ => k.nx r σ
def qRet (a : PlE) : PlS := fun r σ k => a r σ k.rt
def qRetO (i : Nat) : PlS := fun r σ k => match r[i]? with
  | some (some (.ow d)) => k.rt d σ
  | _ => False
def qRetN : PlS := fun _ σ k => k.rt .non σ
def qIf (c : PlT) (a b : PlS) : PlS := fun r σ k => c r σ fun t σ => if t = true then a r σ k else b r σ k
def qBrk : PlS := fun r σ k => k.bk r σ
def qCnt : PlS := fun r σ k => k.ct r σ
def qPar (i j : Nat) (a : PlA) : PlS := fun r σ k => a r σ fun ds σ => match ds with
  | [x, y] => k.nx ((r.set i (some (.im x))).set j (some (.im y))) σ
  | _ => False
def qPar3 (i j l : Nat) (a : PlA) : PlS := fun r σ k => a r σ fun ds σ => match ds with
  | [x, y, z] => k.nx (((r.set i (some (.im x))).set j (some (.im y))).set l (some (.im z))) σ
  | _ => False
def qAsg (g : Tgd) (a : PlE) : PlS := fun r σ k => a r σ fun d σ => match g d r with
  | some r' => k.nx r' σ
  | none => False
def qUnp (is : List Nat) (a : PlE) : PlS := fun r σ k => a r σ fun d σ => match d with
  | .lst l => match unpD is l r with
    | some r' => k.nx r' σ
    | none => False
  | _ => False
/-- a variable's own list is plain data from here on -/
def qRel (i : Nat) (a : PlS) : PlS := fun r σ k => match r[i]? with
  | some (some (.ow d)) => a (r.set i (some (.im d))) σ k
  | _ => False
def qApp (i : Nat) (a : PlE) : PlS := fun r σ k => match r[i]? with
  | some (some (.ow (.lst l))) => a r σ fun d σ => l.length ≤ 1000000 ∧ k.nx (r.set i (some (.ow (.lst (l ++ [d]))))) σ
  | _ => False
def forP (g : Tgd) (body : PlS) (k : Kn) : List Dt → Ev_ → Sg → Prop
  | [], r, σ => k.nx r σ
  | d :: ds, r, σ => match g d r with
    | none => False
    | some r1 => body r1 σ ⟨forP g body k ds, k.nx, forP g body k ds, k.rt⟩
def qFor (it : PlI) (g : Tgd) (body : PlS) : PlS := fun r σ k => it r σ fun ds σ => forP g body k ds r σ
section
variable {h : Hd} {X O : List Nat} {μ : Mu} {σ : Sg} {ρ : Rho} {r : Ev_} {k : Kn}
theorem OkS.of (S : Sm h (O ++ X) μ σ) {f : Fl} (q : FlR k h X O μ σ f) : OkS h X O μ k (.ok f μ) := ⟨f, μ, h, O, σ, rfl, Ext.refl _ _ _, fun n z => .inl z, S, q⟩
theorem OkS.expr {α β : Type} {rel : DRel α β} {Q : β → Sg → Prop} {x : R α} {f : α → Mu → R Fl} (q : OkR rel h (O ++ X) μ Q x) (hf : ∀ a μ' h' b σ', Ext h h' [] μ μ' → Sm h' (O ++ X) μ' σ' → rel μ h' (O ++ X) μ' a b → Q b σ' → OkS h' X O μ' k (f a μ')) : OkS h X O μ k (x.bind f) := by
  obtain ⟨a, μ1, h1, b, σ1, rfl, e1, S1, q1, hq⟩ := q
  obtain ⟨g, μ2, h2, O2, σ2, y1, y2, y3, y4, y5⟩ := hf a μ1 h1 b σ1 e1 S1 q1 hq
  exact ⟨g, μ2, h2, O2, σ2, y1, (e1.mono fun _ => none_in).trans y2 fun n z => .inl z, fun n z => (y3 n z).imp id fun w => Nat.le_trans e1.le w, y4, y5⟩
theorem OkS.then {x : R Fl} {f : Rho → Mu → R Fl} {k1 : Kn} (q : OkS h X O μ k1 x) (hb : ∀ r σ, k1.bk r σ → k.bk r σ) (hc : ∀ r σ, k1.ct r σ → k.ct r σ) (hr : ∀ d σ, k1.rt d σ → k.rt d σ)
    (hn : ∀ ρ' r' μ' h' O' σ', Ext h h' O μ μ' → (∀ n ∈ O', n ∈ O ∨ μ.nx ≤ n) → Sm h' (O' ++ X) μ' σ' → EnvD h' X O' μ' ρ' r' → k1.nx r' σ' → OkS h' X O' μ' k (f ρ' μ')) : OkS h X O μ k (sThen x f) := by
  obtain ⟨g, μ1, h1, O1, σ1, rfl, e1, o1, S1, q1⟩ := q
  cases g with
  | nx ρ' =>
    obtain ⟨r', E', hk⟩ := q1
    obtain ⟨g, μ2, h2, O2, σ2, y1, y2, y3, y4, y5⟩ := hn ρ' r' μ1 h1 O1 σ1 e1 o1 S1 E' hk
    exact ⟨g, μ2, h2, O2, σ2, y1, e1.trans y2 o1, fun n z => (y3 n z).elim (o1 n) fun w => .inr (Nat.le_trans e1.le w), y4, y5⟩
  | bk ρ' =>
    obtain ⟨r', E', hk⟩ := q1
    exact ⟨_, μ1, h1, O1, σ1, rfl, e1, o1, S1, r', E', hb _ _ hk⟩
  | ct ρ' =>
    obtain ⟨r', E', hk⟩ := q1
    exact ⟨_, μ1, h1, O1, σ1, rfl, e1, o1, S1, r', E', hc _ _ hk⟩
  | rt v =>
    obtain ⟨d, a, b⟩ := q1
    exact ⟨_, μ1, h1, O1, σ1, rfl, e1, o1, S1, d, a, hr _ _ b⟩
end
section
variable {a b : MS} {a' b' : PlS} {m : ME} {p : PlE} {t : MT} {q : PlT} {ms : MA} {ps : PlA}
theorem si_sNil : SiS sNil qNil := fun h X O μ σ ρ r k S E hq => .of S ⟨r, E, hq⟩
theorem si_seq (sa : SiS a a') (sb : SiS b b') : SiS (sSeq a b) (qSeq a' b') := fun h X O μ σ ρ r k S E hq =>
  (sa h X O μ σ ρ r _ S E hq).then (fun _ _ z => z) (fun _ _ z => z) (fun _ _ z => z) fun ρ' r' μ' h' O' σ' _ _ S' E' hk => sb h' X O' μ' σ' ρ' r' k S' E' hk
theorem si_set (i : Nat) (s : SiE m p) : SiS (sSet i m) (qSet i p) := fun h X O μ σ ρ r k S E hq =>
  OkS.expr (s h X O μ σ ρ r _ S E hq) fun v μ1 h1 d σ1 e1 S1 q1 hq1 => .of S1 ⟨_, (E.ext e1 fun _ => none_in).set i q1, hq1⟩
end
section
variable {a b : MS} {a' b' : PlS} {m : ME} {p : PlE} {t : MT} {q : PlT} {ms : MA} {ps : PlA}
theorem si_setO (i : Nat) (s : SiF m p) : SiS (sSet i m) (qOwn i p) := fun h X O μ σ ρ r k S E hq => by
  obtain ⟨n, o, μ1, h1, d, σ1, e, e1, S1, a, b, c, f, g, hq1⟩ := s h X O μ σ ρ r _ S E hq
  unfold sSet
  rw [e, R.bind_ok]
  exact ⟨_, μ1, h1, n :: O, σ1, rfl, e1.mono fun _ => none_in, fun m z => (List.mem_cons.mp z).elim (fun z => .inr (z ▸ a)) .inl, S1, _, E.own e1 i a b (fun z => c (List.mem_append_right _ z)) (S1.xl n List.mem_cons_self) f g, hq1⟩
theorem si_ret (s : SiE m p) : SiS (sRet m) (qRet p) := fun h X O μ σ ρ r k S E hq =>
  OkS.expr (s h X O μ σ ρ r _ S E hq) fun v μ1 h1 d σ1 e1 S1 q1 hq1 => .of S1 ⟨d, DR.weak (fun n z => List.mem_append_right _ z) q1, hq1⟩
theorem si_retO (i : Nat) : SiS (sRet (mV i)) (qRetO i) := fun h X O μ σ ρ r k S E hq => by
  unfold qRetO at hq
  split at hq
  · rename_i d e
    obtain ⟨n, o, a, b, c, f, g, x, y⟩ := E.ow i d e
    unfold sRet mV
    rw [a]
    simp only [R.bind_ok]
    exact .of S ⟨d, .obj c f g x (CD.weak' (fun n z => List.mem_append_right _ z) y), hq⟩
  · exact hq.elim
theorem si_ifS (st : SiT t q) (sa : SiS a a') (sb : SiS b b') : SiS (sIf t a b) (qIf q a' b') := fun h X O μ σ ρ r k S E hq => by
  refine OkS.expr (st h X O μ σ ρ r _ S E hq) fun v μ1 h1 d σ1 e1 S1 q1 hq1 => ?_
  have q1 : v = d := q1
  subst q1
  cases v
  · exact sb h1 X O μ1 σ1 ρ r k S1 (E.ext e1 fun _ => none_in) hq1
  · exact sa h1 X O μ1 σ1 ρ r k S1 (E.ext e1 fun _ => none_in) hq1
theorem si_par (i j : Nat) (s : SiA ms ps) : SiS (sPar i j ms) (qPar i j ps) := fun h X O μ σ ρ r k S E hq => by
  refine OkS.expr (s h X O μ σ ρ r _ S E hq) fun v μ1 h1 d σ1 e1 S1 q1 hq1 => ?_
  split at hq1
  · rename_i x y
    have q1 : DRs h1 (O ++ X) μ1 v [x, y] := q1
    match v, q1 with
    | _, .cons a (.cons b .nil) => exact .of S1 ⟨_, ((E.ext e1 fun _ => none_in).set i a).set j b, hq1⟩
  · exact hq1.elim
theorem si_app (i : Nat) (s : SiE m p) : SiS (sExpr (mBm appM (mV i) (mCons m mNil))) (qApp i p) := fun h X O μ σ ρ r k S E hq => by
  unfold qApp at hq
  split at hq
  · rename_i l e
    obtain ⟨n, o, a, b, c, f, g, x, y⟩ := E.ow i _ e
    cases y with
    | lst y =>
      rename_i vs
      have hv : mV i ρ μ = .ok (.loc n) μ := by unfold mV; rw [a]
      have hl : lstOf (.loc n) μ = some (n, vs) := by unfold lstOf; simp only [x]
      unfold sExpr mBm
      rw [hv, R.bind_ok]
      simp only [hl]
      unfold mCons mNil
      obtain ⟨w, μ1, h1, d, σ1, e0, e1, S1, q1, hq1⟩ := s h X O μ σ ρ r _ S E hq
      have x1 := (e1.ob n g c none_in).trans x
      have hl1 : lstOf (.loc n) μ1 = some (n, vs) := by unfold lstOf; simp only [x1]
      have y1 := y.ext e1 fun _ => none_in
      rw [e0]
      simp only [R.bind_ok]
      unfold appM
      simp only [hl1]
      rw [if_pos (by rw [y1.len]; exact hq1.1)]
      obtain ⟨E2, E3, b1, c1, f1, g1⟩ := (E.ext e1 fun _ => none_in).upd e a (o := .lst (vs ++ [w])) (d := .lst (l ++ [d])) (.lst (y1.app (.cons q1 .nil)))
      have E4 : Ext h1 h1 [n] μ1 (μ1.put n (.lst (vs ++ [w]))) := ⟨Nat.le_refl _, ⟨[], (List.append_nil _).symm, fun _ z => nomatch z⟩, fun m _ _ z => Mu.put_ne _ _ fun y => z (List.mem_singleton.mpr y), fun m _ _ z => Mu.put_vrN _ _ fun y => z (List.mem_singleton.mpr y)⟩
      exact ⟨_, _, h1, O, σ1, rfl, (e1.mono fun _ => none_in).trans E3 fun m z => .inl z, fun m z => .inl z, S1.keep E4 (fun m z => List.mem_append_left _ (List.mem_singleton.mp z ▸ b1)) fun m z => Mu.put_ne _ _ fun y => c1 (y ▸ z), _, E2, hq1.2⟩
  · exact hq.elim
theorem for_run {kk : Wk} {g : Val → Rho → Option Rho} {g' : Tgd} {body : MS} {body' : PlS} (hg : SiG g g') (hb : SiS body body') {X O0 : List Nat} {h0 : Hd} {μ0 : Mu} {ds0 : List Dt} {k : Kn} (q0 : rlI μ0 h0 (O0 ++ X) μ0 kk ds0) :
    ∀ (ds : List Dt) (i f : Nat) (h : Hd) (μ : Mu) (σ : Sg) (O : List Nat) (ρ : Rho) (r : Ev_), ds0.drop i = ds → f = ds.length + 1 → Ext h0 h O0 μ0 μ → (∀ n ∈ O, n ∈ O0 ∨ μ0.nx ≤ n) → Sm h (O ++ X) μ σ → EnvD h X O μ ρ r → forP g' body' k ds r σ → OkS h X O μ k (forM' kk.items g body f i ρ μ)
  | [], i, _, h, μ, σ, O, ρ, r, hds, rfl, e, hO, S, E, hq => by
    obtain ⟨vs, x1, x2⟩ := q0 h μ O0 (O ++ X) e (fun n z => List.mem_append_left _ z) fun n z => (List.mem_append.mp z).elim (fun z => (hO n z).imp (List.mem_append_left _) id) fun z => .inl (List.mem_append_right _ z)
    have : vs[i]? = none := by
      rw [List.getElem?_eq_none_iff, x2.len]
      exact List.drop_eq_nil_iff.mp hds
    show OkS h X O μ k (forM' kk.items g body (0 + 1) i ρ μ)
    rw [forM', x1]
    simp only [this]
    exact .of S ⟨r, E, hq⟩
  | d :: ds, i, _, h, μ, σ, O, ρ, r, hds, rfl, e, hO, S, E, hq => by
    obtain ⟨vs, x1, x2⟩ := q0 h μ O0 (O ++ X) e (fun n z => List.mem_append_left _ z) fun n z => (List.mem_append.mp z).elim (fun z => (hO n z).imp (List.mem_append_left _) id) fun z => .inl (List.mem_append_right _ z)
    have hd : ds0[i]? = some d := by
      have := congrArg (·[0]?) hds
      simpa [List.getElem?_drop] using this
    have hds' : ds0.drop (i + 1) = ds := by
      have := congrArg (List.drop 1) hds
      rw [List.drop_drop] at this
      exact this
    obtain ⟨v, y1, y2⟩ := x2.get hd
    unfold forP at hq
    split at hq
    · exact hq.elim
    · rename_i r1 hr1
      obtain ⟨ρ1, z1, z2⟩ := hg h X O μ ρ r r1 v d E y2 hr1
      obtain ⟨fl, μ1, h1, O1, σ1, a1, a2, a3, a4, a5⟩ := hb h X O μ σ ρ1 r1 _ S z2 hq
      show OkS h X O μ k (forM' kk.items g body (ds.length + 1 + 1) i ρ μ)
      rw [forM', x1]
      simp only [y1, z1, a1]
      have e1 := e.trans a2 hO
      have o1 : ∀ n ∈ O1, n ∈ O0 ∨ μ0.nx ≤ n := fun n z => (a3 n z).elim (hO n) fun w => .inr (Nat.le_trans e.le w)
      have up : ∀ {x : R Fl}, OkS h1 X O1 μ1 k x → OkS h X O μ k x := fun {x} ⟨g, μ2, h2, O2, σ2, y1, y2, y3, y4⟩ => ⟨g, μ2, h2, O2, σ2, y1, a2.trans y2 a3, fun n z => (y3 n z).elim (a3 n) fun w => .inr (Nat.le_trans a2.le w), y4⟩
      cases fl with
      | nx ρ2 =>
        obtain ⟨r2, E2, hk⟩ := a5
        exact up (for_run hg hb q0 ds (i + 1) _ h1 μ1 σ1 O1 ρ2 r2 hds' rfl e1 o1 a4 E2 hk)
      | ct ρ2 =>
        obtain ⟨r2, E2, hk⟩ := a5
        exact up (for_run hg hb q0 ds (i + 1) _ h1 μ1 σ1 O1 ρ2 r2 hds' rfl e1 o1 a4 E2 hk)
      | bk ρ2 =>
        obtain ⟨r2, E2, hk⟩ := a5
        exact ⟨_, μ1, h1, O1, σ1, rfl, a2, a3, a4, r2, E2, hk⟩
      | rt v =>
        obtain ⟨d, x, y⟩ := a5
        exact ⟨_, μ1, h1, O1, σ1, rfl, a2, a3, a4, d, x, y⟩
theorem si_for {it : MI} {it' : PlI} {g : Val → Rho → Option Rho} {g' : Tgd} (si : SiI it it') (hg : SiG g g') (sa : SiS a a') : SiS (sFor it g a) (qFor it' g' a') := fun h X O μ σ ρ r k S E hq => by
  refine OkS.expr (si h X O μ σ ρ r _ S E hq) fun kk μ1 h1 ds σ1 e1 S1 q1 hq1 => ?_
  have q1 : rlI μ h1 (O ++ X) μ1 kk ds := q1
  obtain ⟨vs, i1, i2⟩ := q1 h1 μ1 [] (O ++ X) (Ext.refl _ _ _) (fun _ => none_in) fun n z => .inl z
  simp only [i1]
  exact for_run hg sa q1 ds 0 (vs.length + 1) h1 μ1 σ1 O ρ r rfl (by rw [i2.len]) (Ext.refl _ _ _) (fun n z => .inl z) S1 (E.ext e1 fun _ => none_in) hq1
end
/-! ### defs -/
def SiD (d : List Val → Mu → R Val) (p : List Dt → Sg → (Dt → Sg → Prop) → Prop) : Prop := ∀ (h : Hd) (X : List Nat) (μ : Mu) (σ : Sg) (vs : List Val) (ds : List Dt) (Q : Dt → Sg → Prop), Sm h X μ σ → DRs h X μ vs ds → p ds σ Q → OkR rlE h X μ Q (d vs μ)
def startD (N : Nat) (ds : List Dt) : Ev_ := ds.map (fun d => some (.im d)) ++ List.replicate (N - ds.length) none
def runD (n N : Nat) (p : PlS) : List Dt → Sg → (Dt → Sg → Prop) → Prop := fun ds σ Q => ds.length = n ∧ p (startD N ds) σ ⟨fun _ σ => Q .non σ, fun _ _ => False, fun _ _ => False, Q⟩
def pCall (n : Nat) (d : List Dt → Sg → (Dt → Sg → Prop) → Prop) (a : PlA) : PlE := fun r σ Q => a r σ fun xs σ => xs.length = n ∧ d xs σ Q
theorem EnvD.start {h : Hd} {X : List Nat} {μ : Mu} {vs : List Val} {ds : List Dt} (N : Nat) (q : DRs h X μ vs ds) : EnvD h X [] μ (startV N vs) (startD N ds) := by
  have no : ∀ {i : Nat} {d : Dt}, (startD N ds)[i]? ≠ some (some (.ow d)) := fun {i d} z => by
    unfold startD at z
    rcases List.mem_append.mp (List.mem_of_getElem? z) with z | z
    · obtain ⟨e, _, z⟩ := List.mem_map.mp z
      cases z
    · have := (List.mem_replicate.mp z).2
      cases this
  refine ⟨by unfold startV startD; rw [List.length_append, List.length_append, List.length_map, List.length_map, List.length_replicate, List.length_replicate, q.len], fun i d z => ?_, fun i d z => absurd z no, fun i j d e n _ z => absurd z no⟩
  unfold startD at z
  by_cases c : i < ds.length
  · rw [List.getElem?_append_left (by rw [List.length_map]; exact c), List.getElem?_map] at z
    obtain ⟨d', x, y⟩ := Option.map_eq_some_iff.mp z
    cases y
    obtain ⟨v, f, g⟩ := q.get x
    exact ⟨v, by unfold startV; rw [List.getElem?_append_left (by rw [List.length_map, q.len]; exact c), List.getElem?_map, f]; rfl, g⟩
  · rw [List.getElem?_append_right (by rw [List.length_map]; omega)] at z
    have := (List.mem_replicate.mp (List.mem_of_getElem? z)).2
    cases this
theorem si_run {n N : Nat} {m : MS} {p : PlS} (s : SiS m p) : SiD (runM n N m) (runD n N p) := fun h X μ σ vs ds Q S q hq => by
  unfold runM
  rw [if_pos (by rw [q.len]; exact hq.1)]
  obtain ⟨f, μ1, h1, O1, σ1, a1, a2, a3, a4, a5⟩ := s h X [] μ σ (startV N vs) (startD N ds) _ S (EnvD.start N q) hq.2
  rw [a1]
  have S1 := a4.weak (X' := X) fun n z => List.mem_append_right _ z
  cases f with
  | nx ρ =>
    obtain ⟨r, _, hk⟩ := a5
    exact ⟨_, μ1, h1, .non, σ1, rfl, a2, S1, .non, hk⟩
  | bk ρ => obtain ⟨r, _, hk⟩ := a5; exact hk.elim
  | ct ρ => obtain ⟨r, _, hk⟩ := a5; exact hk.elim
  | rt v =>
    obtain ⟨d, x, y⟩ := a5
    exact ⟨v, μ1, h1, d, σ1, rfl, a2, S1, x, y⟩
theorem si_call {n : Nat} {d : List Val → Mu → R Val} {d' : List Dt → Sg → (Dt → Sg → Prop) → Prop} {as : MA} {as' : PlA} (sd : SiD d d') (sa : SiA as as') : SiE (mCall n d as) (pCall n d' as') := fun h X O μ σ ρ r Q S E hq => by
  refine OkR.bind (rel' := rlE) (sa h X O μ σ ρ r _ S E hq) fun vs μ1 h1 ds σ1 e1 S1 q1 hq1 => ?_
  have q1 : DRs h1 (O ++ X) μ1 vs ds := q1
  rw [if_pos (by rw [q1.len]; exact hq1.1)]
  obtain ⟨v, μ2, h2, d2, σ2, e, x⟩ := sd h1 (O ++ X) μ1 σ1 vs ds Q S1 q1 hq1.2
  exact ⟨v, μ2, h2, d2, σ2, by rw [e]; rfl, x⟩
end Wn
/-! plain data: more prims, what is shown of them -/
namespace Wn
open PySem PySem.Spec PyProof.Rows L2 LamX He
def blsD : List Dt → Option (List Bool)
  | [] => some []
  | .bl i :: r => match blsD r with
    | some l => some (i :: l)
    | none => none
  | _ :: _ => none
theorem bls_rel {h : Hd} {X : List Nat} {μ : Mu} : ∀ {vs : List Val} {ds : List Dt} {l : List Bool}, DRs h X μ vs ds → blsD ds = some l → blsO vs = some l
  | _, _, l, .nil, e => e
  | _, _, l, .cons (d := d) (ds := ds) a b, e => by
    cases d with
    | bl i =>
      dsimp only [blsD] at e
      split at e
      · rename_i l' h'
        cases e
        rw [(DW.bl (.inl a))]
        unfold blsO
        rw [bls_rel b h']
        rfl
      · cases e
    | _ => cases e
def allD_ : List Dt → Sg → Option Dt
  | [x], σ => ((lstD σ x).bind blsD).map fun l => .bl (l.all id)
  | _, _ => none
theorem p_all' : PN allM allD_ := by
  intro h X μ σ xs dxs d S hx e
  unfold allD_ at e
  split at e
  · obtain ⟨l, h1, rfl⟩ := Option.map_eq_some_iff.mp e
    obtain ⟨l', h2, h3⟩ := Option.bind_eq_some_iff.mp h1
    obtain ⟨v, rfl, q⟩ := hx.one
    obtain ⟨n, vs, rfl, _, o, r⟩ := q.lst S h2
    unfold allM
    simp only [seqOf_l o, Option.bind_some, bls_rel r h3]
    exact .id S (.bl _)
  · cases e
/-- a list so many times -/
def mulLD : Dt → Dt → Sg → Option Dt
  | .lst l, .int k, _ => if 0 ≤ k ∧ k ≤ 1000 ∧ l.length ≤ 1000 then some (.lst (List.replicate k.toNat l).flatten) else none
  | _, _, _ => none
/-! ### comprehensions and loops, by what they do -/
section
variable {g : Tgd} {c : PlT} {elt : PlE} {r : Ev_} {σ : Sg}
/-- a comprehension over `l.map`, no condition -/
theorem lcP_all {α : Type} {h : α → Dt} {f : α → Dt} {rv : α → Ev_} (Q : List Dt → Sg → Prop) : ∀ (l : List α) (acc : List Dt), (∀ x ∈ l, g (h x) r = some (rv x)) → (∀ x ∈ l, ∀ Q : Bool → Sg → Prop, Q true σ → c (rv x) σ Q) → (∀ x ∈ l, ∀ Q : Dt → Sg → Prop, Q (f x) σ → elt (rv x) σ Q) → acc.length + l.length ≤ 1000000 → Q (acc ++ l.map f) σ → lcP g c elt r (l.map h) acc σ Q
  | [], acc, _, _, _, _, hq => by
    simp only [List.map_nil, List.append_nil] at hq
    exact hq
  | a :: l, acc, hg, hc, he, hl, hq => by
    rw [List.length_cons] at hl
    rw [List.map_cons]
    unfold lcP
    rw [hg a List.mem_cons_self]
    refine hc a List.mem_cons_self _ ?_
    rw [if_pos rfl]
    refine he a List.mem_cons_self _ ⟨by omega, lcP_all Q l _ (fun x hx => hg x (List.mem_cons_of_mem a hx)) (fun x hx => hc x (List.mem_cons_of_mem a hx)) (fun x hx => he x (List.mem_cons_of_mem a hx)) (by rw [List.length_append]; simp; omega) ?_⟩
    rw [List.append_assoc]
    exact hq
/-- a comprehension over `l.map`, with a condition -/
theorem lcP_fil {α : Type} {h : α → Dt} {p : α → Bool} {f : α → Dt} {rv : α → Ev_} (Q : List Dt → Sg → Prop) : ∀ (l : List α) (acc : List Dt), (∀ x ∈ l, g (h x) r = some (rv x)) → (∀ x ∈ l, ∀ Q : Bool → Sg → Prop, Q (p x) σ → c (rv x) σ Q) → (∀ x ∈ l, p x = true → ∀ Q : Dt → Sg → Prop, Q (f x) σ → elt (rv x) σ Q) → acc.length + l.length ≤ 1000000 → Q (acc ++ (l.filter p).map f) σ → lcP g c elt r (l.map h) acc σ Q
  | [], acc, _, _, _, _, hq => by
    simp only [List.filter_nil, List.map_nil, List.append_nil] at hq
    exact hq
  | a :: l, acc, hg, hc, he, hl, hq => by
    rw [List.length_cons] at hl
    rw [List.map_cons]
    unfold lcP
    rw [hg a List.mem_cons_self]
    refine hc a List.mem_cons_self _ ?_
    have hg' := fun x hx => hg x (List.mem_cons_of_mem a hx)
    have hc' := fun x hx => hc x (List.mem_cons_of_mem a hx)
    have he' := fun x hx => he x (List.mem_cons_of_mem a hx)
    cases hp : p a with
    | false =>
      rw [if_neg (by decide)]
      refine lcP_fil Q l acc hg' hc' he' (by omega) ?_
      rw [List.filter_cons, hp] at hq
      exact hq
    | true =>
      rw [if_pos rfl]
      refine he a List.mem_cons_self hp _ ⟨by omega, lcP_fil Q l _ hg' hc' he' (by rw [List.length_append]; simp; omega) ?_⟩
      rw [List.filter_cons, hp] at hq
      rw [List.append_assoc]
      exact hq
end
/-- a for, by an invariant -/
theorem forP_inv {g : Tgd} {body : PlS} {k : Kn} {ds0 : List Dt} (I : Nat → Ev_ → Sg → Prop) (hs : ∀ i d r σ (k' : Kn), ds0[i]? = some d → I i r σ → k'.bk = k.nx → k'.rt = k.rt → (∀ r σ, I (i + 1) r σ → k'.nx r σ) → (∀ r σ, I (i + 1) r σ → k'.ct r σ) → ∃ r1, g d r = some r1 ∧ body r1 σ k') (hd : ∀ r σ, I ds0.length r σ → k.nx r σ) :
    ∀ (ds : List Dt) (i : Nat) (r : Ev_) (σ : Sg), ds0.drop i = ds → i ≤ ds0.length → I i r σ → forP g body k ds r σ
  | [], i, r, σ, hds, hi, h => by
    have : i = ds0.length := by
      have := List.drop_eq_nil_iff.mp hds
      omega
    subst this
    exact hd _ _ h
  | d :: ds, i, r, σ, hds, hi, h => by
    have hd0 : ds0[i]? = some d := by
      have := congrArg (·[0]?) hds
      simpa [List.getElem?_drop] using this
    have hds' : ds0.drop (i + 1) = ds := by
      have := congrArg (List.drop 1) hds
      rw [List.drop_drop] at this
      exact this
    have hlt := (List.getElem?_eq_some_iff.mp hd0).1
    obtain ⟨r1, a, b⟩ := hs i d r σ ⟨forP g body k ds, k.nx, forP g body k ds, k.rt⟩ hd0 h rfl rfl (fun r σ z => forP_inv I hs hd ds (i + 1) r σ hds' (by omega) z) fun r σ z => forP_inv I hs hd ds (i + 1) r σ hds' (by omega) z
    unfold forP
    rw [a]
    exact b
theorem forP_rng {g : Tgd} {body : PlS} {k : Kn} {lo : Int} {n : Nat} (I : Nat → Ev_ → Sg → Prop) {r : Ev_} {σ : Sg} (h0 : I 0 r σ) (hs : ∀ i r σ (k' : Kn), i < n → I i r σ → k'.bk = k.nx → k'.rt = k.rt → (∀ r σ, I (i + 1) r σ → k'.nx r σ) → (∀ r σ, I (i + 1) r σ → k'.ct r σ) → ∃ r1, g (.int (lo + (i : Int))) r = some r1 ∧ body r1 σ k') (hd : ∀ r σ, I n r σ → k.nx r σ) : forP g body k (rngD lo n) r σ := by
  have hlen : (rngD lo n).length = n := by unfold rngD; rw [List.length_map, List.length_range]
  refine forP_inv (ds0 := rngD lo n) I (fun i d r σ k' e h => ?_) (fun r σ h => hd r σ (by rw [hlen] at h; exact h)) _ 0 r σ rfl (Nat.zero_le _) h0
  unfold rngD at e
  rw [List.getElem?_map] at e
  obtain ⟨j, a, rfl⟩ := Option.map_eq_some_iff.mp e
  obtain ⟨b, c⟩ := List.getElem?_eq_some_iff.mp a
  rw [List.length_range] at b
  rw [List.getElem_range] at c
  subst c
  exact hs i r σ k' b h
theorem forP_list {α : Type} {f : α → Dt} {g : Tgd} {body : PlS} {k : Kn} {l : List α} (I : Nat → Ev_ → Sg → Prop) {r : Ev_} {σ : Sg} (h0 : I 0 r σ) (hs : ∀ i x r σ (k' : Kn), l[i]? = some x → I i r σ → k'.bk = k.nx → k'.rt = k.rt → (∀ r σ, I (i + 1) r σ → k'.nx r σ) → (∀ r σ, I (i + 1) r σ → k'.ct r σ) → ∃ r1, g (f x) r = some r1 ∧ body r1 σ k') (hd : ∀ r σ, I l.length r σ → k.nx r σ) : forP g body k (l.map f) r σ := by
  have hlen : (l.map f).length = l.length := List.length_map ..
  refine forP_inv (ds0 := l.map f) I (fun i d r σ k' e h => ?_) (fun r σ h => hd r σ (by rw [hlen] at h; exact h)) _ 0 r σ rfl (Nat.zero_le _) h0
  rw [List.getElem?_map] at e
  obtain ⟨x, a, rfl⟩ := Option.map_eq_some_iff.mp e
  exact hs i x r σ k' a h
end Wn
/-! plain data: own lists, displays of dicts, more prims -/
namespace Wn
open PySem PySem.Spec PyProof.Rows L2 LamX He
def isiTD : Dt → Sg → Option Dt
  | .str _, _ => some (.bl true)
  | .dct _, _ => none
  | .ref _, _ => none
  | .sysv _, _ => none
  | .sysw _, _ => none
  | .vw _ _, _ => none
  | .dtt _, _ => none
  | _, _ => some (.bl false)
theorem p_isiT' : P1 isiT isiTD := by
  intro h X μ σ x dx d S hx e
  cases dx with
  | non => cases e; rw [hx.non]; exact .id S (.bl _)
  | bl b => cases e; rw [hx.bl]; exact .id S (.bl _)
  | int b => cases e; rw [hx.int]; exact .id S (.bl _)
  | str b => cases e; rw [hx.str]; exact .id S (.bl _)
  | tup l => cases e; obtain ⟨vs, rfl, _⟩ := hx.tup; exact .id S (.bl _)
  | lst l =>
    cases e
    obtain ⟨n, vs, rfl, _, o, r⟩ := hx.lst S (l := l) rfl
    unfold isiT
    simp only [seqOf_l o]
    exact .id S (.bl _)
  | ros l =>
    cases e
    obtain ⟨n, vs, rfl, _, o, r⟩ := hx.ros
    unfold isiT
    simp only [o]
    exact .id S (.bl _)
  | dct l => cases e
  | ref k => cases e
  | sysv l => cases e
  | sysw l => cases e
  | vw l p => cases e
  | dtt l => cases e
/-- two lists, one behind the other -/
def addLD (x y : Dt) (σ : Sg) : Option Dt := match lstD σ x, lstD σ y with
  | some a, some b => if a.length + b.length ≤ 1000000 then some (.lst (a ++ b)) else none
  | _, _ => none
theorem addLD_lst {l m : List Dt} {σ : Sg} (h : l.length + m.length ≤ 1000000) : addLD (.lst l) (.lst m) σ = some (.lst (l ++ m)) := by
  show (if l.length + m.length ≤ 1000000 then some (Dt.lst (l ++ m)) else none) = _
  rw [if_pos h]
/-- an own list gets all of another one -/
def qExt (i : Nat) (a : PlE) : PlS := fun r σ k => match r[i]? with
  | some (some (.ow (.lst l))) => a r σ fun d σ => match d with
    | .lst m => l.length + m.length ≤ 1000000 ∧ k.nx (r.set i (some (.ow (.lst (l ++ m))))) σ
    | _ => False
  | _ => False
end Wn
/-! plain data: displays of dicts, d.get(k, x) -/
namespace Wn
open PySem PySem.Spec PyProof.Rows L2 LamX He
def rlP : DRel (List (Val × Val)) (List (Key × Dt)) := fun _ h X μ ps kvs => ∃ vs, kvOf ps = some vs ∧ vs.map (·.1) = kvs.map (·.1) ∧ DRs h X μ (vs.map (·.2)) (kvs.map (·.2))
instance : RelUp rlP := ⟨fun _ z => z⟩
def pPrs : List (PlE × PlE) → Ev_ → Sg → (List (Key × Dt) → Sg → Prop) → Prop
  | [], _, σ, Q => Q [] σ
  | (a, b) :: l, r, σ, Q => a r σ fun x σ => b r σ fun y σ => pPrs l r σ fun kvs σ => match keyD x with
    | some k => Q ((k, y) :: kvs) σ
    | none => False
def pDisp (prs : List (PlE × PlE)) : PlE := fun r σ Q => pPrs prs r σ fun kvs σ => (kvs.map (·.1)).Nodup ∧ kvs.length ≤ 15 ∧ Q (.dct kvs) σ
theorem si_pn : Si rlP (mPrs []) (pPrs []) := fun h X O μ σ ρ r Q S E hq => okR_ret (rel := rlP) S ⟨[], rfl, rfl, .nil⟩ hq
theorem si_pc {a b : ME} {a' b' : PlE} {l : List (ME × ME)} {l' : List (PlE × PlE)} (sa : SiE a a') (sb : SiE b b') (s : Si rlP (mPrs l) (pPrs l')) : Si rlP (mPrs ((a, b) :: l)) (pPrs ((a', b') :: l')) := fun h X O μ σ ρ r Q S E hq => by
  refine OkR.bind (rel := rlE) (rel' := rlP) (sa h X O μ σ ρ r _ S E hq) fun v μ1 h1 d σ1 e1 S1 q1 hq1 => ?_
  have E1 := E.ext e1 fun _ => none_in
  refine OkR.bind (rel := rlE) (rel' := rlP) (sb h1 X O μ1 σ1 ρ r _ S1 E1 hq1) fun w μ2 h2 d2 σ2 e2 S2 q2 hq2 => ?_
  have E2 := E1.ext e2 fun _ => none_in
  refine OkR.bind (rel := rlP) (rel' := rlP) (s h2 X O μ2 σ2 ρ r _ S2 E2 hq2) fun ps μ3 h3 kvs σ3 e3 S3 q3 hq3 => ?_
  obtain ⟨vs, g1, g2, g3⟩ := q3
  have q1' : DR h3 (O ++ X) μ3 v d := DR.ext e3 (fun _ => none_in) (DR.ext e2 (fun _ => none_in) q1)
  have q2' : DR h3 (O ++ X) μ3 w d2 := DR.ext e3 (fun _ => none_in) q2
  split at hq3
  · rename_i k hk
    refine okR_ret (rel := rlP) S3 ⟨(k, w) :: vs, ?_, ?_, ?_⟩ hq3
    · unfold kvOf
      rw [keyD_ok (.inl q1') hk, g1]
    · rw [List.map_cons, List.map_cons, g2]
    · exact .cons q2' g3
  · exact hq3.elim
theorem si_disp {l : List (ME × ME)} {l' : List (PlE × PlE)} (s : Si rlP (mPrs l) (pPrs l')) : SiE (mDisp l) (pDisp l') := fun h X O μ σ ρ r Q S E hq => by
  have hX : ∀ n ∈ μ.nx :: X, n ∈ X ∨ μ.nx ≤ n := fun n z => (List.mem_cons.mp z).elim (fun z => .inr (Nat.le_of_eq z.symm)) .inl
  have hX' : ∀ n ∈ O ++ μ.nx :: X, n ∈ O ++ X ∨ μ.nx ≤ n := fun n z => (List.mem_append.mp z).elim (fun z => .inl (List.mem_append_left _ z)) fun z => (hX n z).imp (List.mem_append_right _) id
  have e0 := Ext.new h [] μ (.dct [])
  have E0 : EnvD h (μ.nx :: X) O (μ.new (.dct [])) ρ r := (E.hid hX).ext e0 fun _ => none_in
  have nX : μ.nx ∉ O ++ X := fun z => absurd (S.xl _ z) (Nat.lt_irrefl _)
  have nh : μ.nx ∉ h := fun z => absurd (S.lt _ z) (Nat.lt_irrefl _)
  have S0 : Sm h (O ++ μ.nx :: X) (μ.new (.dct [])) σ := by
    refine ⟨S.len, S.nd, fun n z => Nat.lt_succ_of_lt (S.lt n z), fun n z => ?_, fun k n c a b => ((S.ob k n c a b).hid hX').ext e0 (fun _ => none_in) (Mu.new_ne _ _ (Nat.ne_of_lt (S.lt n (List.mem_of_getElem? a))))⟩
    rcases List.mem_append.mp z with z | z
    · exact Nat.lt_succ_of_lt (S.xl n (List.mem_append_left _ z))
    · rcases List.mem_cons.mp z with z | z
      · rw [z]; exact Nat.lt_succ_self _
      · exact Nat.lt_succ_of_lt (S.xl n (List.mem_append_right _ z))
  obtain ⟨ps, μ1, h1, kvs, σ1, g0, e1, S1, ⟨vs, g1, g2, g3⟩, hq1⟩ := s h (μ.nx :: X) O _ σ ρ r _ S0 E0 hq
  have l0 : μ.nx < (μ.new (.dct [])).nx := Nat.lt_succ_self _
  have b1 : μ1.ob μ.nx = some (.dct []) := (e1.ob _ l0 nh (fun z => nomatch z)).trans (Mu.new_same _ _)
  have n1 : μ.nx ∉ h1 := e1.not l0 nh
  have l1 : μ.nx < μ1.nx := Nat.lt_of_lt_of_le l0 e1.le
  obtain ⟨c1, c2, hq2⟩ := hq1
  have c1' : (vs.map (·.1)).Nodup := g2 ▸ c1
  have c2' : vs.length ≤ 15 := by
    have := congrArg List.length g2
    rw [List.length_map, List.length_map] at this
    omega
  have E4 : Ext h1 h1 [μ.nx] μ1 (μ1.put μ.nx (.dct vs)) := ⟨Nat.le_refl _, ⟨[], (List.append_nil _).symm, fun _ z => nomatch z⟩, fun m _ _ z => Mu.put_ne _ _ fun y => z (List.mem_singleton.mpr y), fun m _ _ z => Mu.put_vrN _ _ fun y => z (List.mem_singleton.mpr y)⟩
  have in1 : ∀ n ∈ [μ.nx], n ∈ O ++ μ.nx :: X := fun n z => by
    cases List.mem_singleton.mp z
    exact List.mem_append_right _ List.mem_cons_self
  have S4 := S1.keep E4 in1 fun m z => Mu.put_ne _ _ fun y => n1 (y ▸ z)
  have sub : ∀ n ∈ O ++ X, n ∈ O ++ μ.nx :: X := fun n z => (List.mem_append.mp z).elim (List.mem_append_left _) fun z => List.mem_append_right _ (List.mem_cons_of_mem _ z)
  have g4 : DRs h1 (O ++ X) (μ1.put μ.nx (.dct vs)) (vs.map (·.2)) (kvs.map (·.2)) := DRs.hid (fun n z => .inl (sub n z)) (DRs.ext E4 in1 g3)
  refine ⟨.loc μ.nx, μ1.put μ.nx (.dct vs), h1, .dct kvs, σ1, ?_, ?_, S4.weak sub, .obj n1 nX l1 (Mu.put_same _ _ _) (.dct g2 g4), hq2⟩
  · unfold mDisp
    rw [g0]
    simp only [R.bind, g1, b1]
    rw [if_pos ⟨c1', c2'⟩]
  · refine ⟨Nat.le_trans (Nat.le_of_lt l0) e1.le, ?_, fun n l m _ => ?_, fun n l m _ => ?_⟩
    · obtain ⟨t, y, ht⟩ := e1.hd
      exact ⟨t, y, fun n z => Nat.le_trans (Nat.le_of_lt l0) (ht n z)⟩
    · rw [Mu.put_ne _ _ (Nat.ne_of_lt l), e1.ob n (Nat.lt_succ_of_lt l) m (fun z => nomatch z), Mu.new_ne _ _ (Nat.ne_of_lt l)]
    · rw [Mu.put_vrN _ _ (Nat.ne_of_lt l), e1.vr n (Nat.lt_succ_of_lt l) m (fun z => nomatch z), Mu.new_vr]
def pD2 (o k d : PlE) : PlE := fun r σ Q => o r σ fun x σ => (dctD σ x).isSome = true ∧ k r σ fun y σ => d r σ fun z σ => match dctD σ x, keyD y with
  | some kvs, some key => Q ((kGetD kvs key).getD z) σ
  | _, _ => False
theorem si_d2 {o k d : ME} {o' k' d' : PlE} (so : SiW o o') (sk : SiW k k') (sd : SiE d d') : SiE (mD2 get2DM o k d) (pD2 o' k' d') := fun h X O μ σ ρ r Q S E hq => by
  refine OkR.bind (rel := rlW) (rel' := rlE) (so h X O μ σ ρ r _ S E hq) fun x μ1 h1 dx σ1 e1 S1 q1 hq1 => ?_
  have E1 := E.ext e1 fun _ => none_in
  obtain ⟨z1, hq1⟩ := hq1
  obtain ⟨kvs1, z1⟩ := Option.isSome_iff_exists.mp z1
  obtain ⟨n, vs1, rfl, _, o1, _⟩ := DW.dct S1 q1 z1
  have dv : dctV (.loc n) μ1 = some vs1 := by
    unfold dctV dctOf
    simp only [o1]
  simp only [dv]
  refine OkR.bind (rel := rlW) (rel' := rlE) (sk h1 X O μ1 σ1 ρ r _ S1 E1 hq1) fun y μ2 h2 dy σ2 e2 S2 q2 hq2 => ?_
  have E2 := E1.ext e2 fun _ => none_in
  refine OkR.bind (rel := rlE) (rel' := rlE) (sd h2 X O μ2 σ2 ρ r _ S2 E2 hq2) fun z μ3 h3 dz σ3 e3 S3 q3 hq3 => ?_
  have q1' := DW.ext (DW.ext q1 e2) e3
  have q2' := DW.ext q2 e3
  split at hq3
  · rename_i kvs key a1 a2
    obtain ⟨m, vs, y1, _, o3, r1, r2⟩ := DW.dct S3 q1' a1
    cases y1
    have hk := keyD_ok q2' a2
    unfold get2DM dctOf
    simp only [o3, hk]
    rcases kGet_relD r1 r2 key with ⟨a, b⟩ | ⟨v, d', a, b, c⟩
    · rw [a] at hq3
      rw [b]
      exact okR_ret (rel := rlE) S3 q3 hq3
    · rw [b] at hq3
      rw [a]
      exact okR_ret (rel := rlE) S3 c hq3
  · exact hq3.elim
end Wn
/-! plain data: systems that are only read, and what stands within them -/
namespace Wn
open PySem PySem.Spec PyProof.Rows L2 LamX He
/-! ### attributes -/
section
variable {h h' : Hd} {X : List Nat} {μ μ' : Mu} {σ : Sg} {v : Sv} {x : Val} {d : Dt} {n k : Nat}
end
/-! ### d[k], x not in l -/
/-! ### lists, classes -/
/-! ### sorted rows of data -/
/-! ### the things of a system are walked: locked meanwhile -/

/-! ### a place of an own list is written; a pair of which the second is a new list -/
def qSto (i : Nat) (q p : PlE) : PlS := fun r σ k => p r σ fun d σ => match r[i]? with
  | some (some (.ow (.lst l))) => q r σ fun t σ => match t with
    | .int z => match ixN l.length z with
      | some j => k.nx (r.set i (some (.ow (.lst (l.set j d))))) σ
      | none => False
    | _ => False
  | _ => False
theorem si_sto (i : Nat) {mi m : ME} {q p : PlE} (sq : SiE mi q) (s : SiE m p) : SiS (sSto stoM (mV i) mi m) (qSto i q p) := fun h X O μ σ ρ r k S E hq => by
  obtain ⟨w, μ1, h1, d, σ1, e0, e1, S1, q1, hq1⟩ := s h X O μ σ ρ r _ S E hq
  have E1 := E.ext e1 fun _ => none_in
  split at hq1
  · rename_i l e
    obtain ⟨t, μ2, h2, td, σ2, f0, f1, S2, q2, hq2⟩ := sq h1 X O μ1 σ1 ρ r _ S1 E1 hq1
    have E2 := E1.ext f1 fun _ => none_in
    split at hq2
    · rename_i z
      split at hq2
      · rename_i j hj
        obtain ⟨n, o, a, b, c, f, g, x, y⟩ := E2.ow i _ e
        cases y with
        | lst y =>
          rename_i vs
          have hv : mV i ρ μ1 = .ok (.loc n) μ1 := by unfold mV; rw [a]
          have et : t = .int z := DW.int (.inl q2)
          subst et
          have hj' : ixN vs.length z = some j := by rw [y.len]; exact hj
          have q1' := DR.ext f1 (X := O ++ X) (fun _ => none_in) q1
          unfold sSto
          rw [e0, R.bind_ok, hv, R.bind_ok, f0, R.bind_ok]
          unfold stoM
          simp only [x, hj']
          obtain ⟨E3, E4, b1, c1, f2, g1⟩ := E2.upd e a (o := .lst (vs.set j w)) (d := .lst (l.set j d)) (.lst (y.set j q1'))
          have E5 : Ext h2 h2 [n] μ2 (μ2.put n (.lst (vs.set j w))) := ⟨Nat.le_refl _, ⟨[], (List.append_nil _).symm, fun _ z => nomatch z⟩, fun m _ _ z => Mu.put_ne _ _ fun y => z (List.mem_singleton.mpr y), fun m _ _ z => Mu.put_vrN _ _ fun y => z (List.mem_singleton.mpr y)⟩
          exact ⟨_, _, h2, O, σ2, rfl, ((e1.tr f1).mono fun _ => none_in).trans E4 fun m z => .inl z, fun m z => .inl z, S2.keep E5 (fun m z => List.mem_append_left _ (List.mem_singleton.mp z ▸ b1)) fun m z => Mu.put_ne _ _ fun y => c1 (y ▸ z), _, E3, hq2⟩
      · exact hq2.elim
    · exact hq2.elim
  · exact hq1.elim
end Wn
/-! the law's level: `for k, (a, b) in ..`, `a[i], b = ..`, isinstance(x, (list, tuple)) -/
namespace Wn
open PySem PySem.Spec PyProof.Rows L2 LamX He
section
variable {X : Cx} {E : XK} {e c o : Expr} {es : List Expr} {m mo mi mv : ME} {pos : Pos}
end
end Wn
/-! plain data: `for k, (a, b) in ..`, `a[i], b = ..`, a pair of which the first is a new list, isinstance(x, (list, tuple)) -/
namespace Wn
open PySem PySem.Spec PyProof.Rows L2 LamX He
end Wn
/-! the law's level: `x is True`, `x is not False` and so on, for any plain x -/
namespace Wn
open PySem PySem.Spec PyProof.Rows L2 LamX He
section
variable {X : Cx}
end
end Wn
/-! plain data: x is True, x is not False -/
namespace Wn
open PySem PySem.Spec PyProof.Rows L2 LamX He
def isbD (n : Bool) : Dt → Dt → Sg → Option Dt
  | .bl c, .bl b, _ => some (.bl (if n = true then !(decide (c = b)) else decide (c = b)))
  | .str _, .bl _, _ => some (.bl n)
  | .int _, .bl _, _ => some (.bl n)
  | .non, .bl _, _ => some (.bl n)
  | _, _, _ => none
end Wn
/-! plain data: while, a.append(b.pop(k)), list(x) as a new list -/
namespace Wn
open PySem PySem.Spec PyProof.Rows L2 LamX He
section
variable {c : MT} {c' : PlT} {body : MS} {body' : PlS} {X : List Nat} {k : Kn}
end
section
variable {m : ME} {p : PlE}
end
end Wn
/-! zip of three lists -/
namespace L2
open PySem PySem.Spec PyProof.Rows LamX
end L2
namespace Wn
open PySem PySem.Spec PyProof.Rows L2 LamX He
section
variable {X : Cx} {E : XK} {e e2 e3 : Expr} {pos p : Pos}
end
end Wn
/-! plain data: zip of three lists, pop of an own list -/
namespace Wn
open PySem PySem.Spec PyProof.Rows L2 LamX He
section
variable {ms : MA} {ps : PlA}
end
section
variable {m : ME} {p : PlE}
end
end Wn
/-! list(d.values()), d.pop(k) of a dict whose keys are tuples -/
namespace TdI
open PySem PySem.Spec PyProof.Rows L2
section
variable {X : Cx} {apos cpos pos : Pos}
end
section
variable {X : Cx}
end
end TdI
/-! the law's level: dicts whose keys are tuples that are made in place -/
namespace Wn
open PySem PySem.Spec PyProof.Rows L2 LamX He
section
variable {K : PySem.W.Frag} {w : Wt} {μ : Mu} {H : Hp}
end
section
variable {X : Cx} {E : XK} {e o : Expr} {es : List Expr} {pos tpos apos cpos : Pos} {mo mv : ME} {ma : MA} {x1 : ExprCtx} {f : Rho → Mu → Option Val}
end
end Wn
/-! list.remove of a dict that stands in the list: the dicts ahead of it are unequal -/
namespace RemD
open PySem PySem.Spec PyProof.Rows L2
open AutoSeq1 (wpAny_loadPart')
open MeetsSeq MeetsSeq2 MeetsSeq3 SeqRoads2
section
variable {prog : Program} {w : World}
end
/-! ### the rule -/
section
variable {X : Cx}
end
end RemD
namespace Wn
open PySem PySem.Spec PyProof.Rows L2 LamX He
section
variable {K : PySem.W.Frag} {w : Wt} {μ : Mu} {H : Hp}
theorem VRs.at_ {ad : Adr} {b : Nat} : ∀ {vs : List Val} {us : List V}, VRs K ad b H vs us → ∀ {i : Nat} {v : Val}, vs[i]? = some v → ∃ u, us[i]? = some u ∧ VR K ad b H v u
  | _, _, .nil, i, v, e => by cases i <;> cases e
  | _, _, .cons a r, 0, v, e => by cases e; exact ⟨_, rfl, a⟩
  | _, _, .cons a r, i + 1, v, e => VRs.at_ r (i := i) e
def keyVl : Key → Val
  | .inl i => .int i
  | .inr x => .str x
theorem VRs.keys {ad : Adr} {b : Nat} : ∀ {kvs : List (Key × Val)} {us : List (Key × V)}, us.map (·.1) = kvs.map (·.1) → VRs K ad b H (kvs.map fun p => keyVl p.1) (us.map fun kv => kV kv.1)
  | [], [], _ => .nil
  | p :: kvs, q :: us, h => by
    simp only [List.map_cons, List.cons.injEq] at h
    refine .cons ?_ (VRs.keys h.2)
    show VR K ad b H (keyVl p.1) (kV q.1)
    rw [h.1]
    cases p.1 with
    | inl i => exact .int i
    | inr x => exact .str x
  | [], _ :: _, h => by simp at h
  | _ :: _, [], h => by simp at h
end
/-! a list against an empty one, whatever lies in it -/
section
variable {X : Cx}
end
end Wn
/-! t[lo:hi] that is the whole of t: t itself -/
namespace HT
open PySem PyProof.Rows
section
variable {prog : Program} {w : World} {A : Around} {E : Value → Shared → Prop} {s : Shared}
end
end HT
namespace L2
open PySem PySem.Spec PyProof.Rows
section
variable {X : Cx}
end
end L2
namespace Wn
open PySem PySem.Spec PyProof.Rows L2 LamX He
section
variable {X : Cx} {E : XK} {e : Expr} {me : ME} {lo hi : Option Expr} {ml mh : MO} {pos p2 : Pos}
end
end Wn
/-! plain data: lists and dicts that change while others have them (cells) -/
namespace Wn
open PySem PySem.Spec PyProof.Rows L2 LamX He
/-! ### dicts by any keys -/
section
variable {κ α : Type} [DecidableEq κ]
def gG (l : List (κ × α)) (k : κ) : Option α := (l.find? fun p => decide (p.1 = k)).map (·.2)
def gP (l : List (κ × α)) (k : κ) (v : α) : List (κ × α) := if (l.any fun p => decide (p.1 = k)) then l.map fun p => if p.1 = k then (p.1, v) else p else l ++ [(k, v)]
end
section
variable {κ : Type} [DecidableEq κ] {h : Hd} {X : List Nat} {μ : Mu}
end
def dttD (σ : Sg) : Dt → Option (List (List Key × Dt))
  | .dtt l => some l
  | .ref k => match σ[k]? with
    | some (.dat (.dtt l)) => some l
    | _ => none
  | _ => none
section
variable {h h' : Hd} {X O : List Nat} {μ μ' : Mu} {v : Val} {d : Dt} {vs : List Val} {ds : List Dt} {σ : Sg} {ρ : Rho} {r : Ev_} {k : Kn}
theorem DW.dtt {l : List (List Key × Dt)} (S : Sm h X μ σ) (q : DW h X μ v d) (e : dttD σ d = some l) : ∃ n vs, v = .loc n ∧ μ.ob n = some (.dtt vs) ∧ vs.map (·.1) = l.map (·.1) ∧ DRs h X μ (vs.map (·.2)) (l.map (·.2)) := by
  cases d with
  | dtt l' =>
    cases e
    rcases q with q | ⟨n, o, rfl, _, a, b, q⟩
    · cases q with
      | obj _ _ a b q =>
        cases q with
        | dtt k q => exact ⟨_, _, rfl, b, k, q⟩
    · cases q with
      | dtt k q => exact ⟨_, _, rfl, b, k, q⟩
  | ref k =>
    obtain ⟨n, rfl, hk⟩ := q.ref
    dsimp only [dttD] at e
    split at e
    · rename_i l' hc
      cases e
      obtain ⟨o, a, b⟩ := S.ob _ _ _ hk hc
      cases b with
      | dtt k b => exact ⟨n, _, rfl, a, k, b⟩
    · cases e
  | _ => cases e
/-! ### what is fresh becomes a cell -/
/-! new objects -/
end
end Wn
/-! plain data: what is done to cells -/
namespace Wn
open PySem PySem.Spec PyProof.Rows L2 LamX He
section
variable {h h' : Hd} {X O : List Nat} {μ μ' : Mu} {v : Val} {d : Dt} {vs : List Val} {ds : List Dt} {σ : Sg} {ρ : Rho} {r : Ev_} {k : Kn}
/-! a cell, by its handle -/
/-! ### dicts whose keys are tuples -/
/-! what is read while nothing changes -/
/-! ### stores into cells -/
end
end Wn
/-! plain data: cells that are walked, cells from which is taken -/
namespace Wn
open PySem PySem.Spec PyProof.Rows L2 LamX He
section
variable {h h' : Hd} {X O : List Nat} {μ μ' : Mu} {v : Val} {d : Dt} {vs : List Val} {ds : List Dt} {σ : Sg} {ρ : Rho} {r : Ev_} {k : Kn}
/-! a list against an empty one -/
/-! a list as a cell: append, remove -/
/-! a dict taken out of a list -/
/-! d.pop(k, x) -/
/-! list(d) -/
/-! sorted(..) as a new list -/
/-! ### a cell's list is walked -/
/-! slices, a tuple's whole as well -/
end
end Wn
/-! a world of cells: what it holds, how it is read and written -/
namespace Wn
open PySem PySem.Spec PyProof.Rows L2 LamX He
/-! ### lists with keys -/
section
variable {κ κ' α β : Type} [DecidableEq κ] [DecidableEq κ']
theorem gG_cons {p : κ × α} {l : List (κ × α)} {k : κ} : gG (p :: l) k = if p.1 = k then some p.2 else gG l k := by
  unfold gG
  rw [List.find?_cons]
  by_cases c : p.1 = k
  · rw [if_pos c, decide_eq_true c]; rfl
  · rw [if_neg c, decide_eq_false c]
theorem gG_none {k : κ} : ∀ {l : List (κ × α)}, gG l k = none ↔ k ∉ l.map (·.1)
  | [] => ⟨fun _ => List.not_mem_nil, fun _ => rfl⟩
  | p :: l => by
    rw [gG_cons, List.map_cons, List.mem_cons, not_or]
    by_cases c : p.1 = k
    · rw [if_pos c]
      exact ⟨fun z => (nomatch z), fun z => absurd c.symm z.1⟩
    · rw [if_neg c, gG_none]
      exact ⟨fun z => ⟨fun y => c y.symm, z⟩, fun z => z.2⟩
theorem any_key {k : κ} {l : List (κ × α)} : (l.any fun p => decide (p.1 = k)) = true ↔ k ∈ l.map (·.1) := by
  rw [List.any_eq_true]
  exact ⟨fun ⟨p, h1, h2⟩ => List.mem_map.mpr ⟨p, h1, of_decide_eq_true h2⟩, fun h => by
    obtain ⟨p, h1, h2⟩ := List.mem_map.mp h
    exact ⟨p, h1, decide_eq_true h2⟩⟩
theorem gP_old {k : κ} {v : α} {l : List (κ × α)} (h : k ∈ l.map (·.1)) : gP l k v = l.map fun p => if p.1 = k then (p.1, v) else p := by
  unfold gP
  rw [if_pos (any_key.mpr h)]
theorem gP_new {k : κ} {v : α} {l : List (κ × α)} (h : k ∉ l.map (·.1)) : gP l k v = l ++ [(k, v)] := by
  unfold gP
  rw [if_neg (fun z => h (any_key.mp z))]
theorem gG_app {k : κ} : ∀ {l m : List (κ × α)}, gG (l ++ m) k = (gG l k).or (gG m k)
  | [], m => rfl
  | p :: l, m => by
    rw [List.cons_append, gG_cons, gG_cons]
    split
    · rfl
    · exact gG_app
theorem gG_gP {k k' : κ} {v : α} {l : List (κ × α)} : gG (gP l k v) k' = if k' = k then some v else gG l k' := by
  by_cases c : k ∈ l.map (·.1)
  · rw [gP_old c]
    induction l with
    | nil => cases c
    | cons p l ih =>
      rw [List.map_cons, gG_cons, gG_cons]
      by_cases d : p.1 = k
      · rw [if_pos d]
        by_cases e : k' = k
        · rw [if_pos e, if_pos (d.trans e.symm)]
        · rw [if_neg e]
          have e1 : ¬ p.1 = k' := fun z => e (z.symm.trans d)
          rw [if_neg e1, if_neg e1]
          by_cases c' : k ∈ l.map (·.1)
          · rw [ih c', if_neg e]
          · have : (l.map fun p => if p.1 = k then (p.1, v) else p) = l := by
              conv => rhs; rw [← List.map_id l]
              refine List.map_congr_left fun q hq => ?_
              rw [if_neg (fun z => c' (List.mem_map.mpr ⟨q, hq, z⟩))]
              rfl
            rw [this]
      · rw [if_neg d]
        have c' : k ∈ l.map (·.1) := by
          rcases List.mem_cons.mp c with z | z
          · exact absurd z.symm d
          · exact z
        rw [ih c']
        by_cases e : p.1 = k'
        · rw [if_pos e, if_pos e, if_neg (fun z => d (e.trans z))]
        · rw [if_neg e, if_neg e]
  · rw [gP_new c, gG_app]
    by_cases e : k' = k
    · subst e
      rw [if_pos rfl, gG_none.mpr c]
      show gG [(k', v)] k' = some v
      rw [gG_cons, if_pos rfl]
    · rw [if_neg e]
      have : gG [(k, v)] k' = none := by rw [gG_cons, if_neg (fun z => e z.symm)]; rfl
      rw [this]
      cases gG l k' <;> rfl
end
/-! ### the world -/
structure Md where
  P : Int
  N : Int
  alive : List Int
  tabs : List ((Int × Int) × Int)
  units : List (Int × (Int × Bool))
  sets : List (Int × (List Ev × List Int))
  made : Int
inductive Rl where
  | ro | al | ta | un | se | u (s : Int) | t (s : Int) | rg (s : Int) | rw (s : Int) | en (s l : Int)
  deriving DecidableEq
abbrev Hm := Rl → Nat
def tabD (l : List ((Int × Int) × Int)) : List (List Key × Dt) := l.map fun p => ([.inl p.1.1, .inl p.1.2], .int p.2)
def evD (e : Ev) : List (Key × Dt) := [(.inr "number", .int e.num), (.inr "thing", .int e.ser), (.inr "label", .int e.lab), (.inr "word", .str e.wrd), (.inr "armed", .bl e.arm)]
def roD (h : Hm) (m : Md) : List (Key × Dt) := [(.inr "limits", .tup [.int m.P, .int m.N]), (.inr "alive", .ref (h .al)), (.inr "tables", .ref (h .ta)), (.inr "units", .ref (h .un)), (.inr "sets", .ref (h .se)), (.inr "made", .int m.made)]
def unsD (h : Hm) (l : List (Int × (Int × Bool))) : List (Key × Dt) := l.map fun p => (.inl p.1, .ref (h (.u p.1)))
def sesD (h : Hm) (l : List (Int × (List Ev × List Int))) : List (Key × Dt) := l.map fun p => (.inl p.1, .ref (h (.t p.1)))
def setD (h : Hm) (s : Int) : List (Key × Dt) := [(.inr "regs", .ref (h (.rg s))), (.inr "row", .ref (h (.rw s)))]
def rgsD (h : Hm) (s : Int) (es : List Ev) : List Dt := es.map fun e => .ref (h (.en s e.lab))
def uniD (x : Int × Bool) : List Dt := [.int x.1, .bl x.2]
def Md.cel (m : Md) (h : Hm) : Rl → Option Dt
  | .ro => some (.dct (roD h m))
  | .al => some (.lst (m.alive.map .int))
  | .ta => some (.dtt (tabD m.tabs))
  | .un => some (.dct (unsD h m.units))
  | .se => some (.dct (sesD h m.sets))
  | .u s => (gG m.units s).map fun x => .lst (uniD x)
  | .t s => (gG m.sets s).map fun _ => .dct (setD h s)
  | .rg s => (gG m.sets s).map fun x => .lst (rgsD h s x.1)
  | .rw s => (gG m.sets s).map fun x => .lst (x.2.map .int)
  | .en s l => (gG m.sets s).bind fun x => (x.1.find? fun e => decide (e.lab = l)).map fun e => .dct (evD e)
structure Wat (Z : List (Nat × Cel)) (h : Hm) (m : Md) (σ : Sg) : Prop where
  at_ : ∀ r d, m.cel h r = some d → σ[h r]? = some (.dat d)
  inj : ∀ r r' d d', m.cel h r = some d → m.cel h r' = some d' → h r = h r' → r = r'
  out : ∀ z ∈ Z, σ[z.1]? = some z.2
  far : ∀ z ∈ Z, ∀ r d, m.cel h r = some d → h r ≠ z.1
section
variable {Z : List (Nat × Cel)} {h h' : Hm} {m m' : Md} {σ : Sg}
theorem Wat.lt (w : Wat Z h m σ) {r : Rl} {d : Dt} (e : m.cel h r = some d) : h r < σ.length := (List.getElem?_eq_some_iff.mp (w.at_ r d e)).1
/-- cells made, one cell rewritten -/
theorem Wat.news (w : Wat Z h m σ) {es : List Dt} {q : Rl} {dq d0 : Dt} (hq : m.cel h q = some d0)
    (new : ∀ r d, m'.cel h' r = some d → (∃ i, h' r = σ.length + i ∧ es[i]? = some d) ∨ (r = q ∧ d = dq ∧ h' r = h q) ∨ (r ≠ q ∧ h' r = h r ∧ m.cel h r = some d))
    (ni : ∀ r r' d d', m'.cel h' r = some d → m'.cel h' r' = some d' → h' r = h' r' → σ.length ≤ h' r → r = r') : Wat Z h' m' ((σ ++ es.map Cel.dat).set (h q) (.dat dq)) := by
  have hl := w.lt hq
  have old : ∀ {j : Nat}, j < σ.length → j ≠ h q → ((σ ++ es.map Cel.dat).set (h q) (.dat dq))[j]? = σ[j]? := fun {j} h1 h2 => by
    rw [List.getElem?_set_ne (fun z => h2 z.symm), List.getElem?_append_left h1]
  refine ⟨fun r d e => ?_, fun r r' d d' e e' hh => ?_, fun z hz => ?_, fun z hz r d e => ?_⟩
  · rcases new r d e with ⟨i, h1, h2⟩ | ⟨h1, h2, h3⟩ | ⟨h1, h2, h3⟩
    · rw [h1, List.getElem?_set_ne (by omega), List.getElem?_append_right (by omega), List.getElem?_map, show σ.length + i - σ.length = i by omega, h2]
      rfl
    · rw [h3, List.getElem?_set_self (by rw [List.length_append]; omega), h2]
    · rw [h2, old (w.lt h3) (fun z => h1 (w.inj _ _ _ _ h3 hq z))]
      exact w.at_ r d h3
  · by_cases c : σ.length ≤ h' r
    · exact ni r r' d d' e e' hh c
    · have o : ∀ {r : Rl} {d : Dt}, m'.cel h' r = some d → ¬ σ.length ≤ h' r → ∃ d1, m.cel h r = some d1 ∧ h' r = h r := fun {r d} e c => by
        rcases new r d e with ⟨i, h1, h2⟩ | ⟨h1, h2, h3⟩ | ⟨h1, h2, h3⟩
        · omega
        · subst h1; exact ⟨_, hq, h3⟩
        · exact ⟨_, h3, h2⟩
      obtain ⟨d1, a1, a2⟩ := o e c
      obtain ⟨d2, b1, b2⟩ := o e' (by rw [← hh]; exact c)
      exact w.inj r r' d1 d2 a1 b1 (by rw [← a2, ← b2]; exact hh)
  · have := w.out z hz
    rw [old (List.getElem?_eq_some_iff.mp this).1 (fun y => w.far z hz q _ hq y.symm)]
    exact this
  · have l := (List.getElem?_eq_some_iff.mp (w.out z hz)).1
    rcases new r d e with ⟨i, h1, h2⟩ | ⟨h1, h2, h3⟩ | ⟨h1, h2, h3⟩
    · omega
    · rw [h3]; exact w.far z hz q _ hq
    · rw [h2]; exact w.far z hz r _ h3
/-- one cell rewritten -/
theorem Wat.put (w : Wat Z h m σ) {q : Rl} {dq d0 : Dt} (hq : m.cel h q = some d0) (new : ∀ r d, m'.cel h r = some d → (r = q ∧ d = dq) ∨ (r ≠ q ∧ m.cel h r = some d)) : Wat Z h m' (σ.set (h q) (.dat dq)) := by
  have := w.news (h' := h) (m' := m') (es := []) (dq := dq) hq (fun r d e => by
    rcases new r d e with ⟨rfl, b⟩ | ⟨a, b⟩
    · exact .inr (.inl ⟨rfl, b, rfl⟩)
    · exact .inr (.inr ⟨a, rfl, b⟩)) (fun r r' d d' e e' hh hl => by
    exfalso
    rcases new r d e with ⟨rfl, b⟩ | ⟨a, b⟩
    · exact absurd (w.lt hq) (by omega)
    · exact absurd (w.lt b) (by omega))
  rwa [List.map_nil, List.append_nil] at this
/-! reading -/
theorem inl_inj : ∀ a b : Int, (Sum.inl a : Key) = Sum.inl b → a = b := fun _ _ z => Sum.inl.inj z
theorem find_labE {es : List Ev} (nd : (es.map (·.lab)).Nodup) {e : Ev} (he : e ∈ es) : es.find? (fun x => decide (x.lab = e.lab)) = some e := by
  induction es with
  | nil => cases he
  | cons a es ih =>
    rw [List.map_cons, List.nodup_cons] at nd
    rw [List.find?_cons]
    rcases List.mem_cons.mp he with rfl | z
    · rw [decide_eq_true rfl]
    · rw [decide_eq_false (fun y => nd.1 (List.mem_map.mpr ⟨e, z, y.symm⟩))]
      exact ih nd.2 z
end
end Wn
/-! a world of cells: what each write makes of it -/
namespace Wn
open PySem PySem.Spec PyProof.Rows L2 LamX He
def hset (h : Hm) (p : Rl) (j : Nat) : Hm := fun r => if r = p then j else h r
theorem hset_same {h : Hm} {p : Rl} {j : Nat} : hset h p j p = j := if_pos rfl
theorem hset_ne {h : Hm} {p r : Rl} {j : Nat} (n : r ≠ p) : hset h p j r = h r := if_neg n
def Md.putS (m : Md) (s : Int) (x : List Ev × List Int) : Md := { m with sets := gP m.sets s x }
def Md.al (m : Md) (l : List Int) : Md := { m with alive := l }
section
variable {Z : List (Nat × Cel)} {h h' : Hm} {m m' : Md} {σ : Sg}
theorem ses_keys {l : List (Int × (List Ev × List Int))} : (sesD h l).map (·.1) = l.map fun p => Sum.inl p.1 := by
  unfold sesD
  rw [List.map_map]
  rfl
theorem inl_keys {α : Type} {l : List (Int × α)} {s : Int} : (Sum.inl s : Key) ∈ (l.map fun p => (Sum.inl p.1 : Key)) ↔ s ∈ l.map (·.1) := by
  simp only [List.mem_map]
  exact ⟨fun ⟨p, a, b⟩ => ⟨p, a, inl_inj _ _ b⟩, fun ⟨p, a, b⟩ => ⟨p, a, by rw [b]⟩⟩
theorem cel_t {s : Int} {x : List Ev × List Int} (g : gG m.sets s = some x) : m.cel h (.t s) = some (.dct (setD h s)) := by show (gG m.sets s).map _ = _; rw [g]; rfl
theorem cel_rg {s : Int} {x : List Ev × List Int} (g : gG m.sets s = some x) : m.cel h (.rg s) = some (.lst (rgsD h s x.1)) := by show (gG m.sets s).map _ = _; rw [g]; rfl
theorem cel_rw {s : Int} {x : List Ev × List Int} (g : gG m.sets s = some x) : m.cel h (.rw s) = some (.lst (x.2.map .int)) := by show (gG m.sets s).map _ = _; rw [g]; rfl
theorem cel_en {s l : Int} {x : List Ev × List Int} (g : gG m.sets s = some x) : m.cel h (.en s l) = (x.1.find? fun e => decide (e.lab = l)).map fun e => .dct (evD e) := by show (gG m.sets s).bind _ = _; rw [g]; rfl
theorem putS_same {s : Int} {x : List Ev × List Int} : gG (m.putS s x).sets s = some x := by show gG (gP m.sets s x) s = _; rw [gG_gP, if_pos rfl]
theorem putS_ne {s k : Int} {x : List Ev × List Int} (n : k ≠ s) : gG (m.putS s x).sets k = gG m.sets k := by show gG (gP m.sets s x) k = _; rw [gG_gP, if_neg n]
/-- what another set's cells hold is as before -/
theorem cel_other {s : Int} {x : List Ev × List Int} (r : Rl) (d : Dt) (e : (m.putS s x).cel h r = some d) (hr : r ≠ .se) (h1 : r ≠ .t s) (h2 : r ≠ .rg s) (h3 : r ≠ .rw s) (h4 : ∀ l, r ≠ .en s l) : m.cel h r = some d := by
  cases r with
  | se => exact absurd rfl hr
  | t k =>
    have n : k ≠ s := fun z => h1 (by rw [z])
    have e : (gG (m.putS s x).sets k).map _ = some d := e
    rw [putS_ne n] at e
    exact e
  | rg k =>
    have n : k ≠ s := fun z => h2 (by rw [z])
    have e : (gG (m.putS s x).sets k).map _ = some d := e
    rw [putS_ne n] at e
    exact e
  | rw k =>
    have n : k ≠ s := fun z => h3 (by rw [z])
    have e : (gG (m.putS s x).sets k).map _ = some d := e
    rw [putS_ne n] at e
    exact e
  | en k l =>
    have n : k ≠ s := fun z => h4 l (by rw [z])
    have e : (gG (m.putS s x).sets k).bind _ = some d := e
    rw [putS_ne n] at e
    exact e
  | _ => exact e
/-- of the registrations each is one of the old ones -/
def SubL (es' es : List Ev) : Prop := ∀ l e, es'.find? (fun e => decide (e.lab = l)) = some e → es.find? (fun e => decide (e.lab = l)) = some e
theorem SubL.refl (es : List Ev) : SubL es es := fun _ _ z => z
theorem SubL.of {es' es : List Ev} (nd : (es.map (·.lab)).Nodup) (h : ∀ e ∈ es', e ∈ es) : SubL es' es := fun l e z => by
  have m := List.mem_of_find?_eq_some z
  have p := List.find?_some z
  have p : e.lab = l := by simpa using p
  rw [← p]
  exact find_labE nd (h e m)
/-- a new set -/
theorem Wat.newS (w : Wat Z h m σ) {s : Int} (n : s ∉ m.sets.map (·.1)) : Wat Z (hset (hset (hset h (.rg s) σ.length) (.rw s) (σ.length + 1)) (.t s) (σ.length + 2)) (m.putS s ([], [])) ((σ ++ [Cel.dat (.lst []), .dat (.lst []), .dat (.dct [(.inr "regs", .ref σ.length), (.inr "row", .ref (σ.length + 1))])]).set (h .se) (.dat (.dct (gP (sesD h m.sets) (.inl s) (.ref (σ.length + 2)))))) := by
  have g0 : gG m.sets s = none := gG_none.mpr n
  have ne : ∀ x : Rl, x ≠ .rg s → x ≠ .rw s → x ≠ .t s → hset (hset (hset h (.rg s) σ.length) (.rw s) (σ.length + 1)) (.t s) (σ.length + 2) x = h x := fun x h1 h2 h3 => by rw [hset_ne h3, hset_ne h2, hset_ne h1]
  have e1 : hset (hset (hset h (.rg s) σ.length) (.rw s) (σ.length + 1)) (.t s) (σ.length + 2) (.rg s) = σ.length := by rw [hset_ne (r := .rg s) (p := .t s) nofun, hset_ne (r := .rg s) (p := .rw s) nofun, hset_same]
  have e2 : hset (hset (hset h (.rg s) σ.length) (.rw s) (σ.length + 1)) (.t s) (σ.length + 2) (.rw s) = σ.length + 1 := by rw [hset_ne (r := .rw s) (p := .t s) nofun, hset_same]
  have e3 : hset (hset (hset h (.rg s) σ.length) (.rw s) (σ.length + 1)) (.t s) (σ.length + 2) (.t s) = σ.length + 2 := hset_same
  generalize hset (hset (hset h (.rg s) σ.length) (.rw s) (σ.length + 1)) (.t s) (σ.length + 2) = h' at ne e1 e2 e3 ⊢
  have key : ∀ r d, (m.putS s ([], [])).cel h' r = some d → (r = .rg s ∧ d = .lst []) ∨ (r = .rw s ∧ d = .lst []) ∨ (r = .t s ∧ d = .dct [(.inr "regs", .ref σ.length), (.inr "row", .ref (σ.length + 1))]) ∨ (r = .se ∧ d = .dct (gP (sesD h m.sets) (.inl s) (.ref (σ.length + 2)))) ∨ (r ≠ .se ∧ h' r = h r ∧ m.cel h r = some d) := by
    intro r d z
    by_cases c1 : r = .rg s
    · subst c1; rw [cel_rg putS_same] at z; cases z; exact .inl ⟨rfl, rfl⟩
    by_cases c2 : r = .rw s
    · subst c2; rw [cel_rw putS_same] at z; cases z; exact .inr (.inl ⟨rfl, rfl⟩)
    by_cases c3 : r = .t s
    · subst c3; rw [cel_t putS_same] at z; cases z; exact .inr (.inr (.inl ⟨rfl, by unfold setD; rw [e1, e2]⟩))
    by_cases c4 : r = .se
    · subst c4
      cases z
      refine .inr (.inr (.inr (.inl ⟨rfl, ?_⟩)))
      congr 1
      show sesD h' (gP m.sets s ([], [])) = _
      rw [gP_new n, gP_new (by rw [ses_keys, inl_keys]; exact n)]
      unfold sesD
      rw [List.map_append]
      congr 1
      · refine List.map_congr_left fun p hp => ?_
        rw [ne (.t p.1) nofun nofun fun q => n (List.mem_map.mpr ⟨p, hp, by injection q⟩)]
      · show [((Sum.inl s : Key), Dt.ref (h' (.t s)))] = _
        rw [e3]
    refine .inr (.inr (.inr (.inr ⟨c4, ne r c1 c2 c3, ?_⟩)))
    by_cases c5 : ∃ l, r = .en s l
    · obtain ⟨l, rfl⟩ := c5
      rw [cel_en putS_same] at z
      cases z
    have z : (m.putS s ([], [])).cel h r = some d := by
      rw [← z]
      cases r with
      | ro =>
        show some (Dt.dct (roD h _)) = some (.dct (roD h' _))
        unfold roD
        rw [ne .al nofun nofun nofun, ne .ta nofun nofun nofun, ne .un nofun nofun nofun, ne .se nofun nofun nofun]
      | un =>
        show some (Dt.dct (unsD h _)) = some (.dct (unsD h' _))
        congr 2
        exact List.map_congr_left fun (x : Int × (Int × Bool)) _ => by rw [ne (.u x.1) nofun nofun nofun]
      | se => exact absurd rfl c4
      | t k =>
        have nk : k ≠ s := fun q => c3 (by rw [q])
        show (gG _ k).map (fun _ => Dt.dct (setD h k)) = (gG _ k).map fun _ => .dct (setD h' k)
        unfold setD
        rw [ne (.rg k) (fun q => nk (by injection q)) nofun nofun, ne (.rw k) nofun (fun q => nk (by injection q)) nofun]
      | rg k =>
        show (gG _ k).map (fun (x : List Ev × List Int) => Dt.lst (rgsD h k x.1)) = (gG _ k).map fun (x : List Ev × List Int) => .lst (rgsD h' k x.1)
        congr 1
        funext x
        congr 1
        exact List.map_congr_left fun y _ => by rw [ne (.en k y.lab) nofun nofun nofun]
      | _ => rfl
    exact cel_other r d z c4 c3 c1 c2 fun l y => c5 ⟨l, y⟩
  have := w.news (h' := h') (m' := m.putS s ([], [])) (es := [.lst [], .lst [], .dct [(.inr "regs", .ref σ.length), (.inr "row", .ref (σ.length + 1))]]) (q := .se) (dq := .dct (gP (sesD h m.sets) (.inl s) (.ref (σ.length + 2)))) rfl (fun r d z => by
    rcases key r d z with ⟨rfl, rfl⟩ | ⟨rfl, rfl⟩ | ⟨rfl, rfl⟩ | ⟨rfl, b⟩ | ⟨a, b, c⟩
    · exact .inl ⟨0, e1, rfl⟩
    · exact .inl ⟨1, e2, rfl⟩
    · exact .inl ⟨2, e3, rfl⟩
    · exact .inr (.inl ⟨rfl, b, ne .se nofun nofun nofun⟩)
    · exact .inr (.inr ⟨a, b, c⟩)) (fun r r' d d' z z' hh hl => by
    have o : ∀ {r d}, (m.putS s ([], [])).cel h' r = some d → σ.length ≤ h' r → (r = .rg s ∧ h' r = σ.length) ∨ (r = .rw s ∧ h' r = σ.length + 1) ∨ (r = .t s ∧ h' r = σ.length + 2) := fun {r d} z hl => by
      rcases key r d z with ⟨rfl, _⟩ | ⟨rfl, _⟩ | ⟨rfl, _⟩ | ⟨rfl, b⟩ | ⟨a, b, c⟩
      · exact .inl ⟨rfl, e1⟩
      · exact .inr (.inl ⟨rfl, e2⟩)
      · exact .inr (.inr ⟨rfl, e3⟩)
      · exfalso; rw [ne .se nofun nofun nofun] at hl; exact absurd (w.lt (r := .se) rfl) (by omega)
      · exfalso; rw [b] at hl; exact absurd (w.lt c) (by omega)
    rcases o z hl with ⟨a, b⟩ | ⟨a, b⟩ | ⟨a, b⟩ <;> rcases o z' (by rw [← hh]; exact hl) with ⟨c, d⟩ | ⟨c, d⟩ | ⟨c, d⟩ <;> first | (exfalso; omega) | rw [a, c])
  exact this
/-! what lies outside -/
theorem Wat.app (w : Wat Z h m σ) (τ : Sg) : Wat Z h m (σ ++ τ) := ⟨fun r d e => by rw [List.getElem?_append_left (w.lt e)]; exact w.at_ r d e, w.inj, fun z hz => by
  have := w.out z hz
  rw [List.getElem?_append_left (List.getElem?_eq_some_iff.mp this).1]
  exact this, w.far⟩
theorem Wat.sys {b x : Nat} {c d d' : Cel} (w : Wat [(b, c), (x, d)] h m σ) (bx : b ≠ x) : Wat [(b, c), (x, d')] h m (σ.set x d') := by
  have o1 := w.out (b, c) List.mem_cons_self
  have o2 := w.out (x, d) (List.mem_cons_of_mem _ List.mem_cons_self)
  refine ⟨fun r q e => ?_, w.inj, fun z hz => ?_, fun z hz r q e => ?_⟩
  · rw [List.getElem?_set_ne (fun y => w.far (x, d) (List.mem_cons_of_mem _ List.mem_cons_self) r q e y.symm)]
    exact w.at_ r q e
  · rcases List.mem_cons.mp hz with rfl | hz
    · rw [List.getElem?_set_ne (fun y => bx y.symm)]
      exact o1
    · rcases List.mem_cons.mp hz with rfl | hz
      · exact List.getElem?_set_self (List.getElem?_eq_some_iff.mp o2).1
      · cases hz
  · rcases List.mem_cons.mp hz with rfl | hz
    · exact w.far (b, c) List.mem_cons_self r q e
    · rcases List.mem_cons.mp hz with rfl | hz
      · exact w.far (x, d) (List.mem_cons_of_mem _ List.mem_cons_self) r q e
      · cases hz
end
end Wn
namespace Wn
open PySem PySem.Spec PyProof.Rows L2 LamX He
set_option hygiene false
local macro_rules
  | `(tactic| simp_arith! [$xs,*] $[$l:location]?) => `(tactic| simp only [oK_some, isbD, Option.bind_some, Option.map_some, pC, pV, pO, pNil, pCons, pTup, pLst, pOp, pUn, pFn, pTest, pAnd, pOr, pNot, pIf, pNotV, pOrV, pYes, pOrT, pAndT, pChain, pP0, pP, pSl, pIt, pItW, pRng1, pRng2, pEnm, pLc, gN, gT, unpD, wipeE, qNil, qSet, qOwn, qExpr, qRet, qRetO, qRetN, qIf, qBrk, qCnt, qPar, qPar3, qAsg, qUnp, qRel, qApp, qExt, addLD_lst, qFor, runD, startD, pCall, pMeth, onSy, pMake, pMakeK, pFnS, mak_, lstD, dctD, addD_int, addD_lst, mulLD_lst, subD, modD, ltD, leD, gtD, geD, cmpD, nonD, isD, isntD, keyD, getD_, negD, lenD, listD, tupleD, minD, maxD, absD, intD, intBD, num_, alv_, lim_, lns_, List.getElem?_cons_zero, List.getElem?_cons_succ, List.getElem?_nil, List.set_cons_zero, List.set_cons_succ, List.map_cons, List.map_nil, List.length_cons, List.length_nil, List.cons_append, List.nil_append, List.append_nil, List.replicate, List.flatten_cons, List.flatten_nil, Nat.reduceAdd, Nat.reduceSub, Nat.reduceLeDiff, Nat.reduceLT, Nat.reduceEqDiff, Int.reduceLT, Int.reduceLE, Int.reduceNeg, Int.reduceAdd, Int.reduceToNat, ite_true, ite_false, if_true, if_false, reduceIte, Bool.false_eq_true, Bool.true_eq_false, Bool.not_true, Bool.not_false, and_self, and_true, true_and, Nat.zero_add, Nat.le_refl, or_true, true_or, or_self, not_true, not_false_iff, atI0, atI1, atI2, atI3, atI4, atI5, eqD_int, neD_int, eqD_str, neD_str, $xs,*] $[$l]?)
  | `(tactic| simp_arith! $[$l:location]?) => `(tactic| simp only [oK_some, isbD, Option.bind_some, Option.map_some, pC, pV, pO, pNil, pCons, pTup, pLst, pOp, pUn, pFn, pTest, pAnd, pOr, pNot, pIf, pNotV, pOrV, pYes, pOrT, pAndT, pChain, pP0, pP, pSl, pIt, pItW, pRng1, pRng2, pEnm, pLc, gN, gT, unpD, wipeE, qNil, qSet, qOwn, qExpr, qRet, qRetO, qRetN, qIf, qBrk, qCnt, qPar, qPar3, qAsg, qUnp, qRel, qApp, qExt, addLD_lst, qFor, runD, startD, pCall, pMeth, onSy, pMake, pMakeK, pFnS, mak_, lstD, dctD, addD_int, addD_lst, mulLD_lst, subD, modD, ltD, leD, gtD, geD, cmpD, nonD, isD, isntD, keyD, getD_, negD, lenD, listD, tupleD, minD, maxD, absD, intD, intBD, num_, alv_, lim_, lns_, List.getElem?_cons_zero, List.getElem?_cons_succ, List.getElem?_nil, List.set_cons_zero, List.set_cons_succ, List.map_cons, List.map_nil, List.length_cons, List.length_nil, List.cons_append, List.nil_append, List.append_nil, List.replicate, List.flatten_cons, List.flatten_nil, Nat.reduceAdd, Nat.reduceSub, Nat.reduceLeDiff, Nat.reduceLT, Nat.reduceEqDiff, Int.reduceLT, Int.reduceLE, Int.reduceNeg, Int.reduceAdd, Int.reduceToNat, ite_true, ite_false, if_true, if_false, reduceIte, Bool.false_eq_true, Bool.true_eq_false, Bool.not_true, Bool.not_false, and_self, and_true, true_and, Nat.zero_add, Nat.le_refl, or_true, true_or, or_self, not_true, not_false_iff, atI0, atI1, atI2, atI3, atI4, atI5, eqD_int, neD_int, eqD_str, neD_str] $[$l]?)
local macro_rules
  | `(tactic| dsimp! [$xs,*] $[$l:location]?) => `(tactic| simp only [mChain, isiM, sDst2, neD0M, Wn.R.bind_ok, Wn.R.bind_no, Wn.R.cut_ok, Wn.R.cut_no, sThen_nx, sThen_rt, sThen_bk, sThen_ct, mC, mV, mNil, mCons, mTup, mLst, mOp, mUn, mFn, mMt, boolM, mTest, mAnd, mOr, mNot, mIf, mBl, mAndV, mOrV, mNotV, mAndT, mOrT, truM, List.isEmpty_cons, List.isEmpty_nil, addM, subM, mulM, modM, fdivM, powM, negM, ltM, leM, gtM, geM, cmpI, isM', isntM, isNon, getM, dgetM, slM, mSl, mP, mP0, lenM, listM, tupleM, minM, maxM, absM, intM, sortedM, mBm, lstOf, appM, popM, extM, idxM, remLM, sNil, sSeq, sSet, sExpr, sRet, sRetN, sIf, sBrk, sCnt, sPar, sPar3, sAsg, tgN, tgT, unp, stoM, dstoM, sSto, Wk.items, iSeq, iRng1, iRng2, iEnm, mCall, mMeth, sysOf, onSys, mMethK, mMake, mMakeK, makM, mYes, mListR1, mListR2, intBM, startV, seqOf, keyOf, List.getElem?_cons_zero, List.getElem?_cons_succ, List.getElem?_nil, List.set_cons_zero, List.set_cons_succ, List.map_cons, List.map_nil, List.length_cons, List.length_nil, List.cons_append, List.nil_append, List.append_nil, List.replicate, List.flatten_cons, List.flatten_nil, Nat.reduceAdd, Nat.reduceSub, Nat.reduceLeDiff, Nat.reduceLT, Nat.reduceEqDiff, Int.reduceLT, Int.reduceLE, Int.reduceNeg, Int.reducePow, ite_true, ite_false, if_true, if_false, reduceIte, Bool.false_eq_true, Bool.true_eq_false, Bool.not_true, Bool.not_false, and_self, and_true, true_and, Mu.put_same, Mu.new_same, Mu.put_nx, Mu.new_nx, Nat.zero_add, Nat.le_refl, Goes_nx, Gets_ok, Rets_nx, Rets_rt, CMul, CDiv, CPow, or_true, true_or, or_self, not_true, not_false_iff, mDm, dctV, popDM, getDM, mDisp, mPrs, kvOf, decide_false, decide_true, Int.reduceToNat, Nat.reducePow, Int.reduceAdd, Int.reduceSub, Int.reduceMul, $xs,*] $[$l]?)
  | `(tactic| dsimp! $[$l:location]?) => `(tactic| simp only [mChain, isiM, sDst2, neD0M, Wn.R.bind_ok, Wn.R.bind_no, Wn.R.cut_ok, Wn.R.cut_no, sThen_nx, sThen_rt, sThen_bk, sThen_ct, mC, mV, mNil, mCons, mTup, mLst, mOp, mUn, mFn, mMt, boolM, mTest, mAnd, mOr, mNot, mIf, mBl, mAndV, mOrV, mNotV, mAndT, mOrT, truM, List.isEmpty_cons, List.isEmpty_nil, addM, subM, mulM, modM, fdivM, powM, negM, ltM, leM, gtM, geM, cmpI, isM', isntM, isNon, getM, dgetM, slM, mSl, mP, mP0, lenM, listM, tupleM, minM, maxM, absM, intM, sortedM, mBm, lstOf, appM, popM, extM, idxM, remLM, sNil, sSeq, sSet, sExpr, sRet, sRetN, sIf, sBrk, sCnt, sPar, sPar3, sAsg, tgN, tgT, unp, stoM, dstoM, sSto, Wk.items, iSeq, iRng1, iRng2, iEnm, mCall, mMeth, sysOf, onSys, mMethK, mMake, mMakeK, makM, mYes, mListR1, mListR2, intBM, startV, seqOf, keyOf, List.getElem?_cons_zero, List.getElem?_cons_succ, List.getElem?_nil, List.set_cons_zero, List.set_cons_succ, List.map_cons, List.map_nil, List.length_cons, List.length_nil, List.cons_append, List.nil_append, List.append_nil, List.replicate, List.flatten_cons, List.flatten_nil, Nat.reduceAdd, Nat.reduceSub, Nat.reduceLeDiff, Nat.reduceLT, Nat.reduceEqDiff, Int.reduceLT, Int.reduceLE, Int.reduceNeg, Int.reducePow, ite_true, ite_false, if_true, if_false, reduceIte, Bool.false_eq_true, Bool.true_eq_false, Bool.not_true, Bool.not_false, and_self, and_true, true_and, Mu.put_same, Mu.new_same, Mu.put_nx, Mu.new_nx, Nat.zero_add, Nat.le_refl, Goes_nx, Gets_ok, Rets_nx, Rets_rt, CMul, CDiv, CPow, or_true, true_or, or_self, not_true, not_false_iff, mDm, dctV, popDM, getDM, mDisp, mPrs, kvOf, decide_false, decide_true, Int.reduceToNat, Nat.reducePow, Int.reduceAdd, Int.reduceSub, Int.reduceMul] $[$l]?)

/-! ### the text by places -/
def top (i : Nat) : Stmt := PySem.Challenge.pw_waitnumbers_k26_texts_refused.main.body.getD i (.Pass ⟨0, 0, 0, 0⟩)
abbrev s_BadText___init__ : Stmt := inClass (top 1) 0
abbrev s_is_number_text : Stmt := top 10
abbrev s_is_argument : Stmt := top 11
abbrev s_argument_in : Stmt := top 12
abbrev s_call_in : Stmt := top 13
abbrev s_read_call : Stmt := top 14
abbrev s_read_calls : Stmt := top 15
abbrev s__law_bag : Stmt := top 17
abbrev s__law_take : Stmt := top 18
abbrev s__law_of : Stmt := top 19
abbrev s__law_is_number : Stmt := top 20
abbrev s__law_is_call : Stmt := top 21
abbrev s__law_line : Stmt := top 22
abbrev s__law_bent : Stmt := top 23
abbrev s__law_refused : Stmt := top 24
abbrev s_law : Stmt := top 25
/-! ### what the walk asks of the top -/
structure Tx (K : PySem.W.Frag) (mg : Str → Option Value) : Prop where
  g_ARGUMENTS : mg "ARGUMENTS" = some (.ref (ga K "ARGUMENTS"))
  o_ARGUMENTS : ∀ z : Str, z ∉ ([("new_source" : Str), ("new_set" : Str), ("copy" : Str), ("close" : Str), ("fork" : Str), ("end" : Str), ("arrive" : Str), ("finish" : Str), ("read" : Str), ("add" : Str), ("change" : Str), ("remove" : Str), ("wait" : Str), ("numbers" : Str), ("same" : Str), ("units" : Str)] : List Str) → PySem.W.nsIn K (ga K "ARGUMENTS") z = some none
  d_ARGUMENTS_new_source : ∃ a, PySem.W.nsIn K (ga K "ARGUMENTS") "new_source" = some (some (.ref a)) ∧ ∀ H : Hp, SqT K H a (List.map (Dv.v K) [.str "integer"])
  d_ARGUMENTS_new_set : ∃ a, PySem.W.nsIn K (ga K "ARGUMENTS") "new_set" = some (some (.ref a)) ∧ ∀ H : Hp, SqT K H a (List.map (Dv.v K) [.str "integer"])
  d_ARGUMENTS_copy : ∃ a, PySem.W.nsIn K (ga K "ARGUMENTS") "copy" = some (some (.ref a)) ∧ ∀ H : Hp, SqT K H a (List.map (Dv.v K) [.str "integer", .str "integer", .str "optional"])
  d_ARGUMENTS_close : ∃ a, PySem.W.nsIn K (ga K "ARGUMENTS") "close" = some (some (.ref a)) ∧ ∀ H : Hp, SqT K H a (List.map (Dv.v K) [.str "integer", .str "integer"])
  d_ARGUMENTS_fork : ∃ a, PySem.W.nsIn K (ga K "ARGUMENTS") "fork" = some (some (.ref a)) ∧ ∀ H : Hp, SqT K H a (List.map (Dv.v K) [.str "integer"])
  d_ARGUMENTS_end : ∃ a, PySem.W.nsIn K (ga K "ARGUMENTS") "end" = some (some (.ref a)) ∧ ∀ H : Hp, SqT K H a (List.map (Dv.v K) [.str "integer"])
  d_ARGUMENTS_arrive : ∃ a, PySem.W.nsIn K (ga K "ARGUMENTS") "arrive" = some (some (.ref a)) ∧ ∀ H : Hp, SqT K H a (List.map (Dv.v K) [.str "integer", .str "integer", .str "integer"])
  d_ARGUMENTS_finish : ∃ a, PySem.W.nsIn K (ga K "ARGUMENTS") "finish" = some (some (.ref a)) ∧ ∀ H : Hp, SqT K H a (List.map (Dv.v K) [.str "integer", .str "integer"])
  d_ARGUMENTS_read : ∃ a, PySem.W.nsIn K (ga K "ARGUMENTS") "read" = some (some (.ref a)) ∧ ∀ H : Hp, SqT K H a (List.map (Dv.v K) [.str "integer", .str "integer", .str "optional"])
  d_ARGUMENTS_add : ∃ a, PySem.W.nsIn K (ga K "ARGUMENTS") "add" = some (some (.ref a)) ∧ ∀ H : Hp, SqT K H a (List.map (Dv.v K) [.str "integer", .str "integer", .str "integer", .str "integer", .str "word"])
  d_ARGUMENTS_change : ∃ a, PySem.W.nsIn K (ga K "ARGUMENTS") "change" = some (some (.ref a)) ∧ ∀ H : Hp, SqT K H a (List.map (Dv.v K) [.str "integer", .str "integer", .str "integer", .str "word"])
  d_ARGUMENTS_remove : ∃ a, PySem.W.nsIn K (ga K "ARGUMENTS") "remove" = some (some (.ref a)) ∧ ∀ H : Hp, SqT K H a (List.map (Dv.v K) [.str "integer", .str "integer", .str "integer"])
  d_ARGUMENTS_wait : ∃ a, PySem.W.nsIn K (ga K "ARGUMENTS") "wait" = some (some (.ref a)) ∧ ∀ H : Hp, SqT K H a (List.map (Dv.v K) [.str "integer", .str "integer", .str "integer"])
  d_ARGUMENTS_numbers : ∃ a, PySem.W.nsIn K (ga K "ARGUMENTS") "numbers" = some (some (.ref a)) ∧ ∀ H : Hp, SqT K H a (List.map (Dv.v K) [.str "integer"])
  d_ARGUMENTS_same : ∃ a, PySem.W.nsIn K (ga K "ARGUMENTS") "same" = some (some (.ref a)) ∧ ∀ H : Hp, SqT K H a (List.map (Dv.v K) [.str "integer", .str "integer", .str "integer", .str "integer"])
  d_ARGUMENTS_units : ∃ a, PySem.W.nsIn K (ga K "ARGUMENTS") "units" = some (some (.ref a)) ∧ ∀ H : Hp, SqT K H a (List.map (Dv.v K) [.str "integer", .str "integer"])
  g_BadText : mg "BadText" = some (.ref (ga K "BadText"))
  t_DIGITS : ∃ t, mg "DIGITS" = some (.str "0123456789" t)
  t_EDGE : ∃ t, mg "EDGE" = some (.str "edge" t)
  t_LEVEL : ∃ t, mg "LEVEL" = some (.str "level" t)
  i_MOST_DIGITS : ∃ t, mg "MOST_DIGITS" = some (.int 9 t)
  t_NOTHING : ∃ t, mg "NOTHING" = some (.str "-" t)
  t_ONCE : ∃ t, mg "ONCE" = some (.str "once" t)
  free_ValueError : mg "ValueError" = none
  g__law_bag : mg "_law_bag" = some (.ref (ga K "_law_bag"))
  g__law_bent : mg "_law_bent" = some (.ref (ga K "_law_bent"))
  g__law_is_call : mg "_law_is_call" = some (.ref (ga K "_law_is_call"))
  g__law_is_number : mg "_law_is_number" = some (.ref (ga K "_law_is_number"))
  g__law_line : mg "_law_line" = some (.ref (ga K "_law_line"))
  g__law_of : mg "_law_of" = some (.ref (ga K "_law_of"))
  g__law_refused : mg "_law_refused" = some (.ref (ga K "_law_refused"))
  g__law_take : mg "_law_take" = some (.ref (ga K "_law_take"))
  free_abs : mg "abs" = none
  free_all : mg "all" = none
  g_argument_in : mg "argument_in" = some (.ref (ga K "argument_in"))
  g_call_in : mg "call_in" = some (.ref (ga K "call_in"))
  free_enumerate : mg "enumerate" = none
  free_int : mg "int" = none
  g_is_argument : mg "is_argument" = some (.ref (ga K "is_argument"))
  g_is_number_text : mg "is_number_text" = some (.ref (ga K "is_number_text"))
  free_isinstance : mg "isinstance" = none
  g_law : mg "law" = some (.ref (ga K "law"))
  free_len : mg "len" = none
  free_list : mg "list" = none
  free_max : mg "max" = none
  free_min : mg "min" = none
  free_range : mg "range" = none
  g_read_call : mg "read_call" = some (.ref (ga K "read_call"))
  g_read_calls : mg "read_calls" = some (.ref (ga K "read_calls"))
  free_str : mg "str" = none
  free_zip : mg "zip" = none
  x_BadText : XT K "BadText" "ValueError" "ValueError.__new__" "ValueError.__init__" [.type "ValueError", .type "Exception", .type "BaseException", .type "object"] ["caption", "line"]
  o_BadText : PySem.W.mroIn K (ga K "BadText") (.type "object") = some true
  q_BadText_ValueError : PySem.W.kitOne K (.ref (ga K "BadText")) (.type "ValueError") = some true
  e_BadText_BadText : PySem.W.exmOne K (.ref (ga K "BadText")) (.ref (ga K "BadText")) = some true
  f_BadText___init__ : FD K "__init__" "BadText.__init__" s_BadText___init__ [] [] (mA "BadText" "__init__" K)
  f_is_number_text : FD K "is_number_text" "is_number_text" s_is_number_text [] [] (gA "is_number_text" K)
  f_is_argument : FD K "is_argument" "is_argument" s_is_argument [] [] (gA "is_argument" K)
  f_argument_in : FD K "argument_in" "argument_in" s_argument_in [] [] (gA "argument_in" K)
  f_call_in : FD K "call_in" "call_in" s_call_in [] [] (gA "call_in" K)
  f_read_call : FD K "read_call" "read_call" s_read_call [] [] (gA "read_call" K)
  f_read_calls : FD K "read_calls" "read_calls" s_read_calls [] [] (gA "read_calls" K)
  f__law_bag : FD K "_law_bag" "_law_bag" s__law_bag [] [] (gA "_law_bag" K)
  f__law_take : FD K "_law_take" "_law_take" s__law_take [] [] (gA "_law_take" K)
  f__law_of : FD K "_law_of" "_law_of" s__law_of [] [] (gA "_law_of" K)
  f__law_is_number : FD K "_law_is_number" "_law_is_number" s__law_is_number [] [] (gA "_law_is_number" K)
  f__law_is_call : FD K "_law_is_call" "_law_is_call" s__law_is_call [] [] (gA "_law_is_call" K)
  f__law_line : FD K "_law_line" "_law_line" s__law_line [] [] (gA "_law_line" K)
  f__law_bent : FD K "_law_bent" "_law_bent" s__law_bent [] [] (gA "_law_bent" K)
  f__law_refused : FD K "_law_refused" "_law_refused" s__law_refused [] [] (gA "_law_refused" K)
  f_law : FD K "law" "law" s_law [] [] (gA "law" K)
def fcL : List Fc := [
  .fa (.glo "ARGUMENTS"),
  .dko "ARGUMENTS" [("new_source" : Str), ("new_set" : Str), ("copy" : Str), ("close" : Str), ("fork" : Str), ("end" : Str), ("arrive" : Str), ("finish" : Str), ("read" : Str), ("add" : Str), ("change" : Str), ("remove" : Str), ("wait" : Str), ("numbers" : Str), ("same" : Str), ("units" : Str)],
  .dkt "ARGUMENTS" "new_source" [.str "integer"],
  .dkt "ARGUMENTS" "new_set" [.str "integer"],
  .dkt "ARGUMENTS" "copy" [.str "integer", .str "integer", .str "optional"],
  .dkt "ARGUMENTS" "close" [.str "integer", .str "integer"],
  .dkt "ARGUMENTS" "fork" [.str "integer"],
  .dkt "ARGUMENTS" "end" [.str "integer"],
  .dkt "ARGUMENTS" "arrive" [.str "integer", .str "integer", .str "integer"],
  .dkt "ARGUMENTS" "finish" [.str "integer", .str "integer"],
  .dkt "ARGUMENTS" "read" [.str "integer", .str "integer", .str "optional"],
  .dkt "ARGUMENTS" "add" [.str "integer", .str "integer", .str "integer", .str "integer", .str "word"],
  .dkt "ARGUMENTS" "change" [.str "integer", .str "integer", .str "integer", .str "word"],
  .dkt "ARGUMENTS" "remove" [.str "integer", .str "integer", .str "integer"],
  .dkt "ARGUMENTS" "wait" [.str "integer", .str "integer", .str "integer"],
  .dkt "ARGUMENTS" "numbers" [.str "integer"],
  .dkt "ARGUMENTS" "same" [.str "integer", .str "integer", .str "integer", .str "integer"],
  .dkt "ARGUMENTS" "units" [.str "integer", .str "integer"],
  .fa (.glo "BadText"),
  .fa (.str "DIGITS" "0123456789"),
  .fa (.str "EDGE" "edge"),
  .fa (.str "LEVEL" "level"),
  .fa (.int "MOST_DIGITS" 9),
  .fa (.str "NOTHING" "-"),
  .fa (.str "ONCE" "once"),
  .fa (.free "ValueError"),
  .fa (.glo "_law_bag"),
  .fa (.glo "_law_bent"),
  .fa (.glo "_law_is_call"),
  .fa (.glo "_law_is_number"),
  .fa (.glo "_law_line"),
  .fa (.glo "_law_of"),
  .fa (.glo "_law_refused"),
  .fa (.glo "_law_take"),
  .fa (.free "abs"),
  .fa (.free "all"),
  .fa (.glo "argument_in"),
  .fa (.glo "call_in"),
  .fa (.free "enumerate"),
  .fa (.free "int"),
  .fa (.glo "is_argument"),
  .fa (.glo "is_number_text"),
  .fa (.free "isinstance"),
  .fa (.glo "law"),
  .fa (.free "len"),
  .fa (.free "list"),
  .fa (.free "max"),
  .fa (.free "min"),
  .fa (.free "range"),
  .fa (.glo "read_call"),
  .fa (.glo "read_calls"),
  .fa (.free "str"),
  .fa (.free "zip"),
  .exc "BadText" [.type "ValueError", .type "Exception", .type "BaseException", .type "object"] "ValueError.__new__" ["caption", "line"],
  .mro "BadText",
  .sub "BadText" "ValueError" true,
  .fa (.exm "BadText" "BadText" true)]
def fwL : List DefW := [
  ⟨(mA "BadText" "__init__"), "__init__", "BadText.__init__", s_BadText___init__, [], []⟩,
  ⟨(gA "is_number_text"), "is_number_text", "is_number_text", s_is_number_text, [], []⟩,
  ⟨(gA "is_argument"), "is_argument", "is_argument", s_is_argument, [], []⟩,
  ⟨(gA "argument_in"), "argument_in", "argument_in", s_argument_in, [], []⟩,
  ⟨(gA "call_in"), "call_in", "call_in", s_call_in, [], []⟩,
  ⟨(gA "read_call"), "read_call", "read_call", s_read_call, [], []⟩,
  ⟨(gA "read_calls"), "read_calls", "read_calls", s_read_calls, [], []⟩,
  ⟨(gA "_law_bag"), "_law_bag", "_law_bag", s__law_bag, [], []⟩,
  ⟨(gA "_law_take"), "_law_take", "_law_take", s__law_take, [], []⟩,
  ⟨(gA "_law_of"), "_law_of", "_law_of", s__law_of, [], []⟩,
  ⟨(gA "_law_is_number"), "_law_is_number", "_law_is_number", s__law_is_number, [], []⟩,
  ⟨(gA "_law_is_call"), "_law_is_call", "_law_is_call", s__law_is_call, [], []⟩,
  ⟨(gA "_law_line"), "_law_line", "_law_line", s__law_line, [], []⟩,
  ⟨(gA "_law_bent"), "_law_bent", "_law_bent", s__law_bent, [], []⟩,
  ⟨(gA "_law_refused"), "_law_refused", "_law_refused", s__law_refused, [], []⟩,
  ⟨(gA "law"), "law", "law", s_law, [], []⟩]
def tsL : List Tab := [((fun K => ga K "ARGUMENTS"), ["new_source", "new_set", "copy", "close", "fork", "end", "arrive", "finish", "read", "add", "change", "remove", "wait", "numbers", "same", "units"])]
def tfL : List Defn := [("law", none)]
theorem tx_of {K : PySem.W.Frag} {mg : Str → Option Value} {w : World} {h : Heap} (X : K.In h) (G : h.Ns mainGlobals mg) (c : SaysW fcL fwL tsL tfL w h K) : Tx K mg where
  g_ARGUMENTS := glo_ok X G (c.fact 0 (f := .fa (.glo "ARGUMENTS")))
  o_ARGUMENTS := fun _ hz => dkoB_ok (c.fact 1 (f := .dko "ARGUMENTS" [("new_source" : Str), ("new_set" : Str), ("copy" : Str), ("close" : Str), ("fork" : Str), ("end" : Str), ("arrive" : Str), ("finish" : Str), ("read" : Str), ("add" : Str), ("change" : Str), ("remove" : Str), ("wait" : Str), ("numbers" : Str), ("same" : Str), ("units" : Str)])) hz
  d_ARGUMENTS_new_source := dktB_ok (c.fact 2 (f := .dkt "ARGUMENTS" "new_source" [.str "integer"]))
  d_ARGUMENTS_new_set := dktB_ok (c.fact 3 (f := .dkt "ARGUMENTS" "new_set" [.str "integer"]))
  d_ARGUMENTS_copy := dktB_ok (c.fact 4 (f := .dkt "ARGUMENTS" "copy" [.str "integer", .str "integer", .str "optional"]))
  d_ARGUMENTS_close := dktB_ok (c.fact 5 (f := .dkt "ARGUMENTS" "close" [.str "integer", .str "integer"]))
  d_ARGUMENTS_fork := dktB_ok (c.fact 6 (f := .dkt "ARGUMENTS" "fork" [.str "integer"]))
  d_ARGUMENTS_end := dktB_ok (c.fact 7 (f := .dkt "ARGUMENTS" "end" [.str "integer"]))
  d_ARGUMENTS_arrive := dktB_ok (c.fact 8 (f := .dkt "ARGUMENTS" "arrive" [.str "integer", .str "integer", .str "integer"]))
  d_ARGUMENTS_finish := dktB_ok (c.fact 9 (f := .dkt "ARGUMENTS" "finish" [.str "integer", .str "integer"]))
  d_ARGUMENTS_read := dktB_ok (c.fact 10 (f := .dkt "ARGUMENTS" "read" [.str "integer", .str "integer", .str "optional"]))
  d_ARGUMENTS_add := dktB_ok (c.fact 11 (f := .dkt "ARGUMENTS" "add" [.str "integer", .str "integer", .str "integer", .str "integer", .str "word"]))
  d_ARGUMENTS_change := dktB_ok (c.fact 12 (f := .dkt "ARGUMENTS" "change" [.str "integer", .str "integer", .str "integer", .str "word"]))
  d_ARGUMENTS_remove := dktB_ok (c.fact 13 (f := .dkt "ARGUMENTS" "remove" [.str "integer", .str "integer", .str "integer"]))
  d_ARGUMENTS_wait := dktB_ok (c.fact 14 (f := .dkt "ARGUMENTS" "wait" [.str "integer", .str "integer", .str "integer"]))
  d_ARGUMENTS_numbers := dktB_ok (c.fact 15 (f := .dkt "ARGUMENTS" "numbers" [.str "integer"]))
  d_ARGUMENTS_same := dktB_ok (c.fact 16 (f := .dkt "ARGUMENTS" "same" [.str "integer", .str "integer", .str "integer", .str "integer"]))
  d_ARGUMENTS_units := dktB_ok (c.fact 17 (f := .dkt "ARGUMENTS" "units" [.str "integer", .str "integer"]))
  g_BadText := glo_ok X G (c.fact 18 (f := .fa (.glo "BadText")))
  t_DIGITS := str_ok X G (c.fact 19 (f := .fa (.str "DIGITS" "0123456789")))
  t_EDGE := str_ok X G (c.fact 20 (f := .fa (.str "EDGE" "edge")))
  t_LEVEL := str_ok X G (c.fact 21 (f := .fa (.str "LEVEL" "level")))
  i_MOST_DIGITS := int_ok X G (c.fact 22 (f := .fa (.int "MOST_DIGITS" 9)))
  t_NOTHING := str_ok X G (c.fact 23 (f := .fa (.str "NOTHING" "-")))
  t_ONCE := str_ok X G (c.fact 24 (f := .fa (.str "ONCE" "once")))
  free_ValueError := free_ok X G (c.fact 25 (f := .fa (.free "ValueError")))
  g__law_bag := glo_ok X G (c.fact 26 (f := .fa (.glo "_law_bag")))
  g__law_bent := glo_ok X G (c.fact 27 (f := .fa (.glo "_law_bent")))
  g__law_is_call := glo_ok X G (c.fact 28 (f := .fa (.glo "_law_is_call")))
  g__law_is_number := glo_ok X G (c.fact 29 (f := .fa (.glo "_law_is_number")))
  g__law_line := glo_ok X G (c.fact 30 (f := .fa (.glo "_law_line")))
  g__law_of := glo_ok X G (c.fact 31 (f := .fa (.glo "_law_of")))
  g__law_refused := glo_ok X G (c.fact 32 (f := .fa (.glo "_law_refused")))
  g__law_take := glo_ok X G (c.fact 33 (f := .fa (.glo "_law_take")))
  free_abs := free_ok X G (c.fact 34 (f := .fa (.free "abs")))
  free_all := free_ok X G (c.fact 35 (f := .fa (.free "all")))
  g_argument_in := glo_ok X G (c.fact 36 (f := .fa (.glo "argument_in")))
  g_call_in := glo_ok X G (c.fact 37 (f := .fa (.glo "call_in")))
  free_enumerate := free_ok X G (c.fact 38 (f := .fa (.free "enumerate")))
  free_int := free_ok X G (c.fact 39 (f := .fa (.free "int")))
  g_is_argument := glo_ok X G (c.fact 40 (f := .fa (.glo "is_argument")))
  g_is_number_text := glo_ok X G (c.fact 41 (f := .fa (.glo "is_number_text")))
  free_isinstance := free_ok X G (c.fact 42 (f := .fa (.free "isinstance")))
  g_law := glo_ok X G (c.fact 43 (f := .fa (.glo "law")))
  free_len := free_ok X G (c.fact 44 (f := .fa (.free "len")))
  free_list := free_ok X G (c.fact 45 (f := .fa (.free "list")))
  free_max := free_ok X G (c.fact 46 (f := .fa (.free "max")))
  free_min := free_ok X G (c.fact 47 (f := .fa (.free "min")))
  free_range := free_ok X G (c.fact 48 (f := .fa (.free "range")))
  g_read_call := glo_ok X G (c.fact 49 (f := .fa (.glo "read_call")))
  g_read_calls := glo_ok X G (c.fact 50 (f := .fa (.glo "read_calls")))
  free_str := free_ok X G (c.fact 51 (f := .fa (.free "str")))
  free_zip := free_ok X G (c.fact 52 (f := .fa (.free "zip")))
  x_BadText := exc_okW PySem.F.excBase_ValueError PySem.F.store_ValueError (c.fact 53 (f := .exc "BadText" [.type "ValueError", .type "Exception", .type "BaseException", .type "object"] "ValueError.__new__" ["caption", "line"]))
  o_BadText := of_decide_eq_true (c.fact 54 (f := .mro "BadText"))
  q_BadText_ValueError := of_decide_eq_true (c.fact 55 (f := .sub "BadText" "ValueError" true))
  e_BadText_BadText := exm_ok (c.fact 56 (f := .fa (.exm "BadText" "BadText" true)))
  f_BadText___init__ := c.def_ 0 (d := ⟨(mA "BadText" "__init__"), "__init__", "BadText.__init__", s_BadText___init__, [], []⟩)
  f_is_number_text := c.def_ 1 (d := ⟨(gA "is_number_text"), "is_number_text", "is_number_text", s_is_number_text, [], []⟩)
  f_is_argument := c.def_ 2 (d := ⟨(gA "is_argument"), "is_argument", "is_argument", s_is_argument, [], []⟩)
  f_argument_in := c.def_ 3 (d := ⟨(gA "argument_in"), "argument_in", "argument_in", s_argument_in, [], []⟩)
  f_call_in := c.def_ 4 (d := ⟨(gA "call_in"), "call_in", "call_in", s_call_in, [], []⟩)
  f_read_call := c.def_ 5 (d := ⟨(gA "read_call"), "read_call", "read_call", s_read_call, [], []⟩)
  f_read_calls := c.def_ 6 (d := ⟨(gA "read_calls"), "read_calls", "read_calls", s_read_calls, [], []⟩)
  f__law_bag := c.def_ 7 (d := ⟨(gA "_law_bag"), "_law_bag", "_law_bag", s__law_bag, [], []⟩)
  f__law_take := c.def_ 8 (d := ⟨(gA "_law_take"), "_law_take", "_law_take", s__law_take, [], []⟩)
  f__law_of := c.def_ 9 (d := ⟨(gA "_law_of"), "_law_of", "_law_of", s__law_of, [], []⟩)
  f__law_is_number := c.def_ 10 (d := ⟨(gA "_law_is_number"), "_law_is_number", "_law_is_number", s__law_is_number, [], []⟩)
  f__law_is_call := c.def_ 11 (d := ⟨(gA "_law_is_call"), "_law_is_call", "_law_is_call", s__law_is_call, [], []⟩)
  f__law_line := c.def_ 12 (d := ⟨(gA "_law_line"), "_law_line", "_law_line", s__law_line, [], []⟩)
  f__law_bent := c.def_ 13 (d := ⟨(gA "_law_bent"), "_law_bent", "_law_bent", s__law_bent, [], []⟩)
  f__law_refused := c.def_ 14 (d := ⟨(gA "_law_refused"), "_law_refused", "_law_refused", s__law_refused, [], []⟩)
  f_law := c.def_ 15 (d := ⟨(gA "law"), "law", "law", s_law, [], []⟩)
section
variable {K : PySem.W.Frag} {mg : Str → Option Value}
end
/-! ### the head: the top is run -/
abbrev RwH : PySem.W.OpenRow := PySem.W.OpenLaw.row PySem.Challenge.rw_waitnumbers_k26_texts_refused
abbrev hk : PySem.W.Hook := hookW 6 fcL fwL tsL tfL
def obs (s : PySem.W.SharedT) : AlW := obsW 6 fcL fwL tsL tfL (HandSHeadRun.getT s)
theorem obs_eq (s : PySem.W.SharedT) : obs s = hk.obs s.abs := obsW_eq (HandSHeadRun.getT_eq s)
def loose0 : List Str := ["__name__", "BadText", "LEVEL", "EDGE", "ONCE", "ARGUMENTS", "DIGITS", "MOST_DIGITS", "NOTHING", "is_number_text", "is_argument", "argument_in", "call_in", "read_call", "read_calls", "_law_bag", "_law_take", "_law_of", "_law_is_number", "_law_is_call", "_law_line", "_law_bent", "_law_refused"]
def loose : List Str := loose0
theorem run_lst_false : RunB RwH 60000 false (fun w s => (lookP RwH w s, seenP RwH (PySem.W.view RwH.prog [25]) loose w s, tbP 6 tsL tfL w s)) (fun w => (true, PySem.W.openGood (PySem.W.view RwH.prog [25]) loose, (valT [] tsL w, true))) := by
  intro w os
  kernel_rfl
theorem run_lst_true : RunB RwH 60000 true (fun w s => (lookP RwH w s, seenP RwH (PySem.W.view RwH.prog [25]) loose w s, tbP 6 tsL tfL w s)) (fun w => (true, PySem.W.openGood (PySem.W.view RwH.prog [25]) loose, (valT [] tsL w, true))) := by
  intro w os
  kernel_rfl
theorem run_lst : RunP RwH 60000 (fun w s => (lookP RwH w s, seenP RwH (PySem.W.view RwH.prog [25]) loose w s, tbP 6 tsL tfL w s)) (fun w => (true, PySem.W.openGood (PySem.W.view RwH.prog [25]) loose, (valT [] tsL w, true))) := RunB.both run_lst_false run_lst_true
theorem run_look : RunP RwH 60000 (lookP RwH) (fun _ => true) := run_lst.map fun _ p => p.1
theorem run_seen : RunP RwH 60000 (seenP RwH (PySem.W.view RwH.prog [25]) loose) (fun _ => PySem.W.openGood (PySem.W.view RwH.prog [25]) loose) := run_lst.map fun _ p => p.2.1
theorem run_tab : RunP RwH 60000 (tbP 6 tsL tfL) (fun w => (valT [] tsL w, true)) := run_lst.map fun _ p => p.2.2
theorem run_fc0_false : RunB RwH 60000 false (fcP 6 fcL) (fun _ => true) := by
  intro w os
  kernel_rfl
theorem run_fc0_true : RunB RwH 60000 true (fcP 6 fcL) (fun _ => true) := by
  intro w os
  kernel_rfl
theorem run_fc0 : RunP RwH 60000 (fcP 6 fcL) (fun _ => true) := RunB.both run_fc0_false run_fc0_true
theorem run_fw0_false : RunB RwH 60000 false (fwP 6 fwL) (fun _ => (true, (fwL).map DefW.val)) := by
  intro w os
  kernel_rfl
theorem run_fw0_true : RunB RwH 60000 true (fwP 6 fwL) (fun _ => (true, (fwL).map DefW.val)) := by
  intro w os
  kernel_rfl
theorem run_fw0 : RunP RwH 60000 (fwP 6 fwL) (fun _ => (true, (fwL).map DefW.val)) := RunB.both run_fw0_false run_fw0_true
theorem run (w : World) : HandSHeadRun.RunEq RwH (PySem.W.view RwH.prog [25]) hk obs 60000 loose w := run_of (H := hk) run_look run_seen (ob_of run_tab run_fc0 run_fw0) w
/-! ### raise C(e) at the law's level -/
section
variable {P : Program} {w : World} {K : PySem.W.Frag} {mg : Str → Option Value} {base : Heap}
theorem ei_BadText (T : Tx K mg) : FnOk P w K mg base CX0 1 (mA "BadText" "__init__" K) (fdAt K (mA "BadText" "__init__" K)) ["self", "line"] (spErr (ga K "BadText") "line" "BadText") :=
  err_init T.x_BadText T.f_BadText___init__ ⟨rfl, rfl, rfl, by decide +kernel, rfl, by decide +kernel, by decide +kernel⟩ rfl ⟨by decide, by decide⟩ ⟨by decide, by decide⟩ (fun _ => ⟨rfl, rfl⟩) ⟨.inl rfl, .inl rfl⟩
theorem eb_BadText (T : Tx K mg) : Binds K (fdAt K (mA "BadText" "__init__" K)) ["self", "line"] [] := FunD.bindsN T.f_BadText___init__ fun _ _ _ _ _ _ us hl => match us, hl with | [_, _], _ => rfl
end
def sErr (c f : Str) (m : ME) : MS := fun ρ μ => (m ρ μ).bind fun v μ => .er c [(f, v), ("caption", .str c)] μ
section
variable {X : Cx} {E : XK} {e : Expr} {me : ME} {f : Str} {p pos pos' : Pos} {CX : CXT} {x C : Str} {k : Nat} {fd : FuncData} {B nw it : String} {bm : List Value} {fs : List Str}
theorem pms_err (hc : X.calm = true) (tk : Takes X (fun cls d _ H => E cls d H)) (T : XT X.K C B nw it bm fs) (F1 : FnOk X.prog X.w X.K X.mg X.base CX k (mA C "__init__" X.K) fd ["self", f] (spErr (ga X.K C) f C)) (hr : Room (k + 1) X.A) (hb : Binds X.K fd ["self", f] []) (hx : Passes CX X (fun _ _ _ => False))
    (hg : Gl X x) (hm : X.mg x = some (.ref (ga X.K C))) (he : PM X E e me) (hdb : (x == ("__debug__" : Str)) = false := by decide) (hst : starEach [e] X.env = [(false, eval e X.env)] := by rfl) :
    PMS X E (.Raise (some (.Call (.Name x p) [e] [] pos)) none pos') (sErr C f me) :=
  PS.imp (ps_raise hc tk (pmk_err T F1 hr hb hx hg hm he hdb hst)) fun D σ H ⟨w, ρ, μ, S, EN, hp⟩ => ⟨w, ρ, μ, S, EN, PostS.bind hp fun v μ1 w1 H1 u1 S1 r1 g1 h1 => fun d hd => by
    have e1 : Same H1 (upd H1 d (.xd [(f, u1), ("caption", .str C)])) := fun b o hb => by
      rw [upd_ne (fun z => by rw [z, hd] at hb; cases hb)]
      exact hb
    obtain ⟨S2, g2⟩ := S1.same e1
    have r2 : VRs X.K w1.ad μ1.nx H1 [v, .str C] [u1, .str C] := .cons r1 (.cons (.str _) .nil)
    exact h1 w1 _ d _ S2 g2 upd_same rfl (r2.grow g2)⟩
end
/-! ### defs that raise: their errors go on to who asks -/
def spX (K : PySem.W.Frag) (n : Nat) (d : List Val → Mu → R Val) : Sp := fun vs H Q E => vs.length = n ∧ ∃ w μ args, Sim K w μ H ∧ VRs K w.ad μ.nx H args vs ∧ Post K (relE K) E w μ.nx H Q (d args μ)
section
variable {P : Program} {w : World} {K : PySem.W.Frag} {mg : Str → Option Value} {base : Heap} {x qual : Str} {params : Arguments} {body : List Stmt} {scope : Scope} {dvs : List V} {kws : List (Str × V)} {f : Addr} {fd : FuncData}
theorem okX {N ps : List Str} {k n N' : Nat} {m : MS} (F : FunD K x qual params body scope dvs kws f fd) (Sc : FnScope N ps scope) (hn : n = ps.length) (hN : N' = N.length)
    (hbody : ∀ (cdv : Value) (A : Around) (outer : List Env) (s : Shared) (H : Hp) (E : XK), Room k (A.deeper (envOfC qual scope s.heap.objs.size f cdv)) → PMSs (cxOf (L2.CX P w) P w K mg base N qual scope f cdv A outer s H E) E body m) :
    FnOk P w K mg base (L2.CX P w) (k + 1) f fd ps (spX K n (runM n N' m)) := by
  subst hn hN
  refine FunD.ok F Sc (fun vs H Q E h => h.1) (fun cdv A outer s H vs Q E hr h => ?_)
  obtain ⟨hl, w', μ, args, S, r, hp⟩ := h
  refine ⟨_, hbody cdv A outer s H E hr, w', startV N.length args, μ, S, EnvR.start r, ?_⟩
  unfold runM at hp
  rw [if_pos (by rw [← r.length]; exact hl)] at hp
  show PostS K E w' μ.nx H _ (m (startV N.length args) μ)
  cases hm : m (startV N.length args) μ with
  | no => rw [hm] at hp; exact hp
  | er c fs μ1 => rw [hm] at hp; exact hp
  | ok a μ1 =>
    rw [hm] at hp
    cases a with
    | nx ρ => exact fun w1 H1 σ1 S1 EN1 g1 => hp w1 H1 _ S1 .non g1
    | rt v => exact fun w1 H1 u S1 r1 g1 => hp w1 H1 u S1 r1 g1
    | bk ρ => exact hp.elim
    | ct ρ => exact hp.elim
theorem okO {N ps : List Str} {k n N' : Nat} {m : MS} (F : FunD K x qual params body scope dvs kws f fd) (Sc : FnScope N ps scope) (hn : n = ps.length) (hN : N' = N.length)
    (hbody : ∀ (cdv : Value) (A : Around) (outer : List Env) (s : Shared) (H : Hp), Room k (A.deeper (envOfC qual scope s.heap.objs.size f cdv)) → PMSs (cxOf CX0 P w K mg base N qual scope f cdv A outer s H E0').nox E0' body m) :
    FnOk P w K mg base CX0 (k + 1) f fd ps (spM K n (runM n N' m)) := by
  subst hn hN
  refine FunD.ok F Sc (fun vs H Q E h => h.1) (fun cdv A outer s H vs Q E hr h => ?_)
  obtain ⟨hl, w', μ, args, S, r, hp⟩ := h
  refine ⟨_, PSs.nox (hbody cdv A outer s H hr), w', startV N.length args, μ, S, EnvR.start r, ?_⟩
  unfold runM at hp
  rw [if_pos (by rw [← r.length]; exact hl)] at hp
  show PostS K E0' w' μ.nx H _ (m (startV N.length args) μ)
  cases hm : m (startV N.length args) μ with
  | no => rw [hm] at hp; exact hp
  | er c fs μ1 => rw [hm] at hp; exact hp
  | ok a μ1 =>
    rw [hm] at hp
    cases a with
    | nx ρ => exact fun w1 H1 σ1 S1 EN1 g1 => hp w1 H1 _ S1 .non g1
    | rt v => exact fun w1 H1 u S1 r1 g1 => hp w1 H1 u S1 r1 g1
    | bk ρ => exact hp.elim
    | ct ρ => exact hp.elim
end
def mCallX (n : Nat) (d : List Val → Mu → R Val) (m : MA) : ME := fun ρ μ => (m ρ μ).bind fun xs μ => if xs.length = n then d xs μ else .no
section
variable {X : Cx} {E : XK} {k n : Nat} {f : Addr} {fd : FuncData} {ps : List Str} {d : List Val → Mu → R Val} {x : Str} {p pos : Pos} {e : Expr} {es : List Expr} {mr : MA}
theorem pm_callX (F : FnOk X.prog X.w X.K X.mg X.base (L2.CX X.prog X.w) k f fd ps (spX X.K n d)) (hr : Room k X.A) (hg : Gl X x) (hm : X.mg x = some (.ref f)) (hk : PySem.W.keepIn X.K (.ref f) = true) (hb : Binds X.K fd ps []) (hx : Passes (L2.CX X.prog X.w) X E)
    (ha : PMA X E (e :: es) mr) (hdb : (x == ("__debug__" : Str)) = false := by decide) (he : starEach (e :: es) X.env = (false, eval e X.env) :: starEach es X.env := by rfl) (hpl : (backTo pos (starEach es X.env)).any (·.1) = false := by rfl) :
    PM X E (.Call (.Name x p) (e :: es) [] pos) (mCallX n d mr) :=
  PE.imp (pe_call F hr hg hm hk hb .nil (E := E) hx ha hdb he hpl) fun σ H Q ⟨w, ρ, μ, S, EN, hp⟩ => ⟨w, ρ, μ, S, EN, Post.bind hp fun xs μ1 w1 H1 us S1 r1 g1 h1 => by
    split at h1
    · rename_i hl
      rw [List.append_nil]
      exact ⟨r1.length.trans hl, w1, μ1, xs, S1, r1, h1⟩
    · exact h1.elim⟩
theorem pm_callO (F : FnOk X.prog X.w X.K X.mg X.base CX0 k f fd ps (spM X.K n d)) (hr : Room k X.A) (hg : Gl X x) (hm : X.mg x = some (.ref f)) (hk : PySem.W.keepIn X.K (.ref f) = true) (hb : Binds X.K fd ps [])
    (ha : PMA X E (e :: es) mr) (hdb : (x == ("__debug__" : Str)) = false := by decide) (he : starEach (e :: es) X.env = (false, eval e X.env) :: starEach es X.env := by rfl) (hpl : (backTo pos (starEach es X.env)).any (·.1) = false := by rfl) :
    PM X E (.Call (.Name x p) (e :: es) [] pos) (mCall n d mr) :=
  PE.imp (pe_call F hr hg hm hk hb .nil (E := E0') (pass0) ha hdb he hpl) fun σ H Q ⟨w, ρ, μ, S, EN, hp⟩ => ⟨w, ρ, μ, S, EN, Post.bind hp fun xs μ1 w1 H1 us S1 r1 g1 h1 => by
    split at h1
    · rename_i hl
      rw [List.append_nil]
      refine ⟨r1.length.trans hl, w1, μ1, xs, S1, r1, ?_⟩
      cases hd : d xs μ1 with
      | no => rw [hd] at h1; exact h1
      | er c fs μ2 => rw [hd] at h1; exact h1.elim
      | ok a μ2 => rw [hd] at h1; exact h1
    · exact h1.elim⟩
end

/-! ### texts at the law's level: str(x), sep.join(..) -/
/-- str of a number or a text -/
def strM : List Val → Mu → R Val
  | [.int i], μ => if i.natAbs ≤ 1000000000000000000000 then .ok (.str (toString i)) μ else .no
  | [.str a], μ => .ok (.str a) μ
  | _, _ => .no
theorem log2_small {n : Nat} (h : n ≤ 1000000000000000000000) : n.log2 < 1920 := by
  by_cases z : n = 0
  · subst z; decide
  · exact (Nat.log2_lt z).mpr (Nat.lt_of_le_of_lt h (Nat.lt_of_lt_of_le (show 1000000000000000000000 < 2 ^ 80 by decide) (Nat.pow_le_pow_right (by decide) (by decide))))
theorem call_strIS {X : Cx} : CallR X (.type "str") (fun xs H Q => (∃ i, xs = [.int i] ∧ i.natAbs.log2 < 1920 ∧ Q (.str (toString i)) H) ∨ ∃ a, xs = [.str a] ∧ Q (.str a) H) := fun pins s σ H vs us Q I r h => by
  rcases h with h | h
  · exact call_str_int pins s σ H vs us Q I r h
  · obtain ⟨a, rfl, q⟩ := h
    cases r with
    | cons r1 r2 =>
      cases r2
      obtain ⟨t, rfl⟩ := _root_.id r1
      exact PySem.P.str_of_str ⟨.str a, H, I, ⟨t, rfl⟩, q⟩
theorem p_str {K : PySem.W.Frag} : PrimA K (fun xs H Q => (∃ i : Int, xs = [.int i] ∧ i.natAbs.log2 < 1920 ∧ Q (.str (toString i)) H) ∨ ∃ a, xs = [.str a] ∧ Q (.str a) H) strM := by
  intro E w μ H xs us Q S r hp
  unfold strM at hp
  split at hp
  · cases r with
    | cons r1 r2 =>
      cases r2
      cases r1
      split at hp
      · rename_i hi
        exact .inl ⟨_, rfl, log2_small hi, hp w H _ S (.str _) .refl⟩
      · exact hp.elim
  · cases r with
    | cons r1 r2 =>
      cases r2
      cases r1
      exact .inr ⟨_, rfl, hp w H _ S (.str _) .refl⟩
  · exact hp.elim
/-- texts alone -/
def jStrV : List Val → Option (List Str)
  | [] => some []
  | .str a :: vs => (jStrV vs).map (a :: ·)
  | _ :: _ => none
theorem jStrV_rel {K : PySem.W.Frag} {ad : Adr} {b : Nat} {H : Hp} : ∀ {vs : List Val} {us : List V} {ys : List Str}, jStrV vs = some ys → VRs K ad b H vs us → us = ys.map V.str
  | [], _, _, h, r => by cases h; cases r; rfl
  | v :: vs, us, ys, h, r => by
    cases r with
    | cons r1 r2 =>
      cases v with
      | str a =>
        obtain ⟨zs, h1, rfl⟩ := Option.map_eq_some_iff.mp (show (jStrV vs).map (a :: ·) = some ys from h)
        cases r1
        rw [jStrV_rel h1 r2]
        rfl
      | _ => cases h
def joinFitM (a : Str) (ys : List Str) : Prop := (ys.map (·.length)).sum + ys.length * a.length ≤ 16777216
instance (a : Str) (ys : List Str) : Decidable (joinFitM a ys) := by unfold joinFitM; infer_instance
/-- what a list or a tuple holds -/
def jItsV : Val → Mu → Option (List Val)
  | .tup vs, _ => some vs
  | .loc n, μ => seqOf μ n
  | _, _ => none
def joinR : Val → Val → Mu → R Val
  | .str a, y, μ => match (jItsV y μ).bind jStrV with
    | some ys => if joinFitM a ys then .ok (.str (Txt.join a ys)) μ else .no
    | none => .no
  | _, _, _ => .no
theorem jItsV_rel {K : PySem.W.Frag} {w : Wt} {μ : Mu} {H : Hp} (S : Sim K w μ H) {y : Val} {u : V} {vs : List Val} (h : jItsV y μ = some vs) (r : VR K w.ad μ.nx H y u) : ∃ p us, u = .ref p ∧ (SqL K H p us ∨ SqT K H p us) ∧ VRs K w.ad μ.nx H vs us := by
  cases y with
  | tup l =>
    cases h
    obtain ⟨a, us, rfl, hq, rq⟩ := vr_tup r
    exact ⟨a, us, rfl, .inr hq, rq⟩
  | loc n =>
    obtain ⟨us, hq, rq⟩ := seqOf_sq S h
    cases r
    exact ⟨_, us, rfl, .inl hq, rq⟩
  | _ => cases h
section
variable {X : Cx} {E : XK} {o e : Expr} {mo me : ME}
theorem pm_join {apos pos : Pos} {a : Str} (ho : PM X E o (mC (.str a))) (he : PM X E e me) (hs : starEach [e] X.env = [(false, eval e X.env)] := by rfl) (hbase : attributeBase o "join" X.env (eval o X.env) = eval o X.env := by rfl) (hline : (apos.endLine == pos.line) = true := by rfl) :
    PM X E (.Call (.Attribute o "join" apos) [e] [] pos) (mOp joinR (mC (.str a)) me) :=
  PE.imp (pe_join ho he hs hbase hline) fun σ H Q ⟨w, ρ, μ, S, EN, hp⟩ => ⟨w, ρ, μ, S, EN, fun w1 H1 u1 S1 r1 g1 => by
    have h1 := Post.grow (show Post X.K (relE X.K) E w μ.nx H Q ((me ρ μ).bind fun y μ => joinR (.str a) y μ) from hp) g1
    cases r1
    refine ⟨⟨a, rfl⟩, w1, ρ, μ, S1, EN.grow g1, Post.bind h1 fun y μ2 w2 H2 u2 S2 r2 g2 h2 => ?_⟩
    have h3 : Post X.K (relE X.K) E w2 μ2.nx H2 Q (match (jItsV y μ2).bind jStrV with
      | some ys => if joinFitM a ys then .ok (.str (Txt.join a ys)) μ2 else .no
      | none => .no) := h2
    cases hy : (jItsV y μ2).bind jStrV with
    | none =>
      rw [hy] at h3
      exact h3.elim
    | some ys =>
      rw [hy] at h3
      obtain ⟨vs, e1, e2⟩ := Option.bind_eq_some_iff.mp hy
      obtain ⟨p, us, rfl, hq, rq⟩ := jItsV_rel S2 e1 r2
      have eu := jStrV_rel e2 rq
      subst eu
      by_cases hf : joinFitM a ys
      · have h4 : Post X.K (relE X.K) E w2 μ2.nx H2 Q (.ok (.str (Txt.join a ys)) μ2) := by
          have h5 : Post X.K (relE X.K) E w2 μ2.nx H2 Q (if joinFitM a ys then .ok (.str (Txt.join a ys)) μ2 else .no) := h3
          rw [if_pos hf] at h5
          exact h5
        exact ⟨a, p, ys, rfl, rfl, hq, hf, h4 w2 H2 _ S2 (.str _) .refl⟩
      · have h5 : Post X.K (relE X.K) E w2 μ2.nx H2 Q (if joinFitM a ys then .ok (.str (Txt.join a ys)) μ2 else .no) := h3
        rw [if_neg hf] at h5
        exact h5.elim⟩
end

/-! ### places of a list (as in P204) -/
/-! ### a def bound by names alone (as in P61) -/
section
variable {K : PySem.W.Frag}
end

/-! ### a def at the law's level that is called by keywords alone -/
section
variable {X : Cx} {E : XK} {CX : CXT} {k n nn : Nat} {f : Addr} {fd : FuncData} {ps ks : List Str} {sp : Sp} {x : Str} {p pos : Pos} {kws : List Keyword} {tk : TA} {g : List Value → List Value → List Value} {gV : List V → List V → List V} {mk : MA} {d : List Val → Mu → R Val}
end
section
variable {K : PySem.W.Frag} {mg : Str → Option Value}
end

/-! ### more of texts at the law's level: split, int(text), text[i], the signs of a text -/
theorem vrs_strs {K : PySem.W.Frag} {ad : Adr} {b : Nat} {H : Hp} : ∀ l : List Str, VRs K ad b H (l.map Val.str) (l.map V.str)
  | [] => .nil
  | a :: l => .cons (.str a) (vrs_strs l)
def splM (b : Str) : Val → Mu → R Val
  | .str a, μ => if a.length ≤ 1000000 ∧ (b.length == 0) = false then .ok (.loc μ.nx) (μ.new (.lst ((Txt.split a b).map Val.str))) else .no
  | _, _ => .no
def intSM : List Val → Mu → R Val
  | [.str a], μ => match PySem.intText? a with
    | some n => if a.length ≤ 640 then .ok (.int n) μ else .no
    | none => .no
  | _, _ => .no
theorem p_intS {K : PySem.W.Frag} : PrimA K (fun xs H Q => ∃ a n, xs = [.str a] ∧ PySem.intText? a = some n ∧ a.length ≤ 640 ∧ Q (.int n) H) intSM := by
  intro E w μ H xs us Q S r hp
  unfold intSM at hp
  split at hp
  · cases r with
    | cons r1 r2 =>
      cases r2
      cases r1
      split at hp
      · rename_i n hn
        split at hp
        · rename_i hl
          exact ⟨_, n, rfl, hn, hl, hp w H _ S (.int _) .refl⟩
        · exact hp.elim
      · exact hp.elim
  · exact hp.elim
/-- a sign as a text -/
def sgn (c : Nat) : Str := ⟨#[c]⟩
def ixSM : Val → Val → Mu → R Val
  | .str z, .int i, μ => match z.cps[i.toNat]? with
    | some c => if 0 ≤ i ∧ i < z.length ∧ z.length ≤ 1000000 then .ok (.str (sgn c)) μ else .no
    | none => .no
  | _, _, _ => .no
def inSgM : Val → Val → Mu → R Val
  | .str x, .str z, μ => match x.cps.toList with
    | [c] => .ok (.bl (decide (c ∈ z.cps.toList))) μ
    | _ => .no
  | _, _, _ => .no
/-- the signs of a text, as texts -/
def sgns (x : Str) : List Val := x.cps.toList.map fun c => .str (sgn c)
def iStrM (m : ME) : MI := fun ρ μ => (m ρ μ).bind fun v μ => match v with
  | .str x => .ok (.seq (.tup (sgns x))) μ
  | _ => .no
theorem relI_str {K : PySem.W.Frag} {w : Wt} {b : Nat} {H : Hp} {x : Str} : relI K w b H (.seq (.tup (sgns x))) (Its x) := by
  intro w' μ' H' g S vs hv i
  have hv : some (sgns x) = some vs := hv
  cases hv
  have e : (sgns x)[i]? = (x.cps[i]?).map fun c => .str (sgn c) := by
    unfold sgns
    rw [List.getElem?_map, Array.getElem?_toList]
  rw [e]
  refine ⟨fun h => ?_, fun v h => ?_⟩
  · have h := Option.map_eq_none_iff.mp h
    exact Array.getElem?_eq_none_iff.mp h
  · obtain ⟨c, h1, rfl⟩ := Option.map_eq_some_iff.mp h
    refine ⟨(Array.getElem?_eq_some_iff.mp h1).1, fun y H2 q => ?_⟩
    obtain ⟨rfl, c', h2, rfl⟩ := q
    rw [h1] at h2
    cases h2
    exact ⟨w', S, .str _, .refl⟩
section
variable {X : Cx} {E : XK} {o e tg a b : Expr} {mo me ma mb : ME} {pos : Pos}
theorem pmi_str (h : PM X E e me) : PMI X E tg e (iStrM me) :=
  PI.imp (pi_str h) fun σ H R ⟨w, ρ, μ, S, EN, hp⟩ => ⟨w, ρ, μ, S, EN, Post.bind hp fun x μ1 w1 H1 u1 S1 r1 g1 h1 => by
    cases x with
    | str x =>
      cases r1
      exact ⟨x, rfl, h1 w1 H1 _ S1 relI_str .refl⟩
    | _ => exact h1.elim⟩
theorem pm_split {apos pos : Pos} {z : Str} (ho : PM X E o mo) (he : PM X E e (mC (.str z))) (hs : starEach [e] X.env = [(false, eval e X.env)] := by rfl) (hbase : attributeBase o "split" X.env (eval o X.env) = eval o X.env := by rfl) (hline : (apos.endLine == pos.line) = true := by rfl) :
    PM X E (.Call (.Attribute o "split" apos) [e] [] pos) (mUn (splM z) mo) :=
  PE.imp (pe_split ho he hs hbase hline) fun σ H Q ⟨w, ρ, μ, S, EN, hp⟩ => ⟨w, ρ, μ, S, EN, Post.bind hp fun x μ1 w1 H1 u1 S1 r1 g1 h1 => by
    cases x with
    | str a =>
      cases r1
      refine ⟨⟨a, rfl⟩, w1, ρ, μ1, S1, EN.grow g1, fun w2 H2 u2 S2 r2 g2 => ?_⟩
      cases r2
      have h2 := Post.grow h1 g2
      by_cases hc : a.length ≤ 1000000 ∧ (z.length == 0) = false
      · have h3 : Post X.K (relE X.K) E w2 μ1.nx H2 Q (if a.length ≤ 1000000 ∧ (z.length == 0) = false then .ok (.loc μ1.nx) (μ1.new (.lst ((Txt.split a z).map Val.str))) else .no) := h2
        rw [if_pos hc] at h3
        refine ⟨a, z, rfl, rfl, hc.2, by have : sizeLine = 16777216 := by decide
                                         omega, fun p np => ?_⟩
        obtain ⟨w4, S4, g4, e4⟩ := S2.newL np (vrs_strs (Txt.split a z))
        exact h3 w4 _ _ S4 (by rw [← e4]; exact VR.loc (Nat.lt_succ_self _)) g4
      · have h3 : Post X.K (relE X.K) E w2 μ1.nx H2 Q (if a.length ≤ 1000000 ∧ (z.length == 0) = false then .ok (.loc μ1.nx) (μ1.new (.lst ((Txt.split a z).map Val.str))) else .no) := h2
        rw [if_neg hc] at h3
        exact h3.elim
    | _ => exact h1.elim⟩
theorem pm_ixS (ha : PM X E a ma) (hb : PM X E b mb) (hs : PlainIxT b := by exact fun _ _ => rfl) : PM X E (.Subscript a b pos) (mOp ixSM ma mb) :=
  PE.imp (pe_item_str ha hb hs) fun σ H Q ⟨w, ρ, μ, S, EN, hp⟩ => ⟨w, ρ, μ, S, EN, Post.bind hp fun x μ1 w1 H1 u1 S1 r1 g1 h1 => ⟨w1, ρ, μ1, S1, EN.grow g1, Post.bind h1 fun y μ2 w2 H2 u2 S2 r2 g2 h2 => by
    have r1 := VR.grow g2 r1
    unfold ixSM at h2
    split at h2
    · rename_i z i μ'
      cases r1
      cases r2
      split at h2
      · rename_i c hc
        split at h2
        · rename_i hl
          exact ⟨z, i, c, rfl, rfl, hl.1, by omega, hl.2.1, hc, h2 w2 H2 _ S2 (.str _) .refl⟩
        · exact h2.elim
      · exact h2.elim
    · exact h2.elim⟩⟩
theorem c_inSg : CmpP X .In inSgM := by
  refine ⟨_, op_in_sign, ?_⟩
  intro E w μ H x y u v Q S r1 r2 hp
  unfold inSgM at hp
  split at hp
  · rename_i x z
    cases r1
    cases r2
    split at hp
    · rename_i c hc
      have ex : x = ⟨#[c]⟩ := by
        cases x with
        | mk cps =>
          have : cps = #[c] := by rw [← Array.toList_inj]; exact hc
          rw [this]
      subst ex
      exact ⟨c, z, rfl, rfl, hp w H _ S (.bl _) .refl⟩
    · exact hp.elim
  · exact hp.elim
end

/-! ### ARGUMENTS.get(word, x) at the law's level, for any word (as P931, with the fact that there are no other keys) -/
section
variable {X : Cx} {o e f : Expr} {apos cpos : Pos} {td ty tx : TE} {d : Addr} {es : Array DictEntry} {n : Nat}
theorem pe_dget2K (D : KDict X.K X.w d es n) (ho : PE X o td) (he : PE X e ty) (hf : PE X f tx) (m : M2 X o "get" apos e f cpos) : PE X (.Call (.Attribute o "get" apos) [e, f] [] cpos)
    (fun σ H Q => td σ H fun x H1 => x = .ref d ∧ ty σ H1 fun y H2 => tx σ H2 fun z H3 => ∃ k : Str, y = .str k ∧ ((∃ (u0 : Value) (v0 : V), PySem.W.nsIn X.K d k = some (some u0) ∧ RelV v0 u0 ∧ Q v0 H3) ∨ (PySem.W.nsIn X.K d k = some none ∧ Q z H3))) := by
  refine ⟨fun pins s σ H Q I h => ?_⟩
  refine wpAny_Call_method m.base m.few m.line PySem.F.plainAttrs_dict PySem.F.slot_dict_get PySem.F.type_dict_get (thn (ho.run pins s σ H _ I h) fun u s1 ⟨x, H1, I1, rx, ex, q1⟩ => ?_)
  subst ex
  obtain rfl : u = Value.ref d := rx
  refine ⟨kd_type D I1, (fun _ e => by cases e; exact ⟨_, I1.kIn _ _ D.at_, rfl⟩), ?_⟩
  rw [m.trees]
  refine Calls.callWith_builtin rfl (Calls.evalArgs_plain (Calls.spliced_cons (thn (he.run pins s1 σ H1 _ I1 q1) fun iv s2 ⟨y, H2, I2, ry, q2⟩ =>
    Calls.spliced_cons (thn (hf.run pins s2 σ H2 _ I2 q2) fun fv s3 ⟨z, H3, I3, rz, k, ey, q3⟩ => Calls.spliced_nil ?_))))
  subst ey
  obtain ⟨t, rfl⟩ := ry
  refine call_meetsIn PySem.F.slot_dict_get (kd_type D I3) PySem.F.entry_dict_get (PySem.F.args_dict_get_3 _ _ _) (meets_dict_get_default (PySem.strKind X.prog X.w) d (PySem.strKind_is X.prog X.w k t) D.low fv) ⟨_, PySem.W.mapOf_K (prog := X.prog) I3.kIn D.at_ D.lit, ?_⟩
  rcases q3 with ⟨u0, v0, hk, hv, q3⟩ | ⟨hk, q3⟩
  · rw [PySem.W.find_K D.at_ hk]
    exact ⟨v0, H3, I3.tok _, hv, q3⟩
  · rw [PySem.W.find_K D.at_ hk]
    exact ⟨z, H3, I3.tok _, rz, q3⟩
end
def KND : List (Str × List Str) := [("new_source", ["integer"]), ("new_set", ["integer"]), ("copy", ["integer", "integer", "optional"]), ("close", ["integer", "integer"]), ("fork", ["integer"]), ("end", ["integer"]), ("arrive", ["integer", "integer", "integer"]),
  ("finish", ["integer", "integer"]), ("read", ["integer", "integer", "optional"]), ("add", ["integer", "integer", "integer", "integer", "word"]), ("change", ["integer", "integer", "integer", "word"]), ("remove", ["integer", "integer", "integer"]), ("wait", ["integer", "integer", "integer"]),
  ("numbers", ["integer"]), ("same", ["integer", "integer", "integer", "integer"]), ("units", ["integer", "integer"])]
def kndOf (z : Str) : Option (List Str) := (KND.find? fun p => decide (p.1 = z)).map (·.2)
def ArgD (K : PySem.W.Frag) (w : World) : Prop := ∃ es n, KDict K w (ga K "ARGUMENTS") es n
section
variable {K : PySem.W.Frag} {mg : Str → Option Value}
theorem knd_fact (T : Tx K mg) {z : Str} {ks : List Str} (h : kndOf z = some ks) : ∃ a, PySem.W.nsIn K (ga K "ARGUMENTS") z = some (some (.ref a)) ∧ ∀ H : Hp, SqT K H a (ks.map V.str) := by
  obtain ⟨p, h1, rfl⟩ := Option.map_eq_some_iff.mp h
  have hz : p.1 = z := by simpa using List.find?_some h1
  have hm := List.mem_of_find?_eq_some h1
  subst hz
  unfold KND at hm
  simp only [List.mem_cons, List.not_mem_nil, or_false] at hm
  rcases hm with rfl | rfl | rfl | rfl | rfl | rfl | rfl | rfl | rfl | rfl | rfl | rfl | rfl | rfl | rfl | rfl
  · exact T.d_ARGUMENTS_new_source
  · exact T.d_ARGUMENTS_new_set
  · exact T.d_ARGUMENTS_copy
  · exact T.d_ARGUMENTS_close
  · exact T.d_ARGUMENTS_fork
  · exact T.d_ARGUMENTS_end
  · exact T.d_ARGUMENTS_arrive
  · exact T.d_ARGUMENTS_finish
  · exact T.d_ARGUMENTS_read
  · exact T.d_ARGUMENTS_add
  · exact T.d_ARGUMENTS_change
  · exact T.d_ARGUMENTS_remove
  · exact T.d_ARGUMENTS_wait
  · exact T.d_ARGUMENTS_numbers
  · exact T.d_ARGUMENTS_same
  · exact T.d_ARGUMENTS_units
end
theorem knd_none {z : Str} (h : kndOf z = none) : z ∉ ([("new_source" : Str), ("new_set" : Str), ("copy" : Str), ("close" : Str), ("fork" : Str), ("end" : Str), ("arrive" : Str), ("finish" : Str), ("read" : Str), ("add" : Str), ("change" : Str), ("remove" : Str), ("wait" : Str), ("numbers" : Str), ("same" : Str), ("units" : Str)] : List Str) := by
  have h : KND.find? (fun p => decide (p.1 = z)) = none := by
    unfold kndOf at h
    exact Option.map_eq_none_iff.mp h
  rw [List.find?_eq_none] at h
  intro hz
  have e : ([("new_source" : Str), ("new_set" : Str), ("copy" : Str), ("close" : Str), ("fork" : Str), ("end" : Str), ("arrive" : Str), ("finish" : Str), ("read" : Str), ("add" : Str), ("change" : Str), ("remove" : Str), ("wait" : Str), ("numbers" : Str), ("same" : Str), ("units" : Str)] : List Str) = KND.map (·.1) := rfl
  rw [e] at hz
  obtain ⟨p, hp, rfl⟩ := List.mem_map.mp hz
  exact h p hp (by simp)
def argsK : Val → Val → Mu → R Val
  | .str z, d, μ => match kndOf z with
    | some ks => .ok (.tup (ks.map Val.str)) μ
    | none => .ok d μ
  | _, _, _ => .no
def mArgs (me mf : ME) : ME := fun ρ μ => (me ρ μ).bind fun x μ => (mf ρ μ).bind fun d μ => argsK x d μ
section
variable {X : Cx} {E : XK} {e f : Expr} {me mf : ME} {p apos cpos : Pos}
theorem pm_argsGet (T : Tx X.K X.mg) (AD : ArgD X.K X.w) (hg : Gl X "ARGUMENTS") (he : PM X E e me) (hf : PM X E f mf) (m : M2 X (.Name "ARGUMENTS" p) "get" apos e f cpos := by exact ⟨rfl, rfl, rfl, rfl⟩) :
    PM X E (.Call (.Attribute (.Name "ARGUMENTS" p) "get" apos) [e, f] [] cpos) (mArgs me mf) := by
  obtain ⟨es, n, D⟩ := AD
  exact PE.imp (pe_dget2K D (pe_glob (v := .ref (ga X.K "ARGUMENTS")) hg T.g_ARGUMENTS rfl) he hf m) fun σ H Q ⟨w, ρ, μ, S, EN, hp⟩ => by
    refine ⟨rfl, w, ρ, μ, S, EN, Post.bind hp fun x μ1 w1 H1 u1 S1 r1 g1 h1 => ⟨w1, ρ, μ1, S1, EN.grow g1, Post.bind h1 fun z μ2 w2 H2 u2 S2 r2 g2 h2 => ?_⟩⟩
    replace r1 := VR.grow g2 r1
    unfold argsK at h2
    split at h2
    · rename_i k
      cases r1
      split at h2
      · rename_i ks hk
        obtain ⟨a, e1, e2⟩ := knd_fact T hk
        exact ⟨k, rfl, .inl ⟨_, .ref a, e1, rfl, h2 w2 H2 _ S2 (.tup (e2 H2) (vrs_strs ks)) .refl⟩⟩
      · rename_i hk
        exact ⟨k, rfl, .inr ⟨T.o_ARGUMENTS k (knd_none hk), h2 w2 H2 _ S2 r2 .refl⟩⟩
    · exact h2.elim
end

/-! ### word, *parts = a list -/
theorem star1_list {prog : Program} {w : World} {A : Around} {E : Value → Shared → Prop} {s : Shared} {l : Addr} {x : Value} {xs : List Value} {Q : List Value → Shared → Prop} (hh : A.handled = none) (hl : s.heap.IsList l (x :: xs).toArray) (hz : xs.length < 16384)
    (h : ∀ (h2 : Heap) (tk : Nat), (∀ b o, s.heap.get? b = some o → h2.get? b = some o) → Q [x, .ref h2.objs.size] { s with heap := h2.push { cls := .type "list", data := .seq xs.toArray }, toks := tk }) : wpAny (model prog w) A (unpackItems (.ref l) 2 (some 1)) Q E s := by
  have hlt : l ≠ s.heap.objs.size := by obtain ⟨o, ho, _⟩ := hl; exact Nat.ne_of_lt (Heap.lt_size ho)
  have hll : l < s.heap.objs.size := by obtain ⟨o, ho, _⟩ := hl; exact Heap.lt_size ho
  unfold unpackItems
  refine wpAny_bind ?_
  unfold notIterableAtAll
  refine wpAny_bind (wpAny_specialOf hl.typeIs PySem.F.slot_list_iter.lookup ?_)
  refine wpAny_pure ?_
  simp only [Bool.false_eq_true, if_false]
  refine wpAny_bind (wpAny_holding (wpAny_pyIter_list hl ?_))
  refine wpAny_bind (wpAny_holding (PySem.W.kun_draw hlt 1 0 _ _ ⟨_, Heap.get?_push_size _ rfl, rfl, rfl⟩ (hl.push _) (by simp) fun h₁ hit₁ hs₁ => ?_))
  have hl₁ : h₁.IsList l (x :: xs).toArray := (hl.push _).extBut hs₁.extBut hlt
  rw [Nat.zero_add] at hit₁
  have hit₁' := hit₁
  obtain ⟨oi, hoi, _⟩ := hit₁'
  have hl₁' := hl₁
  obtain ⟨ol, hol, _⟩ := hl₁'
  have ef : List.take 1 (List.drop 0 (x :: xs).toArray.toList) = [x] := rfl
  rw [ef, if_neg (show ¬ ([x].length < 1) by simp)]
  refine wpAny_bind (wpAny_holding (PySem.W.kun_collect (s := { s with heap := h₁ }) (T := "list_iterator") (.inr (.inr (.inl rfl))) (Walks.list (A := A.in1) hh s.heap.objs.size l hlt (x :: xs).toArray) (fun j u st => st.1.typeIs) (k := 1) (by simp) ⟨hit₁, hl₁⟩ (Heap.lt_size hoi) (Heap.lt_size hol) (fun h₂ tk hk => ?_) (by rw [sizeLine_eq]; simp; omega)))
  have el : (List.drop 1 (x :: xs).toArray.toList) = xs := rfl
  rw [el]
  show wpAny _ _ (if xs.length < 2 - 1 - 1 then _ else _) _ _ _
  rw [if_neg (by omega)]
  show wpAny _ _ (newList (xs.take (xs.length - (2 - 1 - 1))) >>= fun d => pure ([x] ++ [d] ++ xs.drop (xs.length - (2 - 1 - 1)))) _ _ _
  rw [show 2 - 1 - 1 = 0 from rfl, Nat.sub_zero, List.take_length, List.drop_length]
  have he : ∀ b o, s.heap.get? b = some o → h₂.get? b = some o := fun b o e => hk b o (Nat.ne_of_lt (Heap.lt_size e)) (hs₁.extBut b o (Nat.ne_of_lt (Heap.lt_size e)) (Heap.get?_push_of_some _ e))
  refine wpAny_bind (wpAny_newList ?_ (by rw [sizeLine_eq]; omega))
  exact wpAny_pure (h h₂ tk he)
def gStar (K : PySem.W.Frag) (t : TGs) : TG := fun v σ H Q => ∃ a x xs, v = .ref a ∧ SqL K H a (x :: xs) ∧ xs.length < 16384 ∧ ∀ D, H D = none → t [x, .ref D] σ (upd H D (.lst xs)) Q
section
variable {X : Cx} {E : XK} {e : Expr} {m : ME} {pos : Pos}
theorem pg_star {es es' : List Expr} {k : Nat} {t : TGs} (hc : X.calm = true) (h : PGs X es' t) (he : (assignEach es X.env).map (·.2) = (assignEach es' X.env).map (·.2) := by rfl)
    (hn : (assignEach es X.env).length = 2 := by rfl) (hst : (assignEach es X.env).findIdx? (·.1) = some 1 := by rfl) : PG X (.Tuple es k pos) (gStar X.K t) := by
  refine ⟨fun pins s σ H v u Q I r hw => ?_⟩
  obtain ⟨a, x, xs, e1, hq, hl, hw⟩ := hw
  subst e1
  cases r
  obtain ⟨its, rv, ht, hz⟩ := I.list hq
  cases rv with
  | @cons _ u0 _ us0 r0 rs =>
    rw [assign_Tuple]
    refine wpAny_bind (wpAny_standAt ?_)
    unfold unpack
    rw [hn, hst]
    have hl' := rs.length
    refine wpAny_bind (wpAny_holding (star1_list (I.ok.hd hc) ht.isList (by omega) fun h2 tk k2 => ?_))
    have I0 := I.kept (t' := tk) k2
    have hf : H h2.objs.size = none := I0.hok.fresh (Nat.le_refl _)
    have I1 := I0.laid (t' := tk) (o := .lst xs) (h' := h2.push { cls := .type "list", data := .seq us0.toArray }) (fun b o q => Heap.get?_push_of_some _ q) (Nat.le_refl _) ⟨by rw [sizeLine_eq]; omega, us0, 0, rs, Heap.get?_push_size _ rfl⟩
    have h3 := h.run pins _ σ _ [x, .ref h2.objs.size] [u0, .ref h2.objs.size] Q I1 (.cons r0 (.cons rfl .nil)) (hw _ hf)
    rw [← he] at h3
    exact h3
def sStar (i j : Nat) (m : ME) : MS := fun ρ μ => (m ρ μ).bind fun v μ => match v with
  | .loc n => match μ.ob n with
    | some (.lst (x :: xs)) => if xs.length < 16384 then .ok (.nx ((ρ.set i (some x)).set j (some (.loc μ.nx)))) (μ.new (.lst xs)) else .no
    | _ => .no
  | _ => .no
theorem pms_star {i j : Nat} {x y : Str} {p q r pt : Pos} {k : Nat} (hc : X.calm = true) (he : PM X E e m) (hN : X.N.Nodup) (hi : X.N[i]? = some x) (hj : X.N[j]? = some y) (hx : Loc X.env.scope x) (hy : Loc X.env.scope y)
    (hs : swapsWithSole [.Tuple [.Name x p, .Starred (.Name y q) r] k pt] e pos.line X.env = pure false := by rfl) (hw : swappedStores [.Tuple [.Name x p, .Starred (.Name y q) r] k pt] e X.env = pure none := by rfl)
    (h1 : (assignEach [.Tuple [.Name x p, .Starred (.Name y q) r] k pt] X.env).map (·.2) = [assign (.Tuple [.Name x p, .Starred (.Name y q) r] k pt) X.env] := by rfl)
    (fx : X.fn x = true ∨ X.env.scope.names.lookup x = some .local := by first | exact .inl rfl | exact .inr rfl | assumption) (fy : X.fn y = true ∨ X.env.scope.names.lookup y = some .local := by first | exact .inl rfl | exact .inr rfl | assumption) :
    PMS X E (.Assign [.Tuple [.Name x p, .Starred (.Name y q) r] k pt] e pos) (sStar i j m) :=
  PS.imp (ps_asg he (pg_star hc (pmgs_cons (px := p) hN hi hx (pmgs_cons (px := q) hN hj hy pmgs_nil fy) fx)) hs hw h1) fun D σ H ⟨w, ρ, μ, S, EN, hp⟩ => ⟨w, ρ, μ, S, EN, PostS.bind hp fun v μ1 w1 H1 u1 S1 r1 g1 h1 => by
    split at h1
    · rename_i n
      cases r1
      split at h1
      · rename_i z zs hn
        split at h1
        · rename_i hl
          obtain ⟨us, q1, q2⟩ := S1.ok _ _ hn
          cases q2 with
          | @cons _ _ u0 us0 r0 rs =>
            refine ⟨_, u0, us0, rfl, .of q1, by rw [rs.length]; exact hl, fun D hD => ?_⟩
            obtain ⟨w4, S4, g4, e4⟩ := S1.newL hD rs
            exact ⟨w4, _, _, [z, .loc μ1.nx], _, (EN.grow g1).grow g4, .cons (VR.grow g4 r0) (.cons (by rw [← e4]; exact VR.loc (Nat.lt_succ_self _)) .nil), rfl, fun σ' EN' _ => h1 w4 _ σ' S4 EN' g4⟩
        · exact h1.elim
      · exact h1.elim
    · exact h1.elim⟩
end

/-! ### a list behind a star in a display; zip of two lists -/
def mStar (a : ME) (r : MA) : MA := fun ρ μ => (a ρ μ).bind fun x μ => match x with
  | .loc n => match seqOf μ n with
    | some vs => (r ρ μ).bind fun ys μ => .ok (vs ++ ys) μ
    | none => .no
  | _ => .no
section
variable {X : Cx} {E : XK} {e e2 : Expr} {m : ME} {pos p : Pos}
theorem pma_star {es : List Expr} {mr : MA} (he : PM X E e m) (hr : PMA X E es mr) (hs : starEach (.Starred e p :: es) X.env = (true, eval e X.env) :: starEach es X.env := by rfl) : PMA X E (.Starred e p :: es) (mStar m mr) :=
  PA.imp (StX.pa_star he hr hs) fun σ H Q ⟨w, ρ, μ, S, EN, hp⟩ => ⟨w, ρ, μ, S, EN, Post.bind hp fun x μ1 w1 H1 u1 S1 r1 g1 h1 => by
    split at h1
    · rename_i n
      split at h1
      · rename_i vs hs
        obtain ⟨us, q1, q2⟩ := seqOf_sq S1 hs
        cases r1 with
        | loc hn =>
          exact ⟨_, us, rfl, .inr q1, w1, ρ, μ1, S1, EN.grow g1, Post.bind h1 fun ys μ2 w2 H2 u2 S2 r2 g2 h2 => h2 w2 H2 _ S2 ((VRs.grow g2 q2).app r2) .refl⟩
      · exact h1.elim
    · exact h1.elim⟩
def zip2M (xs ys : List Val) : List Val := (xs.zip ys).map fun p => .tup [p.1, p.2]
end

/-! ### zip over two iterators of any kind while the pairs it gave out are held -/
namespace Zpm
open PySem PySem.Sem PySem.W
section
variable {prog : Program} {w : World} {A : Around} {E : Value → Shared → Prop} {s : Shared} {z TI TO i1 i2 T : Addr} {fp1 fp2 : List Addr} {n1 n2 i : Nat} {P1 P2 : Nat → Value → Prop} {St1 St2 : Nat → Heap → Prop} {f : Bool} {oT : Obj}
theorem item_held {Q : Value → Shared → Prop} (S : ZipSep2 z TI TO i1 i2 fp1 fp2) (D1 : Draws prog w A i1 fp1 n1 P1 St1) (D2 : Draws prog w A i2 fp2 n2 P2 St2)
    (hz : IsZipHeld s.heap z TI TO T f) (hT : s.heap.get? T = some oT) (hTI : IsTupOf2 s.heap TI (.ref i1) (.ref i2)) (st1 : St1 i s.heap) (st2 : St2 i s.heap) (hlt1 : i < n1) (hlt2 : i < n2)
    (hQ : ∀ x1 x2 h' tk, P1 i x1 → P2 i x2 → IsZipHeld h' z TI TO T true → St1 (i + 1) h' → St2 (i + 1) h' → IsTupOf2 h' s.heap.objs.size x1 x2 → h'.objs.size = s.heap.objs.size + 1 →
      (∀ c o, c ≠ z → c ≠ i1 → c ≠ i2 → s.heap.get? c = some o → h'.get? c = some o) → Q (.ref s.heap.objs.size) { s with heap := h', toks := tk }) :
    wpAny (model prog w) A (Builtin.«zip.__next__» ⟨[.ref z], []⟩) (fun fin s' => ∃ v, fin = .done (.ret v) ∧ Q v s') E s := by
  obtain ⟨hp, g, d, tk0, os⟩ := s
  show wpAny _ _ (field (.ref z) 2 >>= _) _ _ _
  refine wpAny_bind (wpAny_field hz rfl (x := .bool false) rfl ?_)
  show wpAny _ _ (field (.ref z) 3 >>= _) _ _ _
  refine wpAny_bind (wpAny_field hz rfl (x := .ref TI) rfl ?_)
  refine wpAny_bind (wpAny_seqItems hTI rfl ?_)
  show wpAny _ _ (Builtin.SmallTypes.ownedTupleIsFree (.ref z) >>= _) _ _ _
  refine wpAny_bind (wpAny_tupleHeld_zip hz hT fun g0 hz0 hs0 => ?_)
  replace hs0 : Heap.SameBut z hp g0 := hs0
  simp only [Bool.false_eq_true, if_false]
  refine wpAny_bind ?_
  rw [← Array.forIn_toList]
  simp only [List.forIn_cons, List.forIn_nil]
  refine wpAny_bind (wpAny_bind (wpAny_holding ?_))
  show wpAny _ _ (Builtin.SmallTypes.nextOf (.ref i1) >>= _) _ _ ⟨g0, g, d, tk0, os⟩
  refine wpAny_bind (D1.item i _ _ _ hlt1 (D1.over st1 hs0 S.zf1) fun x1 p1 tk1 hx1 sn1 hp1 => wpAny_pure ?_)
  replace hp1 : Heap.SameBut i1 g0 p1 := hp1
  refine wpAny_pure ?_
  refine wpAny_bind (wpAny_bind (wpAny_holding ?_))
  show wpAny _ _ (Builtin.SmallTypes.nextOf (.ref i2) >>= _) _ _ ⟨p1, g, d, tk1, os⟩
  refine wpAny_bind (D2.item i _ _ _ hlt2 (D2.over (D2.over st2 hs0 S.zf2) hp1 S.sep1_2) fun x2 p2 tk2 hx2 sn2 hp2 => wpAny_pure ?_)
  replace hp2 : Heap.SameBut i2 p1 p2 := hp2
  refine wpAny_pure (wpAny_pure ?_)
  show wpAny _ _ (newTuple [x1, x2] >>= _) _ _ ⟨p2, g, d, tk2, os⟩
  refine wpAny_bind (wpAny_newTuple ?_)
  have hsz : p2.objs.size = hp.objs.size := by rw [hp2.1, hp1.1, hs0.1]
  have hz3 : IsZipHeld p2 z TI TO T true := hp2.extBut _ _ S.zi2 (hp1.extBut _ _ S.zi1 hz0)
  have hk : ∀ c o, c ≠ z → c ≠ i1 → c ≠ i2 → hp.get? c = some o → p2.get? c = some o := fun c o c1 c2 c3 e => hp2.extBut _ _ c3 (hp1.extBut _ _ c2 (hs0.extBut _ _ c1 e))
  have j1 : St1 (i + 1) p2 := D1.over sn1 hp2 S.sep2_1
  refine wpAny_pure ⟨_, rfl, ?_⟩
  show Q (.ref p2.objs.size) ⟨p2.push { cls := .type "tuple", data := .seq #[x1, x2] }, g, d, tk2, os⟩
  have hpr : IsTupOf2 (p2.push { cls := .type "tuple", data := .seq #[x1, x2] }) p2.objs.size x1 x2 := Heap.get?_push_size _ rfl
  have hz4 : (p2.push { cls := .type "tuple", data := .seq #[x1, x2] }).objs.size = p2.objs.size + 1 := Heap.size_push ..
  rw [hsz] at hpr hz4 ⊢
  exact hQ x1 x2 _ tk2 hx1 hx2 (Heap.get?_push_of_some _ hz3) (D1.frame _ _ _ j1 fun b _ o e => Heap.get?_push_of_some _ e) (D2.frame _ _ _ sn2 fun b _ o e => Heap.get?_push_of_some _ e) hpr hz4 fun c o c1 c2 c3 e => Heap.get?_push_of_some _ (hk c o c1 c2 c3 e)

theorem end_held {Q : Fin → Shared → Prop} (S : ZipSep2 z TI TO i1 i2 fp1 fp2) (D1 : Draws prog w A i1 fp1 n1 P1 St1)
    (hz : IsZipHeld s.heap z TI TO T f) (hT : s.heap.get? T = some oT) (hTI : IsTupOf2 s.heap TI (.ref i1) (.ref i2)) (st1 : St1 n1 s.heap)
    (hE : ∀ h' tk e, (∀ c o, c ≠ z → c ≠ i1 → c ≠ i2 → s.heap.get? c = some o → h'.get? c = some o) → (∃ o, h'.get? e = some o ∧ o.cls = .type "StopIteration") → E (.ref e) { s with heap := h', toks := tk }) :
    wpAny (model prog w) A (Builtin.«zip.__next__» ⟨[.ref z], []⟩) Q E s := by
  obtain ⟨hp, g, d, tk0, os⟩ := s
  show wpAny _ _ (field (.ref z) 2 >>= _) _ _ _
  refine wpAny_bind (wpAny_field hz rfl (x := .bool false) rfl ?_)
  show wpAny _ _ (field (.ref z) 3 >>= _) _ _ _
  refine wpAny_bind (wpAny_field hz rfl (x := .ref TI) rfl ?_)
  refine wpAny_bind (wpAny_seqItems hTI rfl ?_)
  show wpAny _ _ (Builtin.SmallTypes.ownedTupleIsFree (.ref z) >>= _) _ _ _
  refine wpAny_bind (wpAny_tupleHeld_zip hz hT fun g0 hz0 hs0 => ?_)
  replace hs0 : Heap.SameBut z hp g0 := hs0
  simp only [Bool.false_eq_true, if_false]
  refine wpAny_bind ?_
  rw [← Array.forIn_toList]
  simp only [List.forIn_cons, List.forIn_nil]
  refine wpAny_bind (wpAny_bind (wpAny_holding ?_))
  show wpAny _ _ (Builtin.SmallTypes.nextOf (.ref i1) >>= _) _ _ ⟨g0, g, d, tk0, os⟩
  refine wpAny_bind (D1.done ⟨g0, g, d, tk0, os⟩ _ _ (D1.over st1 hs0 S.zf1) fun q e hq he => ?_)
  replace hq : Heap.ExtBut i1 g0 q := hq
  exact hE q tk0 e (fun c o cz c1 _ x => hq _ _ c1 (hs0.extBut _ _ cz x)) he
theorem next_held {Q : Option Value → Shared → Prop} (S : ZipSep2 z TI TO i1 i2 fp1 fp2) (D1 : Draws prog w A.in1 i1 fp1 n1 P1 St1) (D2 : Draws prog w A.in1 i2 fp2 n2 P2 St2)
    (hz : IsZipHeld s.heap z TI TO T f) (hT : s.heap.get? T = some oT) (hTI : IsTupOf2 s.heap TI (.ref i1) (.ref i2)) (st1 : St1 i s.heap) (st2 : St2 i s.heap) (hlt1 : i < n1) (hlt2 : i < n2)
    (hQ : ∀ x1 x2 h' tk, P1 i x1 → P2 i x2 → IsZipHeld h' z TI TO T true → St1 (i + 1) h' → St2 (i + 1) h' → IsTupOf2 h' s.heap.objs.size x1 x2 → h'.objs.size = s.heap.objs.size + 1 →
      (∀ c o, c ≠ z → c ≠ i1 → c ≠ i2 → s.heap.get? c = some o → h'.get? c = some o) → Q (some (.ref s.heap.objs.size)) { s with heap := h', toks := tk }) :
    wpAny (model prog w) A (pyNext (.ref z)) Q E s := by
  have hTy : s.TypeIs (.ref z) "zip" := ⟨_, hz, rfl⟩
  unfold pyNext
  exact wpAny_bind (wpAny_attempt (wpAny_callSpecial?_slot (name := Str.ofString "__next__") hTy F.slot_zip_next
    (wpAny_call_entry F.slot_zip_next hTy F.entry_zip_next
      (item_held S D1 D2 hz hT hTI st1 st2 hlt1 hlt2 fun x1 x2 h' tk y1 y2 a1 a3 a4 a5 a6 a7 => wpAny_pure (hQ x1 x2 h' tk y1 y2 a1 a3 a4 a5 a6 a7)) (F.args_zip_next_1 _))))
theorem stop_held {Q : Option Value → Shared → Prop} (S : ZipSep2 z TI TO i1 i2 fp1 fp2) (D1 : Draws prog w A.in1 i1 fp1 n1 P1 St1)
    (hz : IsZipHeld s.heap z TI TO T f) (hT : s.heap.get? T = some oT) (hTI : IsTupOf2 s.heap TI (.ref i1) (.ref i2)) (st1 : St1 n1 s.heap)
    (hQ : ∀ h' tk, (∀ c o, c ≠ z → c ≠ i1 → c ≠ i2 → s.heap.get? c = some o → h'.get? c = some o) → Q none { s with heap := h', toks := tk }) : wpAny (model prog w) A (pyNext (.ref z)) Q E s := by
  have hTy : s.TypeIs (.ref z) "zip" := ⟨_, hz, rfl⟩
  unfold pyNext
  refine wpAny_bind (wpAny_attempt (wpAny_callSpecial?_slot (name := Str.ofString "__next__") hTy F.slot_zip_next
    (wpAny_call_entry F.slot_zip_next hTy F.entry_zip_next (end_held S D1 hz hT hTI st1 fun h' tk e hk he => ?_) (F.args_zip_next_1 _))))
  obtain ⟨o, ho, hc⟩ := he
  refine wpAny_bind (wpAny_isInstance (T := "StopIteration") (b := true) ⟨o, ho, hc⟩ isSubtype_stop ?_)
  exact wpAny_pure (hQ _ _ hk)
end
end Zpm

/-! ### list(zip(..)) over two iterators of any kind, of one length -/
namespace Zpm
open PySem PySem.Sem PySem.W
/-- where the zip stands: before its first pair, or behind a pair that is held -/
structure ZAt (St1 St2 : Nat → Heap → Prop) (z TI TO i1 i2 S : Addr) (h : Heap) (i : Nat) : Prop where
  ti : IsTupOf2 h TI (.ref i1) (.ref i2)
  s1 : St1 i h
  s2 : St2 i h
  at_ : (IsZip h z TI TO .none ∧ ∃ a1 a2, IsTupOf2 h TO a1 a2) ∨ ∃ T f oT, IsZipHeld h z TI TO T f ∧ h.get? T = some oT ∧ T ≠ z ∧ T ≠ i1 ∧ T ≠ i2 ∧ T ≠ S
structure ZG (P1 P2 : Nat → Value → Prop) (lo : Addr) (h : Heap) (as : List Addr) : Prop where
  rise : as.Pairwise (· < ·)
  above : ∀ a ∈ as, lo < a
  pairs : ∀ (j : Nat) (a : Addr), as[j]? = some a → ∃ x1 x2, P1 j x1 ∧ P2 j x2 ∧ IsTupOf2 h a x1 x2
theorem ZG.there {P1 P2 : Nat → Value → Prop} {lo : Addr} {h : Heap} {as : List Addr} (g : ZG P1 P2 lo h as) {a : Addr} (ha : a ∈ as) : a < h.objs.size := by
  obtain ⟨j, hj⟩ := List.mem_iff_getElem?.mp ha
  obtain ⟨_, _, _, _, e⟩ := g.pairs j a hj
  exact Heap.lt_size e
theorem ZG.low {P1 P2 : Nat → Value → Prop} {lo lo' : Addr} {h : Heap} {as : List Addr} (g : ZG P1 P2 lo h as) (hl : lo' ≤ lo) : ZG P1 P2 lo' h as := ⟨g.rise, fun a ha => Nat.lt_of_le_of_lt hl (g.above a ha), g.pairs⟩
section
variable {prog : Program} {w : World} {A : Around} {E : Value → Shared → Prop} {s : Shared} {z TI TO i1 i2 S : Addr} {fp1 fp2 : List Addr} {n i : Nat} {P1 P2 : Nat → Value → Prop} {St1 St2 : Nat → Heap → Prop}
theorem ZAt.zlt {h : Heap} (x : ZAt St1 St2 z TI TO i1 i2 S h i) : ∃ o, h.get? z = some o ∧ o.cls = .type "zip" := by
  rcases x.at_ with ⟨hz, _⟩ | ⟨T, f, oT, hz, _⟩
  · exact ⟨_, hz, rfl⟩
  · exact ⟨_, hz, rfl⟩
theorem ZAt.keep {h h' : Heap} (D1 : Draws prog w A i1 fp1 n P1 St1) (D2 : Draws prog w A i2 fp2 n P2 St2) (x : ZAt St1 St2 z TI TO i1 i2 S h i) (hk : ∀ b o, b ≠ S → h.get? b = some o → h'.get? b = some o) (h1 : S ∉ fp1) (h2 : S ∉ fp2) (hz : z ≠ S) (hti : TI ≠ S) (hto : TO ≠ S) : ZAt St1 St2 z TI TO i1 i2 S h' i := by
  refine ⟨hk _ _ hti x.ti, D1.frame _ _ _ x.s1 fun b hb o e => hk b o (fun q => h1 (q ▸ hb)) e, D2.frame _ _ _ x.s2 fun b hb o e => hk b o (fun q => h2 (q ▸ hb)) e, ?_⟩
  rcases x.at_ with ⟨a, a1, a2, b⟩ | ⟨T, f, oT, a, b, c1, c2, c3, c4⟩
  · exact .inl ⟨hk _ _ hz a, a1, a2, hk _ _ hto b⟩
  · exact .inr ⟨T, f, oT, hk _ _ hz a, hk _ _ c4 b, c1, c2, c3, c4⟩
theorem z_item {Q : Option Value → Shared → Prop} (Z : ZipSep2 z TI TO i1 i2 fp1 fp2) (D1 : Draws prog w A.in1 i1 fp1 n P1 St1) (D2 : Draws prog w A.in1 i2 fp2 n P2 St2) (x : ZAt St1 St2 z TI TO i1 i2 S s.heap i) (hS : S < s.heap.objs.size) (hlt : i < n)
    (hQ : ∀ x1 x2 h' tk, P1 i x1 → P2 i x2 → ZAt St1 St2 z TI TO i1 i2 S h' (i + 1) → IsTupOf2 h' s.heap.objs.size x1 x2 → h'.objs.size = s.heap.objs.size + 1 →
      (∀ c o, c ≠ z → c ≠ TO → c ≠ i1 → c ≠ i2 → s.heap.get? c = some o → h'.get? c = some o) → Q (some (.ref s.heap.objs.size)) { s with heap := h', toks := tk }) : wpAny (model prog w) A (pyNext (.ref z)) Q E s := by
  have lz : z < s.heap.objs.size := by obtain ⟨o, e, _⟩ := x.zlt; exact Heap.lt_size e
  have l1 : i1 < s.heap.objs.size := by obtain ⟨o, e⟩ := D1.live _ _ x.s1; exact Heap.lt_size e
  have l2 : i2 < s.heap.objs.size := by obtain ⟨o, e⟩ := D2.live _ _ x.s2; exact Heap.lt_size e
  rcases x.at_ with ⟨hz, a1, a2, hTO⟩ | ⟨T, f, oT, hz, hT, c1, c2, c3, c4⟩
  · refine wpAny_pyNext_zipD2_item Z D1 D2 hz x.ti hTO x.s1 x.s2 hlt hlt fun x1 x2 h' tk y1 y2 b1 b2 d1 d2 b5 b6 hk => ?_
    exact hQ x1 x2 h' tk y1 y2 ⟨hk _ _ Z.TIz Z.TITO Z.TIi1 Z.TIi2 x.ti, d1, d2, .inr ⟨_, false, _, b1, b5, Nat.ne_of_gt lz, Nat.ne_of_gt l1, Nat.ne_of_gt l2, Nat.ne_of_gt hS⟩⟩ b5 b6 hk
  · refine next_held Z D1 D2 hz hT x.ti x.s1 x.s2 hlt hlt fun x1 x2 h' tk y1 y2 b1 d1 d2 b5 b6 hk => ?_
    exact hQ x1 x2 h' tk y1 y2 ⟨hk _ _ Z.TIz Z.TIi1 Z.TIi2 x.ti, d1, d2, .inr ⟨T, true, oT, b1, hk _ _ c1 c2 c3 hT, c1, c2, c3, c4⟩⟩ b5 b6 fun c o q1 _ q2 q3 e => hk c o q1 q2 q3 e
theorem z_done {Q : Option Value → Shared → Prop} (Z : ZipSep2 z TI TO i1 i2 fp1 fp2) (D1 : Draws prog w A.in1 i1 fp1 n P1 St1) (D2 : Draws prog w A.in1 i2 fp2 n P2 St2) (x : ZAt St1 St2 z TI TO i1 i2 S s.heap n)
    (hQ : ∀ h' tk, (∀ c o, c ≠ z → c ≠ TO → c ≠ i1 → c ≠ i2 → s.heap.get? c = some o → h'.get? c = some o) → Q none { s with heap := h', toks := tk }) : wpAny (model prog w) A (pyNext (.ref z)) Q E s := by
  rcases x.at_ with ⟨hz, a1, a2, hTO⟩ | ⟨T, f, oT, hz, hT, _⟩
  · exact wpAny_pyNext_zipD2_end Z D1 D2 hz x.ti hTO x.s1 x.s2 (Nat.le_refl _) (Nat.le_refl _) (.inl rfl) hQ
  · exact stop_held Z D1 hz hT x.ti x.s1 fun h' tk hk => hQ h' tk fun c o q1 _ q2 q3 e => hk c o q1 q2 q3 e
end
section
variable {prog : Program} {w : World} {A : Around} {s : Shared} {R : Result → Shared → Prop} {z TI TO i1 i2 S : Addr} {fp1 fp2 : List Addr} {n : Nat} {P1 P2 : Nat → Value → Prop} {St1 St2 : Nat → Heap → Prop}
theorem z_loop (Z : ZipSep2 z TI TO i1 i2 fp1 fp2) (D1 : Draws prog w A.in1.in1 i1 fp1 n P1 St1) (D2 : Draws prog w A.in1.in1 i2 fp2 n P2 St2) (hn : n ≤ sizeLine) (h1 : S ∉ fp1) (h2 : S ∉ fp2) (hz : z < S) (hti : TI ≠ S) (hto : TO < S) (hi1 : i1 < S) (hi2 : i2 < S) (res : Value) {h₁ : Heap}
    (hR : ∀ h' tk acc c as, (∀ b o, b ≠ S → b ≠ z → b ≠ TO → b ≠ i1 → b ≠ i2 → h₁.get? b = some o → h'.get? b = some o) → h'.get? S = some { cls := .type "list", dict := none, data := .seq acc c, slots := #[] } → as.length = n → ZG P1 P2 S h' as →
      acc.toList = as.map Value.ref → R (.ok (.ret res)) { s with heap := h', toks := tk }) :
    ∀ (k i : Nat) (h : Heap) (tk c : Nat) (acc : Array Value) (as : List Addr), n - i = k → i ≤ n → ZAt St1 St2 z TI TO i1 i2 S h i → (∀ b o, b ≠ S → b ≠ z → b ≠ TO → b ≠ i1 → b ≠ i2 → h₁.get? b = some o → h.get? b = some o) →
      h.get? S = some { cls := .type "list", dict := none, data := .seq acc c, slots := #[] } → acc.toList = as.map Value.ref → as.length = i → ZG P1 P2 S h as →
      codeAny (model prog w) A (.builtin "list.extend.loop" ⟨[.ref S, .ref z, res], []⟩) R { s with heap := h, toks := tk } := by
  intro k
  induction k with
  | zero =>
    intro i h tk c acc as hk hi hst hkeep hS hacc hal hG
    have hin : i = n := by omega
    subst hin
    refine codeAny_builtin PySem.F.entry_extend_loop ?_
    rw [Around.under_plainId PySem.F.plain_extend_loop _]
    show wpAny _ A.in1 (pyNext (.ref z) >>= _) _ _ _
    refine wpAny_bind (z_done (s := { s with heap := h, toks := tk }) (A := A.in1) Z D1 D2 hst fun h' tk' he => ?_)
    have ab : ∀ a, a ∈ as → ∀ o, h.get? a = some o → h'.get? a = some o := fun a ha o e => he a o (Nat.ne_of_gt (Nat.lt_trans hz (hG.above a ha))) (Nat.ne_of_gt (Nat.lt_trans hto (hG.above a ha))) (Nat.ne_of_gt (Nat.lt_trans hi1 (hG.above a ha))) (Nat.ne_of_gt (Nat.lt_trans hi2 (hG.above a ha))) e
    refine wpAny_pure (hR h' tk' acc c as (fun b o q1 q2 q3 q4 q5 e => he b o q2 q3 q4 q5 (hkeep b o q1 q2 q3 q4 q5 e)) (he S _ (Nat.ne_of_gt hz) (Nat.ne_of_gt hto) (Nat.ne_of_gt hi1) (Nat.ne_of_gt hi2) hS) (by omega) ⟨hG.rise, hG.above, fun j a hj => ?_⟩ hacc)
    obtain ⟨x1, x2, e1, e2, e3⟩ := hG.pairs j a hj
    exact ⟨x1, x2, e1, e2, ab a (List.mem_of_getElem? hj) _ e3⟩
  | succ k ih =>
    intro i h tk c acc as hk hi hst hkeep hS hacc hal hG
    have hlt : i < n := by omega
    have hsz : acc.size = i := by rw [← Array.length_toList, hacc, List.length_map, hal]
    have hSl : S < h.objs.size := Heap.lt_size hS
    refine codeAny_builtin PySem.F.entry_extend_loop ?_
    rw [Around.under_plainId PySem.F.plain_extend_loop _]
    show wpAny _ A.in1 (pyNext (.ref z) >>= _) _ _ _
    refine wpAny_bind (z_item (s := { s with heap := h, toks := tk }) (A := A.in1) Z D1 D2 hst hSl hlt fun x1 x2 h' tk' p1 p2 hst' ht hz' hkp => ?_)
    dsimp only at ht hz' hkp ⊢
    have hS' := hkp S _ (Nat.ne_of_gt hz) (Nat.ne_of_gt hto) (Nat.ne_of_gt hi1) (Nat.ne_of_gt hi2) hS
    have up : ∀ b o, b ≠ S → h'.get? b = some o → (h'.update S (Obj.mapSeq (·.push (Value.ref h.objs.size)))).get? b = some o := fun b o hb e => (Heap.get?_update_other _ _ (Ne.symm hb)).trans e
    show wpAny _ A.in1 (updateSeq S (·.push (Value.ref h.objs.size)) >>= _) _ _ _
    refine wpAny_bind ?_
    refine wpAny_updateSeq hS' rfl (wpAny_pure ⟨plainId_quiet PySem.F.plain_extend_loop _, ih (i + 1) _ tk' _ (acc.push (Value.ref h.objs.size)) (as ++ [h.objs.size]) (by omega) hlt (hst'.keep D1 D2 up h1 h2 (Nat.ne_of_lt hz) hti (Nat.ne_of_lt hto))
      (fun b o q1 q2 q3 q4 q5 e => up b o q1 (hkp b o q2 q3 q4 q5 (hkeep b o q1 q2 q3 q4 q5 e))) (Heap.get?_update_self _ hS' rfl) (by rw [Array.toList_push, hacc, List.map_append]; rfl) (by rw [List.length_append, hal]; rfl) ⟨?_, ?_, ?_⟩⟩) (by rw [hsz]; omega) (by show (acc.push (Value.ref h.objs.size)).size ≤ sizeLine + 1; rw [Array.size_push, hsz]; omega)
    · refine List.pairwise_append.mpr ⟨hG.rise, List.pairwise_singleton _ _, fun a ha b hb => ?_⟩
      rw [List.mem_singleton.mp hb]
      exact hG.there ha
    · intro a ha
      rcases List.mem_append.mp ha with ha | ha
      · exact hG.above a ha
      · rw [List.mem_singleton.mp ha]; exact hSl
    · intro j b hj
      rcases Nat.lt_trichotomy j as.length with q | q | q
      · rw [List.getElem?_append_left q] at hj
        obtain ⟨x1', x2', e1, e2, e3⟩ := hG.pairs j b hj
        have hb := hG.above b (List.mem_of_getElem? hj)
        exact ⟨x1', x2', e1, e2, up b _ (Nat.ne_of_gt hb) (hkp b _ (Nat.ne_of_gt (Nat.lt_trans hz hb)) (Nat.ne_of_gt (Nat.lt_trans hto hb)) (Nat.ne_of_gt (Nat.lt_trans hi1 hb)) (Nat.ne_of_gt (Nat.lt_trans hi2 hb)) e3)⟩
      · subst q
        have hb : h.objs.size = b := by simpa using hj
        subst hb
        exact ⟨x1, x2, by rw [hal]; exact p1, by rw [hal]; exact p2, up _ _ (Nat.ne_of_gt hSl) ht⟩
      · have hnone : (as ++ [h.objs.size])[j]? = none := List.getElem?_eq_none (by rw [List.length_append, List.length_singleton]; omega)
        rw [hnone] at hj; cases hj
end
end Zpm

/-! ### list(zip(..)): the call -/
namespace Zpm
open PySem PySem.Sem PySem.W
theorem zip_no_len : typeLookup (.type "zip") "__len__" = pure none := am_miss_of_fast (by decide +kernel)
theorem zip_no_hint : typeLookup (.type "zip") "__length_hint__" = pure none := am_miss_of_fast (by decide +kernel)
section
variable {prog : Program} {w : World} {A : Around} {E : Value → Shared → Prop} {s : Shared} {z TI TO i1 i2 : Addr} {fp1 fp2 : List Addr} {n : Nat} {P1 P2 : Nat → Value → Prop} {St1 St2 : Nat → Heap → Prop}
theorem z_hint (hT : s.TypeIs (.ref z) "zip") {Q : Bool → Shared → Prop} (h : Q true s) : wpAny (model prog w) A (Builtin.List.listLengthHint (.ref z)) Q E s := by
  unfold Builtin.List.listLengthHint
  refine wpAny_bind (wpAny_specialOf hT zip_no_len ?_)
  refine wpAny_bind (wpAny_specialOf hT zip_no_hint ?_)
  exact wpAny_pure h
theorem z_extend {R : Result → Shared → Prop} (Z : ZipSep2 z TI TO i1 i2 fp1 fp2) (D1 : Draws prog w A.in1.in1 i1 fp1 n P1 St1) (D2 : Draws prog w A.in1.in1 i2 fp2 n P2 St2) (hn : n ≤ sizeLine) (hz : IsZip s.heap z TI TO .none) (hti : IsTupOf2 s.heap TI (.ref i1) (.ref i2)) (hto : ∃ a1 a2, IsTupOf2 s.heap TO a1 a2)
    (st1 : St1 0 s.heap) (st2 : St2 0 s.heap) (S : Addr) (lz : z < S) (lTI : TI < S) (lTO : TO < S) (l1 : i1 < S) (l2 : i2 < S) (f1 : S ∉ fp1) (f2 : S ∉ fp2) (res : Value) (c₀ : Nat) (hS : s.heap.get? S = some { cls := .type "list", data := .seq #[] c₀ })
    (hR : ∀ h' tk acc c as, (∀ b o, b ≠ S → b ≠ z → b ≠ TO → b ≠ i1 → b ≠ i2 → s.heap.get? b = some o → h'.get? b = some o) → h'.get? S = some { cls := .type "list", dict := none, data := .seq acc c, slots := #[] } → as.length = n → ZG P1 P2 S h' as →
      acc.toList = as.map Value.ref → R (.ok (.ret res)) { s with heap := h', toks := tk }) :
    wpAny (model prog w) A.in1 (Builtin.List.listExtendWith (.ref S) (.ref z) res)
      (fun fin s' => match fin with | .done f => R (.ok f) s' | .again c' => c'.quiet = true ∧ codeAny (model prog w) A c' R s') (fun e s' => R (.error e) s') s := by
  have key : ∀ (h : Heap) (c₁ tk : Nat), (∀ b o, b ≠ S → s.heap.get? b = some o → h.get? b = some o) → h.get? S = some { cls := .type "list", data := .seq #[] c₁ } →
      codeAny (model prog w) A (.builtin "list.extend.loop" ⟨[.ref S, .ref z, res], []⟩) R { s with heap := h, toks := tk } := by
    intro h c₁ tk hk hS₁
    have kz := hk z _ (Nat.ne_of_lt lz) hz
    obtain ⟨a1, a2, eto⟩ := hto
    refine z_loop (s := s) (h₁ := s.heap) Z D1 D2 hn f1 f2 lz (Nat.ne_of_lt lTI) lTO l1 l2 res hR n 0 h tk c₁ #[] [] (Nat.sub_zero _) (Nat.zero_le _) ?_ (fun b o q1 _ _ _ _ e => hk b o q1 e) hS₁ rfl rfl ⟨List.Pairwise.nil, (fun _ ha => nomatch ha), (fun j a hj => by simp at hj)⟩
    exact ⟨hk _ _ (Nat.ne_of_lt lTI) hti, D1.frame _ _ _ st1 fun b hb o e => hk b o (fun q => f1 (q ▸ hb)) e, D2.frame _ _ _ st2 fun b hb o e => hk b o (fun q => f2 (q ▸ hb)) e, .inl ⟨kz, a1, a2, hk _ _ (Nat.ne_of_lt lTO) eto⟩⟩
  have hTy : s.TypeIs (.ref z) "zip" := ⟨_, hz, rfl⟩
  unfold Builtin.List.listExtendWith
  refine wpAny_bind (wpAny_typeOf (T := "zip") hTy ?_)
  have h1 : Builtin.List.listSameRef (.ref S) (.ref z) = false := by simp [Builtin.List.listSameRef, Nat.ne_of_gt lz]
  have h2 : (Value.type "zip" == Value.type "list") = false := by decide
  have h3 : (Value.type "zip" == Value.type "tuple") = false := by decide
  simp only [h1, h2, h3, Bool.or_false, Bool.false_eq_true, if_false]
  refine wpAny_bind (wpAny_pyIter_zip hz ?_)
  refine wpAny_bind (wpAny_holding (z_hint hTy ?_))
  refine wpAny_ite_split (fun _ => ?_) (fun _ => wpAny_pure ⟨plainId_quiet PySem.F.plain_extend_loop _, key _ c₀ _ (fun b o _ e => e) hS⟩)
  refine wpAny_bind (wpAny_rule ?_)
  refine wpAny_bind ?_
  show wpAny _ _ (updateSeq S (·.push .none) >>= fun _ => updateSeq S (·.pop)) _ _ _
  refine wpAny_bind (wpAny_updateSeq hS rfl ?_)
  have hS₂ := Heap.get?_update_self (Obj.mapSeq (·.push Value.none)) hS rfl
  refine wpAny_updateSeq (hz := by seq_fits) hS₂ rfl ?_
  have hS₃ := Heap.get?_update_self (Obj.mapSeq (·.pop)) hS₂ rfl
  refine wpAny_pure ⟨plainId_quiet PySem.F.plain_extend_loop _, key _ _ _ (fun b o hb e => ?_) hS₃⟩
  exact (Heap.get?_update_other _ _ (Ne.symm hb)).trans ((Heap.get?_update_other _ _ (Ne.symm hb)).trans e)
theorem z_init {R : Result → Shared → Prop} (Z : ZipSep2 z TI TO i1 i2 fp1 fp2) (D1 : Draws prog w A.in1.in1 i1 fp1 n P1 St1) (D2 : Draws prog w A.in1.in1 i2 fp2 n P2 St2) (hn : n ≤ sizeLine) (hz : IsZip s.heap z TI TO .none) (hti : IsTupOf2 s.heap TI (.ref i1) (.ref i2)) (hto : ∃ a1 a2, IsTupOf2 s.heap TO a1 a2)
    (st1 : St1 0 s.heap) (st2 : St2 0 s.heap) (S : Addr) (lz : z < S) (lTI : TI < S) (lTO : TO < S) (l1 : i1 < S) (l2 : i2 < S) (f1 : S ∉ fp1) (f2 : S ∉ fp2) (hS : s.heap.get? S = some { cls := .type "list", data := .seq #[] })
    (hR : ∀ h' tk acc c as, (∀ b o, b ≠ S → b ≠ z → b ≠ TO → b ≠ i1 → b ≠ i2 → s.heap.get? b = some o → h'.get? b = some o) → h'.get? S = some { cls := .type "list", dict := none, data := .seq acc c, slots := #[] } → as.length = n → ZG P1 P2 S h' as →
      acc.toList = as.map Value.ref → R (.ok (.ret .none)) { s with heap := h', toks := tk }) :
    wpAny (model prog w) A.in1 (Builtin.«list.__init__» ⟨[.ref S, .ref z], []⟩)
      (fun fin s' => match fin with | .done f => R (.ok f) s' | .again c' => c'.quiet = true ∧ codeAny (model prog w) A c' R s') (fun e s' => R (.error e) s') s := by
  show wpAny _ _ (do let old ← Builtin.List.listItems (.ref S); Builtin.List.listUpdate (.ref S) (fun _ => #[]); letGo old.toList.reverse; Builtin.List.listExtendWith (.ref S) (.ref z) .none) _ _ s
  refine wpAny_bind ?_
  unfold Builtin.List.listItems
  refine wpAny_bind (wpAny_seqItems hS rfl (wpAny_pure ?_))
  show wpAny _ _ (updateSeq S (fun _ => #[]) >>= fun _ => letGo (#[] : Array Value).toList.reverse >>= fun _ => Builtin.List.listExtendWith (.ref S) (.ref z) .none) _ _ s
  refine wpAny_bind (wpAny_updateSeq hS rfl ?_)
  have hS₂ := Heap.get?_update_self (Obj.mapSeq (fun _ => (#[] : Array Value))) hS rfl
  have oth : ∀ b o, b ≠ S → s.heap.get? b = some o → (s.heap.update S (Obj.mapSeq (fun _ => (#[] : Array Value)))).get? b = some o :=
    fun b o hb e => (Heap.get?_update_other _ _ (Ne.symm hb)).trans e
  refine wpAny_bind (wpAny_letGo ?_)
  obtain ⟨a1, a2, eto⟩ := hto
  refine z_extend Z D1 D2 hn (oth _ _ (Nat.ne_of_lt lz) hz) (oth _ _ (Nat.ne_of_lt lTI) hti) ⟨a1, a2, oth _ _ (Nat.ne_of_lt lTO) eto⟩ (D1.frame _ _ _ st1 fun b hb o e => oth b o (fun q => f1 (q ▸ hb)) e) (D2.frame _ _ _ st2 fun b hb o e => oth b o (fun q => f2 (q ▸ hb)) e) S lz lTI lTO l1 l2 f1 f2 .none _ hS₂ (fun h' tk acc c as hk hS' hl hG hacc => ?_)
  exact hR h' tk acc c as (fun b o q1 q2 q3 q4 q5 e => hk b o q1 q2 q3 q4 q5 (oth b o q1 e)) hS' hl hG hacc
/-- list(z), z a zip over two iterators that stand at the start -/
theorem z_call {Q : Value → Shared → Prop} (Z : ZipSep2 z TI TO i1 i2 fp1 fp2) (D1 : Draws prog w A.in1.in1.in1 i1 fp1 n P1 St1) (D2 : Draws prog w A.in1.in1.in1 i2 fp2 n P2 St2) (hn : n ≤ sizeLine) (hz : IsZip s.heap z TI TO .none) (hti : IsTupOf2 s.heap TI (.ref i1) (.ref i2)) (hto : ∃ a1 a2, IsTupOf2 s.heap TO a1 a2)
    (st1 : St1 0 s.heap) (st2 : St2 0 s.heap) (b1 : ∀ b ∈ fp1, b < s.heap.objs.size) (b2 : ∀ b ∈ fp2, b < s.heap.objs.size)
    (hQ : ∀ h' tk acc c as, (∀ b o, b ≠ z → b ≠ TO → b ≠ i1 → b ≠ i2 → s.heap.get? b = some o → h'.get? b = some o) → h'.get? s.heap.objs.size = some { cls := .type "list", dict := none, data := .seq acc c, slots := #[] } → as.length = n → ZG P1 P2 s.heap.objs.size h' as →
      acc.toList = as.map Value.ref → Q (.ref s.heap.objs.size) { s with heap := h', toks := tk }) :
    wpAny (model prog w) A (call (.type "list") [.ref z]) Q E s := by
  refine callType_codes (Q₁ := fun obj s₁ => obj = .ref s.heap.objs.size ∧ s₁ = { s with heap := s.heap.push { cls := .type "list", data := .seq #[] } }) PySem.F.called_list (PySem.F.typeCall_list_1 _) PySem.F.entry_list_init
    (code_list_new _ ⟨rfl, rfl⟩) fun obj s₁ h₁ => ?_
  obtain ⟨rfl, rfl⟩ := h₁
  have hS : (s.heap.push { cls := .type "list", data := .seq #[] }).get? s.heap.objs.size = some { cls := .type "list", data := .seq #[] } := Heap.get?_push_size _ rfl
  obtain ⟨a1, a2, eto⟩ := hto
  refine ⟨⟨_, hS, rfl⟩, PySem.F.args_list_init_2 _ _, z_init (A := A.in1) Z D1 D2 hn (Heap.get?_push_of_some _ hz) (Heap.get?_push_of_some _ hti) ⟨a1, a2, Heap.get?_push_of_some _ eto⟩ (D1.frame _ _ _ st1 fun b _ o e => Heap.get?_push_of_some _ e) (D2.frame _ _ _ st2 fun b _ o e => Heap.get?_push_of_some _ e)
    s.heap.objs.size (Heap.lt_size hz) (Heap.lt_size hti) (Heap.lt_size eto) (b1 _ Z.mem1) (b2 _ Z.mem2) (fun q => Nat.lt_irrefl _ (b1 _ q)) (fun q => Nat.lt_irrefl _ (b2 _ q)) hS (fun h' tk acc c as hk hS' hl hG hacc => ?_)⟩
  exact ⟨rfl, hQ h' tk acc c as (fun b o q2 q3 q4 q5 e => hk b o (Nat.ne_of_lt (Heap.lt_size e)) q2 q3 q4 q5 (Heap.get?_push_of_some _ e)) hS' hl hG hacc⟩
end
end Zpm

/-! ### list(zip(a list, a tuple)) -/
def putP : Hp → List Addr → List (V × V) → Hp
  | H, a :: as, p :: kvs => putP (upd H a (.tup [p.1, p.2])) as kvs
  | H, _, _ => H
theorem putP_off {b : Addr} : ∀ (as : List Addr) (kvs : List (V × V)) (H : Hp), b ∉ as → putP H as kvs b = H b
  | [], _, _, _ => rfl
  | _ :: _, [], _, _ => rfl
  | a :: as, p :: kvs, H, h => by
    show putP (upd H a (.tup [p.1, p.2])) as kvs b = H b
    rw [putP_off as kvs _ (fun z => h (List.mem_cons_of_mem _ z)), upd_ne (fun z => h (by rw [z]; exact List.mem_cons_self))]
theorem putP_at : ∀ (as : List Addr) (kvs : List (V × V)) (H : Hp), as.length = kvs.length → as.Nodup → Paired (fun (t : Addr) (p : V × V) => putP H as kvs t = some (.tup [p.1, p.2])) as kvs
  | [], [], _, _, _ => .nil
  | [], _ :: _, _, h, _ => by cases h
  | _ :: _, [], _, h, _ => by cases h
  | a :: as, p :: kvs, H, h, hn => by
    have hn' := List.nodup_cons.mp hn
    have ih := putP_at as kvs (upd H a (.tup [p.1, p.2])) (Nat.succ.inj h) hn'.2
    refine .cons ?_ ih
    show putP (upd H a (.tup [p.1, p.2])) as kvs a = some (.tup [p.1, p.2])
    rw [putP_off as kvs _ hn'.1, upd_same]
theorem ne_of {a b : Nat} (h : a < b ∨ b < a) : a ≠ b := by omega
theorem nmem2 {c x y : Nat} (h1 : c ≠ x) (h2 : c ≠ y) : c ∉ [x, y] := by simp [h1, h2]
theorem lt2 {x y n : Nat} (h1 : x < n) (h2 : y < n) : ∀ c ∈ [x, y], c < n := fun c h => by
  rcases List.mem_cons.mp h with z | z
  · rw [z]; exact h1
  · rw [List.mem_singleton.mp z]; exact h2
theorem ne4 {b B : Nat} (h : b < B) : b ≠ B + 4 ∧ b ≠ B + 3 ∧ b ≠ B ∧ b ≠ B + 1 := by omega
theorem sepZ (B a b : Nat) (la : a < B) (lb : b < B) : ZipSep2 (B + 4) (B + 2) (B + 3) B (B + 1) [B, a] [B + 1, b] :=
  ⟨ne_of (by omega), ne_of (by omega), ne_of (by omega), ne_of (by omega), List.mem_cons_self, nmem2 (by omega) (by omega), nmem2 (by omega) (by omega), ne_of (by omega), List.mem_cons_self, nmem2 (by omega) (by omega), nmem2 (by omega) (by omega), nmem2 (by omega) (by omega), nmem2 (by omega) (by omega)⟩
section
variable {X : Cx} {e e2 : Expr} {ta : TA} {p q pos zpos : Pos}
theorem items_laidZ {pins : List (Addr × Obj)} {σ : L2.St} {H : Hp} {s : Shared} {h' : Heap} {tk : Nat} {xs ys : List V} {its its2 : List Value} {acc : Array Value} {c : Nat} {as : List Addr} {S : Addr} (I : Inv X pins σ H s) (hz : xs.length ≤ sizeLine) (hxy : xs.length = ys.length) (r1 : Vals xs its) (r2 : Vals ys its2)
    (hk : ∀ b o, s.heap.get? b = some o → h'.get? b = some o) (hlo : s.heap.objs.size ≤ S) (hS : h'.get? S = some { cls := .type "list", dict := none, data := .seq acc c, slots := #[] }) (hl : as.length = xs.length) (hG : Zpm.ZG (fun i v => its.toArray[i]? = some v) (fun i v => its2.toArray[i]? = some v) S h' as) (hacc : acc.toList = as.map Value.ref) :
    ∃ H' : Hp, (∀ b o, H b = some o → H' b = some o) ∧ H S = none ∧ (∀ t ∈ as, H t = none) ∧ S ∉ as ∧ H' S = some (.lst (as.map V.ref)) ∧ Paired (fun (t : Addr) (q : V × V) => H' t = some (.tup [q.1, q.2])) as (xs.zip ys) ∧ Inv X pins σ H' { s with heap := h', toks := tk } := by
  have lk : (xs.zip ys).length = xs.length := by rw [List.length_zip]; omega
  have hSn : S ∉ as := fun z => Nat.lt_irrefl _ (hG.above _ z)
  have nd : as.Nodup := List.Pairwise.imp (fun {a b} (h : a < b) => Nat.ne_of_lt h) hG.rise
  have new : ∀ t ∈ as, H t = none := fun t ht => I.hok.fresh (Nat.le_trans hlo (Nat.le_of_lt (hG.above t ht)))
  have newS : H S = none := I.hok.fresh hlo
  have atP := putP_at as (xs.zip ys) (upd H S (.lst (as.map V.ref))) (by omega) nd
  have off : ∀ b, b ∉ as → b ≠ S → putP (upd H S (.lst (as.map V.ref))) as (xs.zip ys) b = H b := fun b h1 h2 => by rw [putP_off as _ _ h1, upd_ne h2]
  have low : ∀ b o, s.heap.get? b = some o → b ∉ as ∧ b ≠ S := fun b o e => ⟨fun z => absurd (Heap.lt_size e) (Nat.not_lt.mpr (Nat.le_trans hlo (Nat.le_of_lt (hG.above b z)))), Nat.ne_of_lt (Nat.lt_of_lt_of_le (Heap.lt_size e) hlo)⟩
  have kp : ∀ b u, H b = some u → (putP (upd H S (.lst (as.map V.ref))) as (xs.zip ys)) b = some u := fun b u e => by
    rw [off b (fun z => by rw [new b z] at e; cases e) (fun z => by rw [z, newS] at e; cases e)]
    exact e
  have eS : putP (upd H S (.lst (as.map V.ref))) as (xs.zip ys) S = some (.lst (as.map V.ref)) := by rw [putP_off as _ _ hSn, upd_same]
  refine ⟨putP (upd H S (.lst (as.map V.ref))) as (xs.zip ys), kp, newS, new, hSn, eS, atP, ?_⟩
  refine I.call' (ch := []) rfl ⟨fun b o q _ _ _ => hk b o q, fun b o q _ _ _ => ⟨o.slots, hk b o q⟩, fun b o q n _ => ?_, fun b o q _ => ⟨o, hk b o q⟩, fun b xs q => kp b _ q, fun b o u q => kp b _ q, fun b ps q => ⟨#[], by rw [kp b _ q]; simp⟩⟩ (fun b u q => ?_) I.bare fun b z => by simp at z
  · obtain ⟨z1, z2⟩ := low b o q
    rw [off b z1 z2]
    exact n
  · by_cases hb : b ∈ as
    · obtain ⟨j, pk, e1, e2, e3⟩ := LiI.paired_ix atP hb
      rw [e3] at q
      cases q
      obtain ⟨x1, x2, f1, f2, f3⟩ := hG.pairs j b e1
      obtain ⟨g1, g2⟩ := List.getElem?_zip_eq_some.mp e2
      obtain ⟨u1, w1, w2⟩ := r1.get g1
      obtain ⟨u2, w3, w4⟩ := r2.get g2
      have q1 : x1 = u1 := by
        have : its[j]? = some x1 := by simpa using f1
        rw [w1] at this
        exact (Option.some.inj this).symm
      have q2 : x2 = u2 := by
        have : its2[j]? = some x2 := by simpa using f2
        rw [w3] at this
        exact (Option.some.inj this).symm
      subst q1 q2
      exact ⟨by show 2 ≤ sizeLine; decide, [x1, x2], .cons w2 (.cons w4 .nil), ⟨_, f3, rfl, _, rfl⟩⟩
    · by_cases hb2 : b = S
      · rw [hb2] at q ⊢
        rw [eS] at q
        cases q
        refine ⟨by rw [List.length_map]; omega, acc.toList, c, by rw [hacc]; exact LiI.vals_refs as, ?_⟩
        rw [Array.toArray_toList]
        exact hS
      · rw [off b hb hb2] at q
        exact (I.hok b u q).stay (fun d v _ y => hk d v y) (fun d y => kp d _ y) fun d xs y => kp d _ y
def tListZip (K : PySem.W.Frag) (ta : TA) : TE := fun σ H Q => ta σ H fun vs H1 => ∃ a b xs ys, vs = [.ref a, .ref b] ∧ SqL K H1 a xs ∧ SqT K H1 b ys ∧ xs.length = ys.length ∧
  ∀ (H' : Hp) (p : Addr) (ts : List Addr), (∀ b o, H1 b = some o → H' b = some o) → H1 p = none → (∀ t ∈ ts, H1 t = none) → p ∉ ts → H' p = some (.lst (ts.map V.ref)) → Paired (fun (t : Addr) (q : V × V) => H' t = some (.tup [q.1, q.2])) ts (xs.zip ys) → Q (.ref p) H'
theorem pe_listZipM (hc : X.calm = true) (ha : PA X [e, e2] ta) (hg : Gl X "list") (hm : X.mg "list" = none) (hv : bootBuiltins "list" = some (.type "list")) (hg2 : Gl X "zip") (hm2 : X.mg "zip" = none)
    (hs : starEach [.Call (.Name "zip" q) [e, e2] [] zpos] X.env = (false, eval (.Call (.Name "zip" q) [e, e2] [] zpos) X.env) :: starEach [] X.env := by rfl)
    (hs2 : starEach [e, e2] X.env = (false, eval e X.env) :: starEach [e2] X.env := by rfl) (hpl : (backTo zpos (starEach [e2] X.env)).any (·.1) = false := by rfl) :
    PE X (.Call (.Name "list" p) [.Call (.Name "zip" q) [e, e2] [] zpos] [] pos) (tListZip X.K ta) := by
  refine ⟨fun pins s σ H Q I hq => ?_⟩
  refine wpAny_Call_Name_kw (ld_blt I hg hm hv ?_)
  refine PyProof.Rows.callWith_type1 ?_ hs rfl
  rw [hs]
  show wpAny _ _ (spliced ((false, eval (.Call (.Name "zip" q) [e, e2] [] zpos) X.env) :: backTo pos (starEach [] X.env))) _ _ s
  refine Calls.spliced_cons ?_
  refine wpAny_Call_Name_kw (ld_blt I hg2 hm2 PyProof.Rows.boot_zip (PyProof.Rows.callWith_type1 (thn (ha.run zpos pins s σ H _ I hq) fun us s1 ⟨vs, H1, I1, r1, q1⟩ => ?_) hs2 hpl))
  obtain ⟨a, b, xs, ys, ex, hqx, hqy, hl, q1⟩ := q1
  subst ex
  cases r1 with
  | cons r rr =>
    cases rr with
    | cons r' rr =>
      cases rr
      cases r
      cases r'
      obtain ⟨its, rv, p1, hz1⟩ := I1.list hqx
      obtain ⟨its2, rv2, p2, _⟩ := I1.tuple hqy
      have la : a < s1.heap.objs.size := p1.lt
      have lb : b < s1.heap.objs.size := by obtain ⟨o2, ho2, _⟩ := id p2; exact Heap.lt_size ho2
      have e1 := rv.length
      have e2 := rv2.length
      have hd := I1.ok.hd hc
      refine zip_begins2 (begins_list a its.toArray) (begins_tuple b its2.toArray) p1.isList p2 fun h' hz hti hto g1 g2 hsz hk => ?_
      refine Calls.spliced_nil ?_
      generalize hB : s1.heap.objs.size = B at *
      have D1 := Draws.list (prog := X.prog) (w := X.w) (A := X.A.in1.in1.in1) hd B a (Nat.ne_of_lt la) its.toArray
      have D2 := Draws.tuple (prog := X.prog) (w := X.w) (A := X.A.in1.in1.in1) hd (B + 1) b (Nat.ne_of_lt (Nat.lt_succ_of_lt lb)) its2.toArray
      have ez : its2.toArray.size = its.toArray.size := by rw [List.size_toArray, List.size_toArray]; omega
      rw [ez] at D2
      refine Zpm.z_call (s := { s1 with heap := h' }) (n := its.toArray.size) (sepZ B a b la lb) D1 D2 (by rw [List.size_toArray]; omega) hz hti ⟨_, _, hto⟩ ⟨⟨_, g1, rfl, rfl⟩, p1.isList.at fun o e => hk a o e⟩ ⟨⟨_, g2, rfl, rfl⟩, Heap.IsTuple.at p2 fun o e => hk b o e⟩ ?_ ?_ fun h2 tk acc c as hk2 hS hl2 hG hacc => ?_
      · show ∀ c ∈ _, c < h'.objs.size
        rw [hsz]
        exact lt2 (Nat.lt_add_of_pos_right (by decide)) (Nat.lt_of_lt_of_le la (Nat.le_add_right _ _))
      · show ∀ c ∈ _, c < h'.objs.size
        rw [hsz]
        exact lt2 (Nat.add_lt_add_left (by decide) _) (Nat.lt_of_lt_of_le lb (Nat.le_add_right _ _))
      · have hk3 : ∀ b o, s1.heap.get? b = some o → h2.get? b = some o := fun b o e => by
          have lt := Heap.lt_size e
          rw [hB] at lt
          obtain ⟨z1, z2, z3, z4⟩ := ne4 lt
          exact hk2 b o z1 z2 z3 z4 (hk b o e)
        obtain ⟨H', k1, k2, k3, k4, k5, k6, J⟩ := items_laidZ (tk := tk) (S := h'.objs.size) I1 hz1 hl rv rv2 hk3 (by rw [hsz, hB]; exact Nat.le_add_right _ _) hS (by rw [hl2, List.size_toArray]; omega) hG hacc
        exact ⟨.ref _, H', J, rfl, q1 H' _ as k1 k2 k3 k4 k5 k6⟩
end

/-! ### list(zip(a list, a tuple)) at the law's level -/
def hole (H : Hp) (p : Addr) : Hp := fun b => if b = p then none else H b
theorem hole_upd {H : Hp} {p : Addr} {o : HO} (h : H p = some o) : H = upd (hole H p) p o := by
  funext b
  by_cases e : b = p
  · rw [e, upd_same]; exact h
  · rw [upd_ne e]
    unfold hole
    rw [if_neg e]
theorem zip_vrs {K : PySem.W.Frag} {ad : Adr} {b : Nat} {H : Hp} : ∀ {xs ys : List Val} {us vs : List V} {ts : List Addr}, VRs K ad b H xs us → VRs K ad b H ys vs → xs.length = ys.length → Paired (fun (t : Addr) (q : V × V) => H t = some (.tup [q.1, q.2])) ts (us.zip vs) → VRs K ad b H (zip2M xs ys) (ts.map V.ref)
  | [], [], _, _, _, .nil, .nil, _, .nil => .nil
  | [], _ :: _, _, _, _, _, _, hl, _ => by cases hl
  | _ :: _, [], _, _, _, _, _, hl, _ => by cases hl
  | x :: xs, y :: ys, _, _, _, .cons r1 r2, .cons q1 q2, hl, .cons p1 p2 => .cons (.tup (.inl (.inl p1)) (.cons r1 (.cons q1 .nil))) (zip_vrs r2 q2 (Nat.succ.inj hl) p2)
theorem paired_in {α β : Type} {F G : α → β → Prop} : ∀ {xs : List α} {ys : List β}, Paired F xs ys → (∀ x y, x ∈ xs → F x y → G x y) → Paired G xs ys
  | _, _, .nil, _ => .nil
  | _, _, .cons h t, g => .cons (g _ _ List.mem_cons_self h) (paired_in t fun x y hx => g x y (List.mem_cons_of_mem _ hx))
def lstZipM : List Val → Mu → R Val
  | [.loc n, .tup ys], μ => match μ.ob n with
    | some (.lst xs) => if xs.length = ys.length then .ok (.loc μ.nx) (μ.new (.lst (zip2M xs ys))) else .no
    | _ => .no
  | _, _ => .no
section
variable {X : Cx} {E : XK} {e e2 : Expr} {mr : MA} {p q pos zpos : Pos}
theorem pm_listZipM (hc : X.calm = true) (ha : PMA X E [e, e2] mr) (hg : Gl X "list") (hm : X.mg "list" = none) (hv : bootBuiltins "list" = some (.type "list")) (hg2 : Gl X "zip") (hm2 : X.mg "zip" = none)
    (hs : starEach [.Call (.Name "zip" q) [e, e2] [] zpos] X.env = (false, eval (.Call (.Name "zip" q) [e, e2] [] zpos) X.env) :: starEach [] X.env := by rfl)
    (hs2 : starEach [e, e2] X.env = (false, eval e X.env) :: starEach [e2] X.env := by rfl) (hpl : (backTo zpos (starEach [e2] X.env)).any (·.1) = false := by rfl) :
    PM X E (.Call (.Name "list" p) [.Call (.Name "zip" q) [e, e2] [] zpos] [] pos) (mFn lstZipM mr) :=
  PE.imp (pe_listZipM hc ha hg hm hv hg2 hm2 hs hs2 hpl) fun σ H Q ⟨w, ρ, μ, S, EN, hp⟩ => ⟨w, ρ, μ, S, EN, Post.bind hp fun vs μ1 w1 H1 us S1 r1 g1 h1 => by
    unfold lstZipM at h1
    split at h1
    · rename_i n ys
      cases r1 with
      | cons r1 r2 =>
      cases r2 with
      | cons r2 r3 =>
        cases r3
        cases r1
        cases r2 with
        | tup q2 ry =>
          split at h1
          · rename_i xs hn
            split at h1
            · rename_i hl
              obtain ⟨us, q1, rx⟩ := S1.ok _ _ hn
              have l1 := rx.length
              have l2 := ry.length
              refine ⟨_, _, us, _, rfl, .of q1, q2, by omega, fun H' p ts k1 k2 k3 k4 k5 k6 => ?_⟩
              have e0 := hole_upd k5
              have kt : ∀ b o, H1 b = some o → hole H' p b = some o := fun b o z => by
                unfold hole
                rw [if_neg (fun y => by rw [y, k2] at z; cases z)]
                exact k1 b o z
              obtain ⟨S2, g2⟩ := S1.same kt
              have k7 : Paired (fun (t : Addr) (q : V × V) => hole H' p t = some (.tup [q.1, q.2])) ts (us.zip _) := paired_in k6 fun t q ht hq => by
                unfold hole
                rw [if_neg (fun y => k4 (by rw [← y]; exact ht))]
                exact hq
              have rs := zip_vrs (VRs.grow g2 rx) (VRs.grow g2 ry) hl k7
              obtain ⟨w4, S4, g4, e4⟩ := S2.newL (p := p) (by unfold hole; rw [if_pos rfl]) rs
              rw [← e0] at S4 g4
              exact h1 w4 _ _ S4 (by rw [← e4]; exact VR.loc (Nat.lt_succ_self _)) (g2.trans g4)
            · exact h1.elim
          · exact h1.elim
    · exact h1.elim⟩
end

/-! ### never taken; defs called by their argument's name (k25) -/
section
variable {K : PySem.W.Frag} {mg : Str → Option Value}
end

/-! ### x(lambda: e), x tells the error alone: try: deed() except .. return None -/
def mOutX (hs : Ohs) (m : ME) : ME := fun ρ μ => match m ρ μ with
  | .ok _ μ => .ok .non μ
  | .er c fs μ => match findH hs c with
    | some its => match itsM fs its with
      | some vs => .ok (.loc μ.nx) (μ.new (.lst vs))
      | none => .no
    | none => .no
  | .no => .no
def TTx (K : PySem.W.Frag) (hs : Ohs) : (XK → Hp → VK → Prop) → Hp → VK → Prop := fun tl H Q => tl (Eo K hs Q) H fun _ H' => Q .non H'
section
variable {X : Cx} {E : XK}
theorem outx_gives {hs : Ohs} {l : List Clause} {h₀ : ExceptHandler} {hds : List ExceptHandler} {Ng : List Str} {x a q n : Str} {i : Nat} {sg : Scope} {g : Addr} {cdg : Value} {p1 p2 p3 p8 p9 p10 : Pos} {kc : Nat} (hN : Ng.Nodup) (hi : Ng[i]? = some n) (hln : sg.names.lookup n = some .local) (h0 : ∀ f : Addr, (L2.start Ng [V.ref f])[0]? = some (some (V.ref f)))
    (hh : ∀ (s : Shared) (H : Hp), HdsA (cxOf C8.CX0 X.prog X.w X.K X.mg X.base Ng x sg g cdg X.A X.stack s H C8.E0).nox n (h₀ :: hds) l)
    (hw : ∀ cls d H Q σ, Eo X.K hs Q cls d H → i < σ.length → wAsN X.K i (fun _ _ _ _ => False) { nx := fun _ H' => Q .non H', rt := Q } l cls d σ H) (hlen : i < Ng.length) :
    GivesTo X Ng x sg g cdg [.Try [.Expr (.Call (.Name a p1) [] [] p2) p3] (h₀ :: hds) [] [] p8, .Return (some (.Constant .none kc p9)) p10] a q (TTx X.K hs) := by
  intro f c' s H Q tl act hc h
  refine ⟨_, pss_cons (ps_try_asN (X := (cxOf C8.CX0 X.prog X.w X.K X.mg X.base Ng x sg g cdg X.A X.stack s H C8.E0).nox) (i := i)
      (tb := fun W D σ H => ∃ Ech : XK, (∀ cls d σ' H', σ'.length = Ng.length → Ech cls d H' → W cls d σ' H') ∧ σ[0]? = some (some (.ref f)) ∧ H c' = some (CodeO c' q) ∧ tl Ech H fun _ H' => D.nx σ H')
      rfl rfl hN hi hln L2.takes0 (fun W pn xe tk _ => ?_) (hh s H)) (pss_one (ps_ret pe_non)), ?_⟩
  · refine ⟨fun pins s' σ H' D I h' => ?_⟩
    obtain ⟨Ech, hW, h1, h2, h3⟩ := h'
    have tk2 := takes_len (E := Ech) tk hW
    have hp := act _ pn xe Ech p1 p2 tk2 (fun _ _ _ _ h => h)
    exact (pss_one (ps_expr (pos := p3) hp)).run pins s' σ H' D I ⟨h1, h2, h3⟩
  · refine ⟨Eo X.K hs Q, fun cls d σ' H' hl h => hw cls d H' Q σ' h (by rw [hl]; exact hlen), h0 f, hc, h⟩
theorem pm_lamX {hs : Ohs} {m : ME} {x a : Str} {g : Addr} {k : Nat} {pg : Arguments} {bg : List Stmt} {sg : Scope} {dvs : List V} {kws : List (Str × V)} {fd : FuncData} {Ng : List Str} {c P : Addr}
    {params : Arguments} {body : Expr} {scope : Scope} {p lpos pos : Pos} (F : FunD X.K x x pg bg sg dvs kws g fd) (hb : L2.Binds X.K fd [a] []) (hg : Gl X x) (hm : X.mg x = some (.ref g)) (Sg : FnScope Ng [a] sg) (hNg : Ng[0]? = some a) (hva : Vis sg a)
    (hG : ∀ cdv, GivesTo X Ng x sg g cdv bg a (X.env.qual ++ "<lambda>") (TTx X.K hs))
    (TB : TabB X.base X.mg c P) (hcode : X.env.code = .ref c) (hmT : (P, X.env.qual ++ "<lambda>") ∈ TbK X.K) (hu : ∀ p ∈ TbK X.K, p.1 = P → p.2 = X.env.qual ++ "<lambda>") (hr : Room (k + 2) X.A) (L : LamS X.env.scope scope)
    (hbody : ∀ (A : Around) (outer : List Env) (s : Shared) (H : Hp) (E : XK) (f c' : Addr), Room k (A.deeper (lamEnv X scope s.heap.objs.size f c')) → PM (lamCx X A outer s H E scope f c') E body m)
    (hdef : defaultsOf params X.env = ([], []) := by rfl)
    (hbind : ∀ (q : Str) (cl : List (Str × Addr)) (pm cv ctv : Value), bindArgs (PySem.W.kla_fn "<lambda>" q params body scope cl pm cv ctv) ⟨[], []⟩ = pure [] := by exact fun _ _ _ _ _ => rfl)
    (hdb : (x == ("__debug__" : Str)) = false := by decide) (hd : (a == ("__debug__" : Str)) = false := by decide) (hcd : (a == ("__classdict__" : Str)) = false := by decide) :
    PM X E (.Call (.Name x p) [.Lambda params body scope lpos] [] pos) (mOutX hs m) := by
  obtain ⟨oc, od, dV, kV, doc, pm, an, cdv, ct, osl, rfl, lk, hcg, _, _⟩ := F.ex
  refine PE.imp (pe_lamcall (T := TbK X.K) (TT := TTx X.K hs) (t := fun E => tM X.K (relE X.K) E m) hg hm F.kp lk hcg hb Sg hNg hva (hG cdv) TB hcode hmT hu hr L hdef hbind hbody hdb hd hcd) fun σ H Q ⟨w, ρ, μ, S, EN, hp⟩ => ⟨S.tb, fun H1 e t => ?_⟩
  obtain ⟨S1, g1⟩ := S.extN e t
  have hp1 := Post.grow hp g1
  refine ⟨w, ρ, μ, S1, EN.grow g1, ?_⟩
  unfold mOutX at hp1
  cases hm : m ρ μ with
  | no => rw [hm] at hp1; exact hp1
  | ok v μ' =>
    rw [hm] at hp1
    intro w' H' u S' r' g'
    exact hp1 w' H' _ S' .non g'
  | er c fs μ' =>
    rw [hm] at hp1
    intro w' H' d us S' g' hd hk r
    have hp1 : Post X.K (relE X.K) E w μ.nx H1 Q (match findH hs c with
      | some its => match itsM fs its with
        | some vs => .ok (.loc μ'.nx) (μ'.new (.lst vs))
        | none => .no
      | none => .no) := hp1
    split at hp1
    · rename_i its h1
      split at hp1
      · rename_i vs h2
        obtain ⟨ws, e1, e2⟩ := its_rel hk r h2
        refine ⟨c, its, d, us, ws, findH_mem h1, rfl, rfl, hd, e1, fun p np => ?_⟩
        obtain ⟨w2, S2, g2, e3⟩ := S'.newL np e2
        exact hp1 w2 _ _ S2 (by rw [← e3]; exact VR.loc (Nat.lt_succ_self _)) (g'.trans g2)
      · exact hp1.elim
    · exact hp1.elim
end

/-! ### x in (a, b, ..): data of any depth -/
section
variable {X : Cx}
end

/-! ### f() of a def of the law -/
section
variable {X : Cx} {CX : CXT} {k : Nat} {f : Addr} {fd : FuncData} {ps : List Str} {sp : Sp} {dvs : List V} {ds : List Value} {E : XK} {x : Str} {p pos : Pos}
end

/-! ### slices of texts; list(text): the law's level (k26) -/
def slSM (x : Val) (lo hi : Option Int) (μ : Mu) : R Val := match x with
  | .str z => if z.length ≤ 1000000 then .ok (.str (cutS z lo hi)) μ else .no
  | _ => .no
def mSlS (e : ME) (lo hi : MO) : ME := fun ρ μ => (e ρ μ).bind fun x μ => (lo ρ μ).bind fun l μ => (hi ρ μ).bind fun h μ => slSM x l h μ
def lsSM (x : Val) (μ : Mu) : R Val := match x with
  | .str z => if z.length ≤ 1000000 then .ok (.loc μ.nx) (μ.new (.lst (sgns z))) else .no
  | _ => .no
def tListS (ta : TE) : TE := fun σ H Q => ta σ H fun x H1 => ∃ z : Str, x = .str z ∧ z.length ≤ sizeLine ∧ ∀ q, H1 q = none → Q (.ref q) (upd H1 q (.lst (z.cps.toList.map fun c => V.str (sgn c))))
theorem vals_sgl : ∀ (m : List Nat) (l : List Value), l.length = m.length → (∀ (j : Nat) (v : Value), l[j]? = some v → ∃ (c : Nat) (u : Tok), m[j]? = some c ∧ v = Value.str ⟨#[c]⟩ u) → Vals (m.map fun c => V.str (sgn c)) l
  | [], [], _, _ => .nil
  | [], _ :: _, hl, _ => nomatch hl
  | _ :: _, [], hl, _ => nomatch hl
  | c :: m, v :: l, hl, hi => by
    obtain ⟨c', u, a, b⟩ := hi 0 v rfl
    cases a
    refine .cons ⟨u, b⟩ (vals_sgl m l (Nat.succ.inj hl) fun j v' hj => ?_)
    exact hi (j + 1) v' hj
theorem vals_signs {x : Str} {acc : Array Value} (h : ItemsOf (SignAt x) acc x.cps.size) : Vals (x.cps.toList.map fun c => V.str (sgn c)) acc.toList := by
  obtain ⟨hl, hi⟩ := h
  refine vals_sgl _ _ (by rw [Array.length_toList, Array.length_toList, hl]) fun j v hj => ?_
  obtain ⟨c, u, a, b⟩ := hi j v (by rw [← Array.getElem?_toList]; exact hj)
  exact ⟨c, u, by rw [Array.getElem?_toList]; exact a, b⟩
section
variable {X : Cx} {E : XK} {e a : Expr} {me ma : ME} {ta : TE} {pos p : Pos}
theorem pm_sliceS {lo hi : Option Expr} {ml mh : MO} {p2 : Pos} (he : PM X E e me) (hl : PMO X E lo ml) (hh : PMO X E hi mh) : PM X E (.Subscript e (.Slice lo hi none p2) pos) (mSlS me ml mh) :=
  PE.imp (pe_slice sl_str he hl hh) fun σ H Q ⟨w, ρ, μ, S, EN, hp⟩ => ⟨w, ρ, μ, S, EN, Post.bind hp fun x μ1 w1 H1 u1 S1 r1 g1 h1 => ⟨w1, ρ, μ1, S1, EN.grow g1, Post.bind h1 fun l μ2 w2 H2 u2 S2 r2 g2 h2 => ⟨w2, ρ, μ2, S2, (EN.grow g1).grow g2, Post.bind h2 fun h μ3 w3 H3 u3 S3 r3 g3 h3 => by
    cases r2
    cases r3
    have r1 := VR.grow g3 (VR.grow g2 r1)
    unfold slSM at h3
    split at h3
    · cases r1
      split at h3
      · rename_i hz
        exact ⟨_, rfl, Nat.le_of_lt (lim6 hz), h3 w3 H3 _ S3 (.str _) .refl⟩
      · exact h3.elim
    · exact h3.elim⟩⟩⟩
theorem pe_listS (hc : X.calm = true) (hg : Gl X "list") (hm : X.mg "list" = none) (hv : bootBuiltins "list" = some (.type "list")) (ha : PE X a ta)
    (na : starEach [a] X.env = (false, eval a X.env) :: starEach [] X.env := by rfl) : PE X (.Call (.Name "list" p) [a] [] pos) (tListS ta) := by
  refine ⟨fun pn s σ H Q J h => ?_⟩
  refine wpAny_Call_Name_kw (ld_blt J hg hm hv ?_)
  refine callWith_type1 (args_cons (thn (ha.run pn s σ H _ J h) fun v s1 ⟨x, H1, I1, r1, q1⟩ => args_nil ?_) na) na rfl
  obtain ⟨z, rfl, hz, q⟩ := q1
  obtain ⟨t, rfl⟩ := r1
  refine call_list_str (I1.ok.hd hc) z t (fun h' tk acc c k hS hI => ?_) (hn := hz)
  have hp := I1.hok.fresh (Nat.le_refl _)
  exact ⟨.ref s1.heap.objs.size, upd H1 s1.heap.objs.size (.lst (z.cps.toList.map fun c => V.str (sgn c))), I1.laid (t' := tk) k (Nat.le_refl _) ⟨by rw [List.length_map, Array.length_toList]; exact hz, acc.toList, c, vals_signs hI, hS⟩, rfl, q _ hp⟩
theorem pm_listS (hc : X.calm = true) (hg : Gl X "list") (hm : X.mg "list" = none) (hv : bootBuiltins "list" = some (.type "list")) (ha : PM X E a ma)
    (na : starEach [a] X.env = (false, eval a X.env) :: starEach [] X.env := by rfl) : PM X E (.Call (.Name "list" p) [a] [] pos) (mUn lsSM ma) :=
  PE.imp (pe_listS hc hg hm hv ha na) fun σ H Q ⟨w, ρ, μ, S, EN, hp⟩ => ⟨w, ρ, μ, S, EN, Post.bind hp fun x μ1 w1 H1 u1 S1 r1 g1 h1 => by
    unfold lsSM at h1
    split at h1
    · cases r1
      split at h1
      · rename_i z hz
        refine ⟨z, rfl, Nat.le_of_lt (lim6 hz), fun q nq => ?_⟩
        have rv : VRs X.K w1.ad μ1.nx H1 (sgns z) (z.cps.toList.map fun c => V.str (sgn c)) := by
          unfold sgns
          generalize z.cps.toList = l
          induction l with
          | nil => exact .nil
          | cons c l ih => exact .cons (.str _) ih
        obtain ⟨w2, S2, g2, e2⟩ := S1.newL nq rv
        exact h1 w2 _ _ S2 (by rw [← e2]; exact VR.loc (Nat.lt_succ_self _)) g2
      · exact h1.elim
    · exact h1.elim⟩
end

def m_is_number_text_1 : MS :=
    sIf (mOr (mNot (mTest (mChain leM leM (mC (.int 1)) (mFn lenM (mCons (mV 0) (mNil))) (mC (.int 9))))) (mNot (mTest (mFn allM (mCons (mLc (iStrM (mV 0)) [1] (tgN 1) (mYes) (mOp inSgM (mV 1) (mC (.str "0123456789")))) (mNil)))))) (sRet (mC (.bl false))) (sNil)
def m_is_number_text_2 : MS :=
    sRet (mOrT (mOp eqM (mV 0) (mC (.str "0"))) (mOp neM (mOp ixSM (mV 0) (mC (.int 0))) (mC (.str "0"))))
def m_is_number_text : MS :=
    sSeq (m_is_number_text_1)
    (m_is_number_text_2)
def d_is_number_text : List Val → Mu → R Val := runM 1 2 m_is_number_text
section
variable {P : Program} {w : World} {K : PySem.W.Frag} {mg : Str → Option Value} {base : Heap}
theorem sm_is_number_text : FnScope ["text", "sign"] ["text"] (defScope s_is_number_text) := ⟨rfl, rfl, rfl, by decide +kernel, rfl, by decide +kernel, by decide +kernel⟩
theorem bm_is_number_text (T : Tx K mg) : Binds K (fdAt K (gA "is_number_text" K)) ["text"] [] := FunD.bindsN T.f_is_number_text fun _ _ _ _ _ _ us hl => match us, hl with | [_], _ => rfl
theorem okm_is_number_text (T : Tx K mg) : FnOk P w K mg base CX0 1 (gA "is_number_text" K) (fdAt K (gA "is_number_text" K)) ["text"] (spM K 1 d_is_number_text) := by
  refine okO T.f_is_number_text sm_is_number_text rfl rfl fun cdv A outer s H hr => ?_
  have hu := hr.units
  have hu1 := hu_of hr
  have hu2 := hr.units1
  exact pmss_cons (pms_if (PMW.t (pmw_or (pmt_not (pmt_chain c_le c_le (pm_int) (pm_callB call_len p_len (by rfl) T.free_len PySem.boot_len (pma_cons (pm_var (pv 0)) (pma_nil))) (pm_gint (by rfl) T.i_MOST_DIGITS))) (pmw_or1 (pmt_not (pmt_val (pm_callB (cr_allB rfl) p_all (by rfl) T.free_all (by decide +kernel) (pma_cons (pm_lc (own := [("sign", 1)]) rfl sm_is_number_text.nd (pmi_str (pm_var (pv 0))) (blkOk_by (N := ["text", "sign"]) (sc := defScope s_is_number_text) (by decide +kernel)) (fun _ _ _ _ _ => pmg_name (i := 1) sm_is_number_text.nd rfl (by first | exact Or.inl rfl | exact Or.inr rfl)) (fun _ _ _ _ _ => pmts_nil) (fun _ _ _ _ _ => pm_cmp c_inSg (pm_var (pv 1)) (pm_gstr (by rfl) T.t_DIGITS))) (pma_nil)))))))) (pmss_one (pms_ret (pm_bl))) (pmss_nil))
      (pmss_one (pms_ret (pm_orT (pm_cmp (c_eq hu) (pm_var (pv 0)) (pm_str)) (pm_one (pm_cmp (c_ne hu) (pm_ixS (pm_var (pv 0)) (pm_int)) (pm_str))))))
end

def m_is_argument_1 : MS :=
    sIf (mTest (mOp eqM (mV 1) (mC (.str "word")))) (sRet (mOp inTM (mV 0) (mTup (mCons (mC (.str "level")) (mCons (mC (.str "edge")) (mCons (mC (.str "once")) (mNil))))))) (sNil)
def m_is_argument_2 : MS :=
    sRet (mOrT (mCall 1 d_is_number_text (mCons (mV 0) (mNil))) (mAndT (mOp eqM (mV 1) (mC (.str "optional"))) (mOp eqM (mV 0) (mC (.str "-")))))
def m_is_argument : MS :=
    sSeq (m_is_argument_1)
    (m_is_argument_2)
def d_is_argument : List Val → Mu → R Val := runM 2 2 m_is_argument
section
variable {P : Program} {w : World} {K : PySem.W.Frag} {mg : Str → Option Value} {base : Heap}
theorem sm_is_argument : FnScope ["text", "kind"] ["text", "kind"] (defScope s_is_argument) := ⟨rfl, rfl, rfl, by decide +kernel, rfl, by decide +kernel, by decide +kernel⟩
theorem bm_is_argument (T : Tx K mg) : Binds K (fdAt K (gA "is_argument" K)) ["text", "kind"] [] := FunD.bindsN T.f_is_argument fun _ _ _ _ _ _ us hl => match us, hl with | [_, _], _ => rfl
theorem okm_is_argument (T : Tx K mg) : FnOk P w K mg base CX0 2 (gA "is_argument" K) (fdAt K (gA "is_argument" K)) ["text", "kind"] (spM K 2 d_is_argument) := by
  refine okO T.f_is_argument sm_is_argument rfl rfl fun cdv A outer s H hr => ?_
  have hu := hr.units
  have hu1 := hu_of hr
  have hu2 := hr.units1
  exact pmss_cons (pms_if (pmt_cmp (c_eq hu) (pm_var (pv 1)) (pm_str)) (pmss_one (pms_ret (pm_cmp c_inT (pm_var (pv 0)) (pm_tup (pma_cons (pm_gstr (by rfl) T.t_LEVEL) (pma_cons (pm_gstr (by rfl) T.t_EDGE) (pma_cons (pm_gstr (by rfl) T.t_ONCE) (pma_nil)))))))) (pmss_nil))
      (pmss_one (pms_ret (pm_orT (pm_callO (okm_is_number_text T) (hr.mono (by decide)) (by rfl) T.g_is_number_text T.f_is_number_text.kp (bm_is_number_text T) (pma_cons (pm_var (pv 0)) (pma_nil))) (pm_one (pm_andT (pm_cmp (c_eq hu) (pm_var (pv 1)) (pm_str)) (pm_one (pm_cmp (c_eq hu) (pm_var (pv 0)) (pm_gstr (by rfl) T.t_NOTHING))))))))
end

def m_argument_in_1 : MS :=
    sRet (mIf (mTest (mOp eqM (mV 0) (mC (.str "-")))) (mC .non) (mFn intSM (mCons (mV 0) (mNil))))
def m_argument_in : MS :=
    sSeq (sIf (mTest (mOp eqM (mV 1) (mC (.str "word")))) (sRet (mV 0)) (sNil))
    (m_argument_in_1)
def d_argument_in : List Val → Mu → R Val := runM 2 2 m_argument_in
section
variable {P : Program} {w : World} {K : PySem.W.Frag} {mg : Str → Option Value} {base : Heap}
theorem sm_argument_in : FnScope ["text", "kind"] ["text", "kind"] (defScope s_argument_in) := ⟨rfl, rfl, rfl, by decide +kernel, rfl, by decide +kernel, by decide +kernel⟩
theorem bm_argument_in (T : Tx K mg) : Binds K (fdAt K (gA "argument_in" K)) ["text", "kind"] [] := FunD.bindsN T.f_argument_in fun _ _ _ _ _ _ us hl => match us, hl with | [_, _], _ => rfl
theorem okm_argument_in (T : Tx K mg) : FnOk P w K mg base CX0 1 (gA "argument_in" K) (fdAt K (gA "argument_in" K)) ["text", "kind"] (spM K 2 d_argument_in) := by
  refine okO T.f_argument_in sm_argument_in rfl rfl fun cdv A outer s H hr => ?_
  have hu := hr.units
  have hu1 := hu_of hr
  have hu2 := hr.units1
  exact pmss_cons (pms_if (pmt_cmp (c_eq hu) (pm_var (pv 1)) (pm_str)) (pmss_one (pms_ret (pm_var (pv 0)))) (pmss_nil))
      (pmss_one (pms_ret (pm_ifExp (pmt_cmp (c_eq hu) (pm_var (pv 0)) (pm_gstr (by rfl) T.t_NOTHING)) (pm_non) (pm_callTy call_int_str p_intS (by rfl) T.free_int (by decide +kernel) (pma_cons (pm_var (pv 0)) (pma_nil))))))
end

def m_call_in_1 : MS :=
    sIf (mOr (mTest (mOp eqM (mFn lenM (mCons (mV 3) (mNil))) (mC (.int 0)))) (mTest (mOp neM (mFn lenM (mCons (mV 2) (mNil))) (mFn lenM (mCons (mV 3) (mNil)))))) (sRet (mC .non)) (sNil)
def m_call_in_2 : MS :=
    sIf (mNot (mTest (mFn allM (mCons (mLc (iSeq (mV 4)) [5, 6] (tgT [5, 6]) (mYes) (mCall 2 d_is_argument (mCons (mV 5) (mCons (mV 6) (mNil))))) (mNil))))) (sRet (mC .non)) (sNil)
def m_call_in_3 : MS :=
    sRet (mTup (mCons (mV 1) (mStar (mLc (iSeq (mV 4)) [5, 6] (tgT [5, 6]) (mYes) (mCall 2 d_argument_in (mCons (mV 5) (mCons (mV 6) (mNil))))) (mNil))))
def m_call_in : MS :=
    sSeq (sStar 1 2 (mUn (splM " ") (mV 0)))
    (sSeq (sSet 3 (mArgs (mV 1) (mTup (mNil))))
    (sSeq (m_call_in_1)
    (sSeq (sSet 4 (mFn lstZipM (mCons (mV 2) (mCons (mV 3) (mNil)))))
    (sSeq (m_call_in_2)
    (m_call_in_3)))))
def d_call_in : List Val → Mu → R Val := runM 1 7 m_call_in
section
variable {P : Program} {w : World} {K : PySem.W.Frag} {mg : Str → Option Value} {base : Heap}
theorem sm_call_in : FnScope ["text", "word", "parts", "kinds", "pairs", "part", "kind"] ["text"] (defScope s_call_in) := ⟨rfl, rfl, rfl, by decide +kernel, rfl, by decide +kernel, by decide +kernel⟩
theorem bm_call_in (T : Tx K mg) : Binds K (fdAt K (gA "call_in" K)) ["text"] [] := FunD.bindsN T.f_call_in fun _ _ _ _ _ _ us hl => match us, hl with | [_], _ => rfl
theorem okm_call_in (T : Tx K mg) (AD : ArgD K w) : FnOk P w K mg base CX0 3 (gA "call_in" K) (fdAt K (gA "call_in" K)) ["text"] (spM K 1 d_call_in) := by
  refine okO T.f_call_in sm_call_in rfl rfl fun cdv A outer s H hr => ?_
  have hu := hr.units
  have hu1 := hu_of hr
  have hu2 := hr.units1
  exact pmss_cons (pms_star (i := 1) (j := 2) rfl (pm_split (pm_var (pv 0)) pm_str) sm_call_in.nd rfl rfl (by first | exact Or.inl rfl | exact Or.inr rfl) (by first | exact Or.inl rfl | exact Or.inr rfl))
      (pmss_cons (pms_set (i := 3) sm_call_in.nd rfl (by first | exact Or.inl rfl | exact Or.inr rfl) (pm_argsGet T AD (by rfl) (pm_var (pv 1)) (pm_tup (pma_nil))))
      (pmss_cons (pms_if (PMW.t (pmw_or (pmt_cmp (c_eq hu) (pm_callB call_len p_len (by rfl) T.free_len PySem.boot_len (pma_cons (pm_var (pv 3)) (pma_nil))) (pm_int)) (pmw_or1 (pmt_cmp (c_ne hu) (pm_callB call_len p_len (by rfl) T.free_len PySem.boot_len (pma_cons (pm_var (pv 2)) (pma_nil))) (pm_callB call_len p_len (by rfl) T.free_len PySem.boot_len (pma_cons (pm_var (pv 3)) (pma_nil))))))) (pmss_one (pms_ret (pm_non))) (pmss_nil))
      (pmss_cons (pms_set (i := 4) sm_call_in.nd rfl (by first | exact Or.inl rfl | exact Or.inr rfl) (pm_listZipM rfl (pma_cons (pm_var (pv 2)) (pma_cons (pm_var (pv 3)) (pma_nil))) (by rfl) T.free_list (by rfl) (by rfl) T.free_zip))
      (pmss_cons (pms_if (pmt_not (pmt_val (pm_callB (cr_allB rfl) p_all (by rfl) T.free_all (by decide +kernel) (pma_cons (pm_lc (own := [("part", 5), ("kind", 6)]) rfl sm_call_in.nd (pmi_seq (pm_var (pv 4))) (blkOk_by (N := ["text", "word", "parts", "kinds", "pairs", "part", "kind"]) (sc := defScope s_call_in) (by decide +kernel)) (fun _ _ _ _ _ => pmg_tup rfl (pmgs_cons (i := 5) sm_call_in.nd rfl (by first | exact Or.inl rfl | exact Or.inr rfl) (pmgs_cons (i := 6) sm_call_in.nd rfl (by first | exact Or.inl rfl | exact Or.inr rfl) (pmgs_nil)))) (fun _ _ _ _ _ => pmts_nil) (fun _ _ _ _ _ => pm_callO (okm_is_argument T) (hr.mono (by decide)) (by rfl) T.g_is_argument T.f_is_argument.kp (bm_is_argument T) (pma_cons (pm_var (pv 5)) (pma_cons (pm_var (pv 6)) (pma_nil))))) (pma_nil))))) (pmss_one (pms_ret (pm_non))) (pmss_nil))
      (pmss_one (pms_ret (pm_tup (pma_cons (pm_var (pv 1)) (pma_star (pm_lc (own := [("part", 5), ("kind", 6)]) rfl sm_call_in.nd (pmi_seq (pm_var (pv 4))) (blkOk_by (N := ["text", "word", "parts", "kinds", "pairs", "part", "kind"]) (sc := defScope s_call_in) (by decide +kernel)) (fun _ _ _ _ _ => pmg_tup rfl (pmgs_cons (i := 5) sm_call_in.nd rfl (by first | exact Or.inl rfl | exact Or.inr rfl) (pmgs_cons (i := 6) sm_call_in.nd rfl (by first | exact Or.inl rfl | exact Or.inr rfl) (pmgs_nil)))) (fun _ _ _ _ _ => pmts_nil) (fun _ _ _ _ _ => pm_callO (okm_argument_in T) (hr.mono (by decide)) (by rfl) T.g_argument_in T.f_argument_in.kp (bm_argument_in T) (pma_cons (pm_var (pv 5)) (pma_cons (pm_var (pv 6)) (pma_nil))))) (pma_nil))))))))))
end

def m_read_call_1 : MS :=
    sIf (mNot (mTest (mUn isiT (mV 0)))) (sErr "BadText" "line" (mUn negM (mC (.int 1)))) (sNil)
def m_read_call_2 : MS :=
    sIf (mTest (mOp isM' (mV 1) (mC .non))) (sErr "BadText" "line" (mC (.int 0))) (sNil)
def m_read_call : MS :=
    sSeq (m_read_call_1)
    (sSeq (sSet 1 (mCall 1 d_call_in (mCons (mV 0) (mNil))))
    (sSeq (m_read_call_2)
    (sRet (mV 1))))
def d_read_call : List Val → Mu → R Val := runM 1 2 m_read_call
section
variable {P : Program} {w : World} {K : PySem.W.Frag} {mg : Str → Option Value} {base : Heap}
theorem sm_read_call : FnScope ["text", "call"] ["text"] (defScope s_read_call) := ⟨rfl, rfl, rfl, by decide +kernel, rfl, by decide +kernel, by decide +kernel⟩
theorem bm_read_call (T : Tx K mg) : Binds K (fdAt K (gA "read_call" K)) ["text"] [] := FunD.bindsN T.f_read_call fun _ _ _ _ _ _ us hl => match us, hl with | [_], _ => rfl
theorem okm_read_call (T : Tx K mg) (AD : ArgD K w) : FnOk P w K mg base (L2.CX P w) 4 (gA "read_call" K) (fdAt K (gA "read_call" K)) ["text"] (spX K 1 d_read_call) := by
  refine okX T.f_read_call sm_read_call rfl rfl fun cdv A outer s H E hr => ?_
  have hu := hr.units
  have hu1 := hu_of hr
  have hu2 := hr.units1
  exact pmss_cons (pms_if (pmt_not (pmt_val (pm_isiT (by rfl) T.free_isinstance (by rfl) T.free_str (by decide +kernel) (pm_var (pv 0))))) (pmss_one (pms_err rfl (takes_of rfl rfl rfl rfl) T.x_BadText (ei_BadText T) (hr.mono (by decide)) (eb_BadText T) pass0 (by rfl) T.g_BadText (pm_neg (pm_int)))) (pmss_nil))
      (pmss_cons (pms_set (i := 1) sm_read_call.nd rfl (by first | exact Or.inl rfl | exact Or.inr rfl) (pm_callO (okm_call_in T AD) (hr.mono (by decide)) (by rfl) T.g_call_in T.f_call_in.kp (bm_call_in T) (pma_cons (pm_var (pv 0)) (pma_nil))))
      (pmss_cons (pms_if (pmt_cmp c_is (pm_var (pv 1)) (pm_non)) (pmss_one (pms_err rfl (takes_of rfl rfl rfl rfl) T.x_BadText (ei_BadText T) (hr.mono (by decide)) (eb_BadText T) pass0 (by rfl) T.g_BadText (pm_int))) (pmss_nil))
      (pmss_one (pms_ret (pm_var (pv 1))))))
end

def m_read_calls_1 : MS :=
    sIf (mNot (mTest (mUn isiT (mV 0)))) (sErr "BadText" "line" (mUn negM (mC (.int 1)))) (sNil)
def m_read_calls_2 : MS :=
    sSeq (sSet 4 (mCall 1 d_call_in (mCons (mV 3) (mNil))))
    (sSeq (sIf (mTest (mOp isM' (mV 4) (mC .non))) (sErr "BadText" "line" (mV 2)) (sNil))
    (sExpr (mBm appM (mV 1) (mCons (mV 4) (mNil)))))
def m_read_calls_3 : MS :=
    sFor (iEnm (mCons (mIf (mTest (mOp neM (mV 0) (mC (.str "")))) (mUn (splM "\n") (mV 0)) (mLst (mNil))) (mNil))) (tgT [2, 3]) (m_read_calls_2)
def m_read_calls : MS :=
    sSeq (m_read_calls_1)
    (sSeq (sSet 1 (mLst (mNil)))
    (sSeq (m_read_calls_3)
    (sRet (mV 1))))
def d_read_calls : List Val → Mu → R Val := runM 1 5 m_read_calls
section
variable {P : Program} {w : World} {K : PySem.W.Frag} {mg : Str → Option Value} {base : Heap}
theorem sm_read_calls : FnScope ["text", "found", "at", "line", "call"] ["text"] (defScope s_read_calls) := ⟨rfl, rfl, rfl, by decide +kernel, rfl, by decide +kernel, by decide +kernel⟩
theorem bm_read_calls (T : Tx K mg) : Binds K (fdAt K (gA "read_calls" K)) ["text"] [] := FunD.bindsN T.f_read_calls fun _ _ _ _ _ _ us hl => match us, hl with | [_], _ => rfl
theorem okm_read_calls (T : Tx K mg) (AD : ArgD K w) : FnOk P w K mg base (L2.CX P w) 4 (gA "read_calls" K) (fdAt K (gA "read_calls" K)) ["text"] (spX K 1 d_read_calls) := by
  refine okX T.f_read_calls sm_read_calls rfl rfl fun cdv A outer s H E hr => ?_
  have hu := hr.units
  have hu1 := hu_of hr
  have hu2 := hr.units1
  exact pmss_cons (pms_if (pmt_not (pmt_val (pm_isiT (by rfl) T.free_isinstance (by rfl) T.free_str (by decide +kernel) (pm_var (pv 0))))) (pmss_one (pms_err rfl (takes_of rfl rfl rfl rfl) T.x_BadText (ei_BadText T) (hr.mono (by decide)) (eb_BadText T) pass0 (by rfl) T.g_BadText (pm_neg (pm_int)))) (pmss_nil))
      (pmss_cons (pms_set (i := 1) sm_read_calls.nd rfl (by first | exact Or.inl rfl | exact Or.inr rfl) (pm_lst (pma_nil)))
      (pmss_cons (pms_for (passes_of rfl) rfl (pmi_enm (by rfl) T.free_enumerate (pma_cons (pm_ifExp (pmt_cmp (c_ne hu) (pm_var (pv 0)) (pm_str)) (pm_split (pm_var (pv 0)) pm_str) (pm_lst (pma_nil))) (pma_nil))) (pmg_tup rfl (pmgs_cons (i := 2) sm_read_calls.nd rfl (by first | exact Or.inl rfl | exact Or.inr rfl) (pmgs_cons (i := 3) sm_read_calls.nd rfl (by first | exact Or.inl rfl | exact Or.inr rfl) (pmgs_nil)))) (pmss_cons (pms_set (i := 4) sm_read_calls.nd rfl (by first | exact Or.inl rfl | exact Or.inr rfl) (pm_callO (okm_call_in T AD) (hr.mono (by decide)) (by rfl) T.g_call_in T.f_call_in.kp (bm_call_in T) (pma_cons (pm_var (pv 3)) (pma_nil))))
      (pmss_cons (pms_if (pmt_cmp c_is (pm_var (pv 4)) (pm_non)) (pmss_one (pms_err rfl (takes_of rfl rfl rfl rfl) T.x_BadText (ei_BadText T) (hr.mono (by decide)) (eb_BadText T) pass0 (by rfl) T.g_BadText (pm_var (pv 2)))) (pmss_nil))
      (pmss_one (pms_expr (pm_bmL PySem.F.slot_list_append PySem.F.type_list_append mt_append p_append (pm_var (pv 1)) (pma_cons (pm_var (pv 4)) (pma_nil))))))))
      (pmss_one (pms_ret (pm_var (pv 1))))))
end

def m__law_bag_1 : MS :=
    sSet 3 (mOp modM (mFn intM (mCons (mOp addM (mOp addM (mOp addM (mOp mulM (mV 3) (mC (.int 44497))) (mOp modM (mFn intM (mCons (mV 5) (mNil))) (mC (.int 2147483549)))) (mOp mulM (mC (.int 71)) (mV 4))) (mC (.int 9))) (mNil))) (mC (.int 2147483549)))
def m__law_bag : MS :=
    sSeq (sSet 2 (mIf (mTest (mOp ltM (mV 1) (mFn lenM (mCons (mV 0) (mNil))))) (mOp getM (mV 0) (mV 1)) (mC (.int 0))))
    (sSeq (sSet 3 (mOp addM (mOp mulM (mC (.int 5231)) (mV 1)) (mC (.int 233))))
    (sSeq (sFor (iEnm (mCons (mSl (mV 0) (mP0) (mP (mC (.int 40)))) (mNil))) (tgT [4, 5]) (m__law_bag_1))
    (sRet (mLst (mCons (mIf (mTest (mOp geM (mFn absM (mCons (mV 2) (mNil))) (mOp powM (mC (.int 10)) (mC (.int 18))))) (mFn absM (mCons (mV 2) (mNil))) (mC (.int 0))) (mCons (mV 3) (mNil)))))))
def d__law_bag : List Val → Mu → R Val := runM 2 6 m__law_bag
section
variable {P : Program} {w : World} {K : PySem.W.Frag} {mg : Str → Option Value} {base : Heap}
theorem sm__law_bag : FnScope ["_law_script", "_law_at", "_law_cell", "_law_blend", "_law_k", "_law_each"] ["_law_script", "_law_at"] (defScope s__law_bag) := ⟨rfl, rfl, rfl, by decide +kernel, rfl, by decide +kernel, by decide +kernel⟩
theorem bm__law_bag (T : Tx K mg) : Binds K (fdAt K (gA "_law_bag" K)) ["_law_script", "_law_at"] [] := FunD.bindsN T.f__law_bag fun _ _ _ _ _ _ us hl => match us, hl with | [_, _], _ => rfl
theorem okm__law_bag (T : Tx K mg) : FnG P w K mg base CX0 1 (gA "_law_bag" K) (fdAt K (gA "_law_bag" K)) ["_law_script", "_law_at"] (spM K 2 d__law_bag) := by
  refine okM T.f__law_bag sm__law_bag rfl rfl fun cdv A outer s H hg hr => ?_
  have hu := hr.units
  have hu1 := hu_of hr
  have hu2 := hr.units1
  exact pmss_cons (pms_set (i := 2) sm__law_bag.nd rfl (by first | exact Or.inl rfl | exact Or.inr rfl) (pm_ifExp (pmt_cmp c_lt (pm_var (pv 1)) (pm_callB call_len p_len (by rfl) T.free_len PySem.boot_len (pma_cons (pm_var (pv 0)) (pma_nil)))) (pm_ix (pm_var (pv 0)) (pm_var (pv 1))) (pm_int)))
      (pmss_cons (pms_set (i := 3) sm__law_bag.nd rfl (by first | exact Or.inl rfl | exact Or.inr rfl) (pm_bin b_add (pm_bin b_mul (pm_int) (pm_var (pv 1))) (pm_int)))
      (pmss_cons (pms_for PassesOwn.never rfl (pmi_enm (by rfl) T.free_enumerate (pma_cons (pm_slice (pm_var (pv 0)) (pmo_none) (pmo_some (pm_int))) (pma_nil))) (pmg_tup rfl (pmgs_cons (i := 4) sm__law_bag.nd rfl (by first | exact Or.inl rfl | exact Or.inr rfl) (pmgs_cons (i := 5) sm__law_bag.nd rfl (by first | exact Or.inl rfl | exact Or.inr rfl) (pmgs_nil)))) (pmss_one (pms_set (i := 3) sm__law_bag.nd rfl (by first | exact Or.inl rfl | exact Or.inr rfl) (pm_bin b_mod (pm_callTy call_int1 p_int (by rfl) T.free_int (by decide +kernel) (pma_cons (pm_bin b_add (pm_bin b_add (pm_bin b_add (pm_bin b_mul (pm_var (pv 3)) (pm_int)) (pm_bin b_mod (pm_callTy call_int1 p_int (by rfl) T.free_int (by decide +kernel) (pma_cons (pm_var (pv 5)) (pma_nil))) (pm_int))) (pm_bin b_mul (pm_int) (pm_var (pv 4)))) (pm_int)) (pma_nil))) (pm_int)))))
      (pmss_one (pms_ret (pm_lst (pma_cons (pm_ifExp (pmt_cmp c_ge (pm_callB call_abs p_abs (by rfl) T.free_abs (by decide +kernel) (pma_cons (pm_var (pv 2)) (pma_nil))) (pm_bin b_pow (pm_int) (pm_int))) (pm_callB call_abs p_abs (by rfl) T.free_abs (by decide +kernel) (pma_cons (pm_var (pv 2)) (pma_nil))) (pm_int)) (pma_cons (pm_var (pv 3)) (pma_nil))))))))
end

def m__law_take : MS :=
    sSeq (sIf (mTest (mOp gtM (mOp getM (mV 0) (mC (.int 0))) (mC (.int 0)))) (sSeq (sSet 2 (mOp modM (mFn intM (mCons (mOp getM (mV 0) (mC (.int 0))) (mNil))) (mV 1)))
    (sSeq (sSto stoM (mV 0) (mC (.int 0)) (mOp fdivM (mOp getM (mV 0) (mC (.int 0))) (mV 1)))
    (sRet (mV 2)))) (sNil))
    (sSeq (sSto stoM (mV 0) (mC (.int 1)) (mOp modM (mFn intM (mCons (mOp addM (mOp mulM (mOp getM (mV 0) (mC (.int 1))) (mC (.int 38177))) (mC (.int 4001))) (mNil))) (mC (.int 2147483587))))
    (sRet (mOp modM (mOp fdivM (mOp modM (mFn intM (mCons (mOp mulM (mOp fdivM (mOp getM (mV 0) (mC (.int 1))) (mC (.int 11))) (mC (.int 52817))) (mNil))) (mC (.int 2147483629))) (mC (.int 32))) (mV 1))))
def d__law_take : List Val → Mu → R Val := runM 2 3 m__law_take
section
variable {P : Program} {w : World} {K : PySem.W.Frag} {mg : Str → Option Value} {base : Heap}
theorem sm__law_take : FnScope ["_law_bag_here", "_law_many", "_law_digit"] ["_law_bag_here", "_law_many"] (defScope s__law_take) := ⟨rfl, rfl, rfl, by decide +kernel, rfl, by decide +kernel, by decide +kernel⟩
theorem bm__law_take (T : Tx K mg) : Binds K (fdAt K (gA "_law_take" K)) ["_law_bag_here", "_law_many"] [] := FunD.bindsN T.f__law_take fun _ _ _ _ _ _ us hl => match us, hl with | [_, _], _ => rfl
theorem okm__law_take (T : Tx K mg) : FnG P w K mg base CX0 1 (gA "_law_take" K) (fdAt K (gA "_law_take" K)) ["_law_bag_here", "_law_many"] (spM K 2 d__law_take) := by
  refine okM T.f__law_take sm__law_take rfl rfl fun cdv A outer s H hg hr => ?_
  have hu := hr.units
  have hu1 := hu_of hr
  have hu2 := hr.units1
  exact pmss_cons (pms_if (pmt_cmp c_gt (pm_ix (pm_var (pv 0)) (pm_int)) (pm_int)) (pmss_cons (pms_set (i := 2) sm__law_take.nd rfl (by first | exact Or.inl rfl | exact Or.inr rfl) (pm_bin b_mod (pm_callTy call_int1 p_int (by rfl) T.free_int (by decide +kernel) (pma_cons (pm_ix (pm_var (pv 0)) (pm_int)) (pma_nil))) (pm_var (pv 1))))
      (pmss_cons (pms_sto (pm_bin b_fdiv (pm_ix (pm_var (pv 0)) (pm_int)) (pm_var (pv 1))) (pm_var (pv 0)) (pm_int))
      (pmss_one (pms_ret (pm_var (pv 2)))))) (pmss_nil))
      (pmss_cons (pms_sto (pm_bin b_mod (pm_callTy call_int1 p_int (by rfl) T.free_int (by decide +kernel) (pma_cons (pm_bin b_add (pm_bin b_mul (pm_ix (pm_var (pv 0)) (pm_int)) (pm_int)) (pm_int)) (pma_nil))) (pm_int)) (pm_var (pv 0)) (pm_int))
      (pmss_one (pms_ret (pm_bin b_mod (pm_bin b_fdiv (pm_bin b_mod (pm_callTy call_int1 p_int (by rfl) T.free_int (by decide +kernel) (pma_cons (pm_bin b_mul (pm_bin b_fdiv (pm_ix (pm_var (pv 0)) (pm_int)) (pm_int)) (pm_int)) (pma_nil))) (pm_int)) (pm_int)) (pm_var (pv 1))))))
end

def m__law_of : MS :=
    sRet (mOp getM (mV 1) (mCall 2 d__law_take (mCons (mV 0) (mCons (mFn lenM (mCons (mV 1) (mNil))) (mNil)))))
def d__law_of : List Val → Mu → R Val := runM 2 2 m__law_of
section
variable {P : Program} {w : World} {K : PySem.W.Frag} {mg : Str → Option Value} {base : Heap}
theorem sm__law_of : FnScope ["_law_bag_here", "_law_some"] ["_law_bag_here", "_law_some"] (defScope s__law_of) := ⟨rfl, rfl, rfl, by decide +kernel, rfl, by decide +kernel, by decide +kernel⟩
theorem bm__law_of (T : Tx K mg) : Binds K (fdAt K (gA "_law_of" K)) ["_law_bag_here", "_law_some"] [] := FunD.bindsN T.f__law_of fun _ _ _ _ _ _ us hl => match us, hl with | [_, _], _ => rfl
theorem okm__law_of (T : Tx K mg) : FnG P w K mg base CX0 2 (gA "_law_of" K) (fdAt K (gA "_law_of" K)) ["_law_bag_here", "_law_some"] (spM K 2 d__law_of) := by
  refine okM T.f__law_of sm__law_of rfl rfl fun cdv A outer s H hg hr => ?_
  have hu := hr.units
  have hu1 := hu_of hr
  have hu2 := hr.units1
  exact pmss_one (pms_ret (pm_ix (pm_var (pv 1)) (pm_call (okm__law_take T) hg (hr.mono (by decide)) (by rfl) T.g__law_take T.f__law_take.kp (bm__law_take T) (pma_cons (pm_var (pv 0)) (pma_cons (pm_callB call_len p_len (by rfl) T.free_len PySem.boot_len (pma_cons (pm_var (pv 1)) (pma_nil))) (pma_nil))))))
end

def m__law_is_number_1 : MS :=
    sIf (mOr (mTest (mOp eqM (mV 0) (mC (.str "")))) (mTest (mOp neM (mLc (iStrM (mV 0)) [1] (tgN 1) (mTest (mOp ninM (mV 1) (mUn lsSM (mC (.str "0123456789"))))) (mV 1)) (mLst (mNil))))) (sRet (mC (.bl false))) (sNil)
def m__law_is_number_2 : MS :=
    sRet (mAndT (mOp ltM (mFn lenM (mCons (mV 0) (mNil))) (mC (.int 10))) (mOrT (mOp eqM (mV 0) (mC (.str "0"))) (mOp neM (mOp ixSM (mV 0) (mC (.int 0))) (mC (.str "0")))))
def m__law_is_number : MS :=
    sSeq (m__law_is_number_1)
    (m__law_is_number_2)
def d__law_is_number : List Val → Mu → R Val := runM 1 2 m__law_is_number
section
variable {P : Program} {w : World} {K : PySem.W.Frag} {mg : Str → Option Value} {base : Heap}
theorem sm__law_is_number : FnScope ["_law_word", "_law_sign"] ["_law_word"] (defScope s__law_is_number) := ⟨rfl, rfl, rfl, by decide +kernel, rfl, by decide +kernel, by decide +kernel⟩
theorem bm__law_is_number (T : Tx K mg) : Binds K (fdAt K (gA "_law_is_number" K)) ["_law_word"] [] := FunD.bindsN T.f__law_is_number fun _ _ _ _ _ _ us hl => match us, hl with | [_], _ => rfl
theorem okm__law_is_number (T : Tx K mg) : FnG P w K mg base CX0 1 (gA "_law_is_number" K) (fdAt K (gA "_law_is_number" K)) ["_law_word"] (spM K 1 d__law_is_number) := by
  refine okM T.f__law_is_number sm__law_is_number rfl rfl fun cdv A outer s H hg hr => ?_
  have hu := hr.units
  have hu1 := hu_of hr
  have hu2 := hr.units1
  exact pmss_cons (pms_if (PMW.t (pmw_or (pmt_cmp (c_eq hu) (pm_var (pv 0)) (pm_str)) (pmw_or1 (pmt_cmp (c_ne hu) (pm_lc (own := [("_law_sign", 1)]) rfl sm__law_is_number.nd (pmi_str (pm_var (pv 0))) (blkOk_by (N := ["_law_word", "_law_sign"]) (sc := defScope s__law_is_number) (by decide +kernel)) (fun _ _ _ _ _ => pmg_name (i := 1) sm__law_is_number.nd rfl (by first | exact Or.inl rfl | exact Or.inr rfl)) (fun _ _ _ _ _ => pmts_one (pmt_cmp (c_notIn hu2) (pm_var (pv 1)) (pm_listS (by rfl) (by rfl) T.free_list (by decide +kernel) (pm_str)))) (fun _ _ _ _ _ => pm_var (pv 1))) (pm_lst (pma_nil)))))) (pmss_one (pms_ret (pm_bl))) (pmss_nil))
      (pmss_one (pms_ret (pm_andT (pm_cmp c_lt (pm_callB call_len p_len (by rfl) T.free_len PySem.boot_len (pma_cons (pm_var (pv 0)) (pma_nil))) (pm_int)) (pm_one (pm_orT (pm_cmp (c_eq hu) (pm_var (pv 0)) (pm_str)) (pm_one (pm_cmp (c_ne hu) (pm_ixS (pm_var (pv 0)) (pm_int)) (pm_str))))))))
end

def m__law_is_call_1 : MS :=
    sSet 2 (mDisp [(mC (.str "new_source"), mC (.int 1)), (mC (.str "new_set"), mC (.int 1)), (mC (.str "fork"), mC (.int 1)), (mC (.str "end"), mC (.int 1)), (mC (.str "numbers"), mC (.int 1)), (mC (.str "close"), mC (.int 2)), (mC (.str "finish"), mC (.int 2)), (mC (.str "units"), mC (.int 2))])
def m__law_is_call_2 : MS :=
    sSet 3 (mDisp [(mC (.str "copy"), mC (.int 3)), (mC (.str "read"), mC (.int 3)), (mC (.str "arrive"), mC (.int 3)), (mC (.str "remove"), mC (.int 3)), (mC (.str "wait"), mC (.int 3)), (mC (.str "same"), mC (.int 4)), (mC (.str "add"), mC (.int 5)), (mC (.str "change"), mC (.int 4))])
def m__law_is_call_3 : MS :=
    sSet 4 (mD2 get2DM (mV 2) (mOp getM (mV 1) (mC (.int 0))) (mD2 get2DM (mV 3) (mOp getM (mV 1) (mC (.int 0))) (mUn negM (mC (.int 1)))))
def m__law_is_call_4 : MS :=
    sIf (mTest (mOp neM (mFn lenM (mCons (mV 5) (mNil))) (mV 4))) (sRet (mC (.bl false))) (sNil)
def m__law_is_call_5 : MS :=
    sIf (mTest (mOp ninM (mOp getM (mV 5) (mUn negM (mC (.int 1)))) (mLst (mCons (mC (.str "level")) (mCons (mC (.str "edge")) (mCons (mC (.str "once")) (mNil))))))) (sRet (mC (.bl false))) (sNil)
def m__law_is_call_6 : MS :=
    sIf (mTest (mOp inM (mOp getM (mV 1) (mC (.int 0))) (mLst (mCons (mC (.str "add")) (mCons (mC (.str "change")) (mNil)))))) (sSeq (m__law_is_call_5)
    (sSet 5 (mSl (mV 5) (mP0) (mP (mUn negM (mC (.int 1))))))) (sNil)
def m__law_is_call_7 : MS :=
    sIf (mAnd (mTest (mOp inM (mOp getM (mV 1) (mC (.int 0))) (mLst (mCons (mC (.str "copy")) (mCons (mC (.str "read")) (mNil)))))) (mTest (mOp eqM (mOp getM (mV 5) (mUn negM (mC (.int 1)))) (mC (.str "-"))))) (sSet 5 (mSl (mV 5) (mP0) (mP (mUn negM (mC (.int 1)))))) (sNil)
def m__law_is_call_8 : MS :=
    sRet (mOp eqM (mLc (iSeq (mV 5)) [6] (tgN 6) (mNot (mTest (mCall 1 d__law_is_number (mCons (mV 6) (mNil))))) (mV 6)) (mLst (mNil)))
def m__law_is_call : MS :=
    sSeq (sSet 1 (mUn (splM " ") (mV 0)))
    (sSeq (m__law_is_call_1)
    (sSeq (m__law_is_call_2)
    (sSeq (m__law_is_call_3)
    (sSeq (sSet 5 (mSl (mV 1) (mP (mC (.int 1))) (mP0)))
    (sSeq (m__law_is_call_4)
    (sSeq (m__law_is_call_6)
    (sSeq (m__law_is_call_7)
    (m__law_is_call_8))))))))
def d__law_is_call : List Val → Mu → R Val := runM 1 7 m__law_is_call
section
variable {P : Program} {w : World} {K : PySem.W.Frag} {mg : Str → Option Value} {base : Heap}
theorem sm__law_is_call : FnScope ["_law_line_here", "_law_words", "_law_many", "_law_more", "_law_count", "_law_parts", "_law_part"] ["_law_line_here"] (defScope s__law_is_call) := ⟨rfl, rfl, rfl, by decide +kernel, rfl, by decide +kernel, by decide +kernel⟩
theorem bm__law_is_call (T : Tx K mg) : Binds K (fdAt K (gA "_law_is_call" K)) ["_law_line_here"] [] := FunD.bindsN T.f__law_is_call fun _ _ _ _ _ _ us hl => match us, hl with | [_], _ => rfl
theorem okm__law_is_call (T : Tx K mg) : FnG P w K mg base CX0 2 (gA "_law_is_call" K) (fdAt K (gA "_law_is_call" K)) ["_law_line_here"] (spM K 1 d__law_is_call) := by
  refine okM T.f__law_is_call sm__law_is_call rfl rfl fun cdv A outer s H hg hr => ?_
  have hu := hr.units
  have hu1 := hu_of hr
  have hu2 := hr.units1
  exact pmss_cons (pms_set (i := 1) sm__law_is_call.nd rfl (by first | exact Or.inl rfl | exact Or.inr rfl) (pm_split (pm_var (pv 0)) pm_str))
      (pmss_cons (pms_set (i := 2) sm__law_is_call.nd rfl (by first | exact Or.inl rfl | exact Or.inr rfl) (pm_disp (pmp_cons (pm_str) (pm_int) (pmp_cons (pm_str) (pm_int) (pmp_cons (pm_str) (pm_int) (pmp_cons (pm_str) (pm_int) (pmp_cons (pm_str) (pm_int) (pmp_cons (pm_str) (pm_int) (pmp_cons (pm_str) (pm_int) (pmp_cons (pm_str) (pm_int) (pmp_nil)))))))))))
      (pmss_cons (pms_set (i := 3) sm__law_is_call.nd rfl (by first | exact Or.inl rfl | exact Or.inr rfl) (pm_disp (pmp_cons (pm_str) (pm_int) (pmp_cons (pm_str) (pm_int) (pmp_cons (pm_str) (pm_int) (pmp_cons (pm_str) (pm_int) (pmp_cons (pm_str) (pm_int) (pmp_cons (pm_str) (pm_int) (pmp_cons (pm_str) (pm_int) (pmp_cons (pm_str) (pm_int) (pmp_nil)))))))))))
      (pmss_cons (pms_set (i := 4) sm__law_is_call.nd rfl (by first | exact Or.inl rfl | exact Or.inr rfl) (pm_dget2 hu1 (pm_var (pv 2)) (pm_ix (pm_var (pv 1)) (pm_int)) (pm_dget2 hu1 (pm_var (pv 3)) (pm_ix (pm_var (pv 1)) (pm_int)) (pm_neg (pm_int)))))
      (pmss_cons (pms_set (i := 5) sm__law_is_call.nd rfl (by first | exact Or.inl rfl | exact Or.inr rfl) (pm_slice (pm_var (pv 1)) (pmo_some (pm_int)) (pmo_none)))
      (pmss_cons (pms_if (pmt_cmp (c_ne hu) (pm_callB call_len p_len (by rfl) T.free_len PySem.boot_len (pma_cons (pm_var (pv 5)) (pma_nil))) (pm_var (pv 4))) (pmss_one (pms_ret (pm_bl))) (pmss_nil))
      (pmss_cons (pms_if (pmt_cmp (c_in hu2) (pm_ix (pm_var (pv 1)) (pm_int)) (pm_lst (pma_cons (pm_str) (pma_cons (pm_str) (pma_nil))))) (pmss_cons (pms_if (pmt_cmp (c_notIn hu2) (pm_ix (pm_var (pv 5)) (pm_neg (pm_int))) (pm_lst (pma_cons (pm_str) (pma_cons (pm_str) (pma_cons (pm_str) (pma_nil)))))) (pmss_one (pms_ret (pm_bl))) (pmss_nil))
      (pmss_one (pms_set (i := 5) sm__law_is_call.nd rfl (by first | exact Or.inl rfl | exact Or.inr rfl) (pm_slice (pm_var (pv 5)) (pmo_none) (pmo_some (pm_neg (pm_int))))))) (pmss_nil))
      (pmss_cons (pms_if (PMW.t (pmw_and (pmt_cmp (c_in hu2) (pm_ix (pm_var (pv 1)) (pm_int)) (pm_lst (pma_cons (pm_str) (pma_cons (pm_str) (pma_nil))))) (pmw_and1 (pmt_cmp (c_eq hu) (pm_ix (pm_var (pv 5)) (pm_neg (pm_int))) (pm_str))))) (pmss_one (pms_set (i := 5) sm__law_is_call.nd rfl (by first | exact Or.inl rfl | exact Or.inr rfl) (pm_slice (pm_var (pv 5)) (pmo_none) (pmo_some (pm_neg (pm_int)))))) (pmss_nil))
      (pmss_one (pms_ret (pm_cmp (c_eq hu) (pm_lc (own := [("_law_part", 6)]) rfl sm__law_is_call.nd (pmi_seq (pm_var (pv 5))) (blkOk_by (N := ["_law_line_here", "_law_words", "_law_many", "_law_more", "_law_count", "_law_parts", "_law_part"]) (sc := defScope s__law_is_call) (by decide +kernel)) (fun _ _ _ _ _ => pmg_name (i := 6) sm__law_is_call.nd rfl (by first | exact Or.inl rfl | exact Or.inr rfl)) (fun _ _ _ _ _ => pmts_one (pmt_not (pmt_val (pm_call (okm__law_is_number T) hg (hr.mono (by decide)) (by rfl) T.g__law_is_number T.f__law_is_number.kp (bm__law_is_number T) (pma_cons (pm_var (pv 6)) (pma_nil)))))) (fun _ _ _ _ _ => pm_var (pv 6))) (pm_lst (pma_nil))))))))))))
end

def m__law_line_1 : MS :=
    sSet 1 (mFn strM (mCons (mCall 2 d__law_take (mCons (mV 0) (mCons (mC (.int 10)) (mNil)))) (mNil)))
def m__law_line_2 : MS :=
    sSet 2 (mLst (mCons (mOp addM (mC (.str "new_source ")) (mV 1)) (mCons (mOp addM (mOp addM (mC (.str "copy 0 ")) (mV 1)) (mC (.str " -"))) (mCons (mOp addM (mC (.str "copy 0 1 ")) (mV 1)) (mCons (mOp addM (mC (.str "close 1 ")) (mV 1)) (mCons (mC (.str "fork 0")) (mCons (mC (.str "read 0 1 -")) (mNil))))))))
def m__law_line_3 : MS :=
    sSet 2 (mOp addM (mV 2) (mLst (mCons (mOp addM (mOp addM (mC (.str "arrive 0 ")) (mV 1)) (mC (.str " 25"))) (mCons (mOp addM (mOp addM (mC (.str "add 0 1 2 ")) (mV 1)) (mC (.str " edge"))) (mCons (mOp addM (mOp addM (mC (.str "change 0 1 ")) (mV 1)) (mC (.str " once"))) (mCons (mOp addM (mC (.str "end ")) (mV 1)) (mNil)))))))
def m__law_line_4 : MS :=
    sRet (mCall 2 d__law_of (mCons (mV 0) (mCons (mOp addM (mV 2) (mLst (mCons (mC (.str "wait 0 1 10")) (mCons (mOp addM (mC (.str "same 0 1 2 ")) (mV 1)) (mCons (mOp addM (mC (.str "units 0 ")) (mV 1)) (mCons (mC (.str "numbers 3")) (mCons (mC (.str "remove 0 1 2")) (mNil)))))))) (mNil))))
def m__law_line : MS :=
    sSeq (m__law_line_1)
    (sSeq (m__law_line_2)
    (sSeq (m__law_line_3)
    (m__law_line_4)))
def d__law_line : List Val → Mu → R Val := runM 1 3 m__law_line
section
variable {P : Program} {w : World} {K : PySem.W.Frag} {mg : Str → Option Value} {base : Heap}
theorem sm__law_line : FnScope ["_law_bag_here", "_law_n", "_law_some"] ["_law_bag_here"] (defScope s__law_line) := ⟨rfl, rfl, rfl, by decide +kernel, rfl, by decide +kernel, by decide +kernel⟩
theorem bm__law_line (T : Tx K mg) : Binds K (fdAt K (gA "_law_line" K)) ["_law_bag_here"] [] := FunD.bindsN T.f__law_line fun _ _ _ _ _ _ us hl => match us, hl with | [_], _ => rfl
theorem okm__law_line (T : Tx K mg) : FnG P w K mg base CX0 3 (gA "_law_line" K) (fdAt K (gA "_law_line" K)) ["_law_bag_here"] (spM K 1 d__law_line) := by
  refine okM T.f__law_line sm__law_line rfl rfl fun cdv A outer s H hg hr => ?_
  have hu := hr.units
  have hu1 := hu_of hr
  have hu2 := hr.units1
  exact pmss_cons (pms_set (i := 1) sm__law_line.nd rfl (by first | exact Or.inl rfl | exact Or.inr rfl) (pm_callTy call_strIS p_str (by rfl) T.free_str (by decide +kernel) (pma_cons (pm_call (okm__law_take T) hg (hr.mono (by decide)) (by rfl) T.g__law_take T.f__law_take.kp (bm__law_take T) (pma_cons (pm_var (pv 0)) (pma_cons (pm_int) (pma_nil)))) (pma_nil))))
      (pmss_cons (pms_set (i := 2) sm__law_line.nd rfl (by first | exact Or.inl rfl | exact Or.inr rfl) (pm_lst (pma_cons (pm_bin b_add (pm_str) (pm_var (pv 1))) (pma_cons (pm_bin b_add (pm_bin b_add (pm_str) (pm_var (pv 1))) (pm_str)) (pma_cons (pm_bin b_add (pm_str) (pm_var (pv 1))) (pma_cons (pm_bin b_add (pm_str) (pm_var (pv 1))) (pma_cons (pm_str) (pma_cons (pm_str) (pma_nil)))))))))
      (pmss_cons (pms_set (i := 2) sm__law_line.nd rfl (by first | exact Or.inl rfl | exact Or.inr rfl) (pm_bin b_add (pm_var (pv 2)) (pm_lst (pma_cons (pm_bin b_add (pm_bin b_add (pm_str) (pm_var (pv 1))) (pm_str)) (pma_cons (pm_bin b_add (pm_bin b_add (pm_str) (pm_var (pv 1))) (pm_str)) (pma_cons (pm_bin b_add (pm_bin b_add (pm_str) (pm_var (pv 1))) (pm_str)) (pma_cons (pm_bin b_add (pm_str) (pm_var (pv 1))) (pma_nil))))))))
      (pmss_one (pms_ret (pm_call (okm__law_of T) hg (hr.mono (by decide)) (by rfl) T.g__law_of T.f__law_of.kp (bm__law_of T) (pma_cons (pm_var (pv 0)) (pma_cons (pm_bin b_add (pm_var (pv 2)) (pm_lst (pma_cons (pm_str) (pma_cons (pm_bin b_add (pm_str) (pm_var (pv 1))) (pma_cons (pm_bin b_add (pm_str) (pm_var (pv 1))) (pma_cons (pm_str) (pma_cons (pm_str) (pma_nil)))))))) (pma_nil))))))))
end

def m__law_bent_1 : MS :=
    sPar 2 3 (mCons (mCall 2 d__law_take (mCons (mV 0) (mCons (mOp addM (mFn lenM (mCons (mV 1) (mNil))) (mC (.int 1))) (mNil)))) (mCons (mCall 2 d__law_take (mCons (mV 0) (mCons (mC (.int 7)) (mNil)))) (mNil)))
def m__law_bent_2 : MS :=
    sSet 4 (mCall 2 d__law_of (mCons (mV 0) (mCons (mLst (mCons (mC (.str " ")) (mCons (mC (.str "0")) (mCons (mC (.str "1")) (mCons (mC (.str "-")) (mCons (mC (.str "A")) (mCons (mC (.str "+")) (mCons (mC (.str "_")) (mCons (mC (.str ".")) (mCons (mC (.str "e")) (mCons (mC (.str "level")) (mCons (mC (.str "	")) (mNil))))))))))))) (mNil))))
def m__law_bent_3 : MS :=
    sIf (mTest (mOp ltM (mV 3) (mC (.int 3)))) (sRet (mOp addM (mOp addM (mSlS (mV 1) (mP0) (mP (mV 2))) (mOp getM (mLst (mCons (mC (.str "")) (mCons (mV 4) (mCons (mV 4) (mNil))))) (mV 3))) (mSlS (mV 1) (mP (mOp addM (mV 2) (mOp getM (mLst (mCons (mC (.int 1)) (mCons (mC (.int 0)) (mCons (mC (.int 1)) (mNil))))) (mV 3)))) (mP0)))) (sNil)
def m__law_bent_4 : MS :=
    sIf (mTest (mOp eqM (mV 3) (mC (.int 3)))) (sRet (mOp joinR (mC (.str " ")) (mOp addM (mV 5) (mLst (mCons (mCall 2 d__law_of (mCons (mV 0) (mCons (mLst (mCons (mC (.str "1")) (mCons (mC (.str "-")) (mCons (mC (.str "")) (mCons (mC (.str "once")) (mCons (mC (.str "0")) (mNil))))))) (mNil)))) (mNil)))))) (sNil)
def m__law_bent_5 : MS :=
    sIf (mTest (mOp eqM (mV 3) (mC (.int 4)))) (sRet (mOp joinR (mC (.str " ")) (mSl (mV 5) (mP0) (mP (mUn negM (mC (.int 1))))))) (sNil)
def m__law_bent_6 : MS :=
    sIf (mTest (mOp eqM (mV 3) (mC (.int 5)))) (sRet (mOp addM (mCall 2 d__law_of (mCons (mV 0) (mCons (mLst (mCons (mC (.str "copy")) (mCons (mC (.str "add")) (mCons (mC (.str "wait")) (mCons (mC (.str "Fork")) (mCons (mC (.str "news")) (mCons (mC (.str "")) (mNil)))))))) (mNil)))) (mSlS (mV 1) (mP (mFn lenM (mCons (mOp getM (mV 5) (mC (.int 0))) (mNil)))) (mP0)))) (sNil)
def m__law_bent_7 : MS :=
    sSet 6 (mLst (mCons (mC (.str "00")) (mCons (mC (.str "01")) (mCons (mC (.str "1000000000")) (mCons (mC (.str "999999999")) (mCons (mC (.str "-1")) (mCons (mC (.str "- ")) (mCons (mC (.str "")) (mCons (mC (.str "None")) (mCons (mC (.str "Level")) (mNil)))))))))))
def m__law_bent_8 : MS :=
    sRet (mOp joinR (mC (.str " ")) (mOp addM (mSl (mV 5) (mP0) (mP (mUn negM (mC (.int 1))))) (mLst (mCons (mCall 2 d__law_of (mCons (mV 0) (mCons (mV 6) (mNil)))) (mNil)))))
def m__law_bent : MS :=
    sSeq (m__law_bent_1)
    (sSeq (m__law_bent_2)
    (sSeq (m__law_bent_3)
    (sSeq (sSet 5 (mUn (splM " ") (mV 1)))
    (sSeq (m__law_bent_4)
    (sSeq (m__law_bent_5)
    (sSeq (m__law_bent_6)
    (sSeq (m__law_bent_7)
    (m__law_bent_8))))))))
def d__law_bent : List Val → Mu → R Val := runM 2 7 m__law_bent
section
variable {P : Program} {w : World} {K : PySem.W.Frag} {mg : Str → Option Value} {base : Heap}
theorem sm__law_bent : FnScope ["_law_bag_here", "_law_line_here", "_law_at", "_law_way", "_law_sign", "_law_words", "_law_some"] ["_law_bag_here", "_law_line_here"] (defScope s__law_bent) := ⟨rfl, rfl, rfl, by decide +kernel, rfl, by decide +kernel, by decide +kernel⟩
theorem bm__law_bent (T : Tx K mg) : Binds K (fdAt K (gA "_law_bent" K)) ["_law_bag_here", "_law_line_here"] [] := FunD.bindsN T.f__law_bent fun _ _ _ _ _ _ us hl => match us, hl with | [_, _], _ => rfl
theorem okm__law_bent (T : Tx K mg) : FnG P w K mg base CX0 3 (gA "_law_bent" K) (fdAt K (gA "_law_bent" K)) ["_law_bag_here", "_law_line_here"] (spM K 2 d__law_bent) := by
  refine okM T.f__law_bent sm__law_bent rfl rfl fun cdv A outer s H hg hr => ?_
  have hu := hr.units
  have hu1 := hu_of hr
  have hu2 := hr.units1
  exact pmss_cons (pms_par (i := 2) (j := 3) rfl sm__law_bent.nd rfl rfl (by decide) rfl rfl (pma_cons (pm_call (okm__law_take T) hg (hr.mono (by decide)) (by rfl) T.g__law_take T.f__law_take.kp (bm__law_take T) (pma_cons (pm_var (pv 0)) (pma_cons (pm_bin b_add (pm_callB call_len p_len (by rfl) T.free_len PySem.boot_len (pma_cons (pm_var (pv 1)) (pma_nil))) (pm_int)) (pma_nil)))) (pma_cons (pm_call (okm__law_take T) hg (hr.mono (by decide)) (by rfl) T.g__law_take T.f__law_take.kp (bm__law_take T) (pma_cons (pm_var (pv 0)) (pma_cons (pm_int) (pma_nil)))) (pma_nil))) rfl)
      (pmss_cons (pms_set (i := 4) sm__law_bent.nd rfl (by first | exact Or.inl rfl | exact Or.inr rfl) (pm_call (okm__law_of T) hg (hr.mono (by decide)) (by rfl) T.g__law_of T.f__law_of.kp (bm__law_of T) (pma_cons (pm_var (pv 0)) (pma_cons (pm_lst (pma_cons (pm_str) (pma_cons (pm_str) (pma_cons (pm_str) (pma_cons (pm_str) (pma_cons (pm_str) (pma_cons (pm_str) (pma_cons (pm_str) (pma_cons (pm_str) (pma_cons (pm_str) (pma_cons (pm_str) (pma_cons (pm_str) (pma_nil))))))))))))) (pma_nil)))))
      (pmss_cons (pms_if (pmt_cmp c_lt (pm_var (pv 3)) (pm_int)) (pmss_one (pms_ret (pm_bin b_add (pm_bin b_add (pm_sliceS (pm_var (pv 1)) (pmo_none) (pmo_some (pm_var (pv 2)))) (pm_ix (pm_lst (pma_cons (pm_str) (pma_cons (pm_var (pv 4)) (pma_cons (pm_var (pv 4)) (pma_nil))))) (pm_var (pv 3)))) (pm_sliceS (pm_var (pv 1)) (pmo_some (pm_bin b_add (pm_var (pv 2)) (pm_ix (pm_lst (pma_cons (pm_int) (pma_cons (pm_int) (pma_cons (pm_int) (pma_nil))))) (pm_var (pv 3))))) (pmo_none))))) (pmss_nil))
      (pmss_cons (pms_set (i := 5) sm__law_bent.nd rfl (by first | exact Or.inl rfl | exact Or.inr rfl) (pm_split (pm_var (pv 1)) pm_str))
      (pmss_cons (pms_if (pmt_cmp (c_eq hu) (pm_var (pv 3)) (pm_int)) (pmss_one (pms_ret (pm_join (pm_str) (pm_bin b_add (pm_var (pv 5)) (pm_lst (pma_cons (pm_call (okm__law_of T) hg (hr.mono (by decide)) (by rfl) T.g__law_of T.f__law_of.kp (bm__law_of T) (pma_cons (pm_var (pv 0)) (pma_cons (pm_lst (pma_cons (pm_str) (pma_cons (pm_str) (pma_cons (pm_str) (pma_cons (pm_str) (pma_cons (pm_str) (pma_nil))))))) (pma_nil)))) (pma_nil))))))) (pmss_nil))
      (pmss_cons (pms_if (pmt_cmp (c_eq hu) (pm_var (pv 3)) (pm_int)) (pmss_one (pms_ret (pm_join (pm_str) (pm_slice (pm_var (pv 5)) (pmo_none) (pmo_some (pm_neg (pm_int))))))) (pmss_nil))
      (pmss_cons (pms_if (pmt_cmp (c_eq hu) (pm_var (pv 3)) (pm_int)) (pmss_one (pms_ret (pm_bin b_add (pm_call (okm__law_of T) hg (hr.mono (by decide)) (by rfl) T.g__law_of T.f__law_of.kp (bm__law_of T) (pma_cons (pm_var (pv 0)) (pma_cons (pm_lst (pma_cons (pm_str) (pma_cons (pm_str) (pma_cons (pm_str) (pma_cons (pm_str) (pma_cons (pm_str) (pma_cons (pm_str) (pma_nil)))))))) (pma_nil)))) (pm_sliceS (pm_var (pv 1)) (pmo_some (pm_callB call_len p_len (by rfl) T.free_len PySem.boot_len (pma_cons (pm_ix (pm_var (pv 5)) (pm_int)) (pma_nil)))) (pmo_none))))) (pmss_nil))
      (pmss_cons (pms_set (i := 6) sm__law_bent.nd rfl (by first | exact Or.inl rfl | exact Or.inr rfl) (pm_lst (pma_cons (pm_str) (pma_cons (pm_str) (pma_cons (pm_str) (pma_cons (pm_str) (pma_cons (pm_str) (pma_cons (pm_str) (pma_cons (pm_str) (pma_cons (pm_str) (pma_cons (pm_str) (pma_nil))))))))))))
      (pmss_one (pms_ret (pm_join (pm_str) (pm_bin b_add (pm_slice (pm_var (pv 5)) (pmo_none) (pmo_some (pm_neg (pm_int)))) (pm_lst (pma_cons (pm_call (okm__law_of T) hg (hr.mono (by decide)) (by rfl) T.g__law_of T.f__law_of.kp (bm__law_of T) (pma_cons (pm_var (pv 0)) (pma_cons (pm_var (pv 6)) (pma_nil)))) (pma_nil))))))))))))))
end

def hs__law_refused : Ohs := [("BadText", [.fld "line", .isi])]
section
variable {P : Program} {w : World} {K : PySem.W.Frag} {mg : Str → Option Value} {base : Heap}
theorem sm__law_refused : FnScope ["_law_deed", "e"] ["_law_deed"] (defScope s__law_refused) := ⟨rfl, rfl, rfl, by decide +kernel, rfl, by decide +kernel, by decide +kernel⟩
theorem bm__law_refused (T : Tx K mg) : Binds K (fdAt K (gA "_law_refused" K)) ["_law_deed"] [] := FunD.bindsN T.f__law_refused fun _ _ _ _ _ _ us hl => match us, hl with | [_], _ => rfl
theorem og__law_refused {X : Cx} (T : Tx X.K X.mg) (cdv : Value) {q : Str} : GivesTo X ["_law_deed", "e"] "_law_refused" (defScope s__law_refused) (gA "_law_refused" X.K) cdv (defBody s__law_refused) "_law_deed" q (TTx X.K hs__law_refused) := by
  refine outx_gives (i := 1) (n := "e") sm__law_refused.nd rfl rfl (fun _ => rfl) (fun s H => .cons ⟨rfl, by decide, .inl T.g_BadText⟩ (fun a oe cls d pn hz hf => pss_one (ps_ret (pe_lst (pa_cons (pe_xf T.x_BadText.xf (T.x_BadText.no "line" (by decide)) hz hf (pv 1)) (pa_cons (pe_callB (id := "isinstance") (call_isXK X.K hz hf) (by rfl) T.free_isinstance (by decide +kernel) (pa_cons (pv 1) (pa_cons (pe_bltn (v := .ty "ValueError") (by rfl) T.free_ValueError (by decide +kernel) rfl) pa_nil))) (pa_nil)))))) (.nil)) ?_ (by decide)
  rintro cls d H Q σ ⟨c, its, dd, us, vs, hm, rfl, rfl, hd, hv, q⟩ hl
  have hi : ∀ a : Addr, (σ.set 1 (some (.ref a)))[1]? = some (some (.ref a)) := fun a => by rw [List.getElem?_set_self hl]
  unfold hs__law_refused at hm
  simp only [List.mem_cons, List.not_mem_nil, or_false, Prod.mk.injEq] at hm
  rcases hm with ⟨rfl, rfl⟩
  · obtain ⟨v0, vs0, rfl, h0, hv⟩ := itsV_cons hv; obtain ⟨v1, vs1, rfl, h1, hv⟩ := itsV_cons hv; cases hv
    cases h1
    exact ⟨true, T.e_BadText_BadText, fun _ a na => ⟨_, hi a, rfl, rfl, dd, _, _, rfl, hd, h0, _, hi a, "BadText", _, _, _, _, _, _, .type "ValueError", true, rfl, T.x_BadText, T.o_BadText, rfl, (fun u hu => hu), T.q_BadText_ValueError, ⟨dd, _, rfl, hd⟩, (by show 2 ≤ sizeLine; decide), fun p np => q p np⟩, (fun z => nomatch z)⟩
end

def m_law_1 : MS :=
    sSet 4 (mLc (iRng1 (mCons (mOp addM (mC (.int 1)) (mCall 2 d__law_take (mCons (mV 2) (mCons (mC (.int 6)) (mNil))))) (mNil))) [5] (tgN 5) (mYes) (mCall 1 d__law_line (mCons (mV 2) (mNil))))
def m_law_2 : MS :=
    sSet 5 (mCall 2 d__law_take (mCons (mV 2) (mCons (mFn lenM (mCons (mV 4) (mNil))) (mNil))))
def m_law_3 : MS :=
    sSto stoM (mV 4) (mV 5) (mCall 2 d__law_bent (mCons (mV 2) (mCons (mOp getM (mV 4) (mV 5)) (mNil))))
def m_law_4 : MS :=
    sSet 7 (mLc (iRng1 (mCons (mFn lenM (mCons (mV 4) (mNil))) (mNil))) [8] (tgN 8) (mNot (mTest (mCall 1 d__law_is_call (mCons (mOp getM (mV 4) (mV 8)) (mNil))))) (mV 8))
def m_law_5 : MS :=
    sSet 9 (mIf (mOr (mTest (mOp eqM (mV 7) (mLst (mNil)))) (mTest (mOp eqM (mV 6) (mC (.str ""))))) (mC .non) (mLst (mCons (mOp getM (mV 7) (mC (.int 0))) (mCons (mC (.bl true)) (mNil)))))
def m_law_6 : MS :=
    sIf (mTest (mOp neM (mOutX hs__law_refused (mCallX 1 d_read_calls (mCons (mV 6) (mNil)))) (mV 9))) (sRet (mC (.bl false))) (sNil)
def m_law_7 : MS :=
    sSet 9 (mIf (mTest (mCall 1 d__law_is_call (mCons (mOp getM (mV 4) (mV 5)) (mNil)))) (mC .non) (mLst (mCons (mC (.int 0)) (mCons (mC (.bl true)) (mNil)))))
def m_law_8 : MS :=
    sIf (mTest (mOp neM (mOutX hs__law_refused (mCallX 1 d_read_call (mCons (mOp getM (mV 4) (mV 5)) (mNil)))) (mV 9))) (sRet (mC (.bl false))) (sNil)
def m_law_9 : MS :=
    sSeq (m_law_1)
    (sSeq (m_law_2)
    (sSeq (m_law_3)
    (sSeq (sSet 6 (mOp joinR (mC (.str "\n")) (mV 4)))
    (sSeq (m_law_4)
    (sSeq (m_law_5)
    (sSeq (m_law_6)
    (sSeq (m_law_7)
    (m_law_8))))))))
def m_law_10 : MS :=
    sIf (mTest (mOp neM (mOutX hs__law_refused (mCallX 1 d_read_call (mCons (mV 10) (mNil)))) (mLst (mCons (mUn negM (mC (.int 1))) (mCons (mC (.bl true)) (mNil)))))) (sRet (mC (.bl false))) (sNil)
def m_law_11 : MS :=
    sIf (mTest (mOp neM (mOutX hs__law_refused (mCallX 1 d_read_calls (mCons (mV 10) (mNil)))) (mLst (mCons (mUn negM (mC (.int 1))) (mCons (mC (.bl true)) (mNil)))))) (sRet (mC (.bl false))) (sNil)
def m_law_12 : MS :=
    sSeq (m_law_10)
    (m_law_11)
def m_law_13 : MS :=
    sFor (iSeq (mLst (mCons (mC .non) (mCons (mC (.int 0)) (mCons (mC (.bl true)) (mCons (mLst (mCons (mC (.str "fork 0")) (mNil))) (mCons (mTup (mCons (mC (.str "fork")) (mCons (mC (.int 0)) (mNil)))) (mCons (mOp powM (mC (.int 10)) (mC (.int 19))) (mNil))))))))) (tgN 10) (m_law_12)
def m_law_14 : MS :=
    sSeq (sSet 2 (mCall 2 d__law_bag (mCons (mV 0) (mCons (mV 1) (mNil)))))
    (sSeq (sFor (iRng1 (mCons (mC (.int 16)) (mNil))) (tgN 3) (m_law_9))
    (m_law_13))
def m_law_15 : MS :=
    sFor (iRng1 (mCons (mFn maxM (mCons (mC (.int 1)) (mCons (mFn minM (mCons (mC (.int 5)) (mCons (mFn lenM (mCons (mV 0) (mNil))) (mNil)))) (mNil)))) (mNil))) (tgN 1) (m_law_14)
def m_law_16 : MS :=
    sRet (mOp eqM (mOutX hs__law_refused (mCallX 1 d_read_call (mCons (mC (.str "fork 0\nfork 1")) (mNil)))) (mLst (mCons (mC (.int 0)) (mCons (mC (.bl true)) (mNil)))))
def m_law : MS :=
    sSeq (m_law_15)
    (m_law_16)
def d_law : List Val → Mu → R Val := runM 1 11 m_law
section
variable {P : Program} {w : World} {K : PySem.W.Frag} {mg : Str → Option Value} {base : Heap}
theorem sm_law : FnScope ["_law_script", "_law_at", "_law_bag_here", "_law_turn", "_law_lines", "_law_k", "_law_whole", "_law_wrong", "_law_j", "_law_due", "_law_thing"] ["_law_script"] (defScope s_law) := ⟨rfl, rfl, rfl, by decide +kernel, rfl, by decide +kernel, by decide +kernel⟩
theorem okm_law (T : Tx K mg) (AD : ArgD K w) (B : TBk K mg base) : FnG P w K mg base CX0 7 (gA "law" K) (fdAt K (gA "law" K)) ["_law_script"] (spM K 1 d_law) := by
  refine okMc T.f_law sm_law rfl rfl fun cdv A outer s H hcd hg hr => ?_
  have hu := hr.units
  have hu1 := hu_of hr
  have hu2 := hr.units1
  exact pmss_cons (pms_for PassesOwn.never rfl (pmi_rng1 (by rfl) T.free_range (pma_cons (pm_callB (call_max2 rfl) p_max (by rfl) T.free_max (by decide +kernel) (pma_cons (pm_int) (pma_cons (pm_callB (call_min2 rfl) p_min (by rfl) T.free_min (by decide +kernel) (pma_cons (pm_int) (pma_cons (pm_callB call_len p_len (by rfl) T.free_len PySem.boot_len (pma_cons (pm_var (pv 0)) (pma_nil))) (pma_nil)))) (pma_nil)))) (pma_nil))) (pmg_name (i := 1) sm_law.nd rfl (by first | exact Or.inl rfl | exact Or.inr rfl)) (pmss_cons (pms_set (i := 2) sm_law.nd rfl (by first | exact Or.inl rfl | exact Or.inr rfl) (pm_call (okm__law_bag T) hg (hr.mono (by decide)) (by rfl) T.g__law_bag T.f__law_bag.kp (bm__law_bag T) (pma_cons (pm_var (pv 0)) (pma_cons (pm_var (pv 1)) (pma_nil)))))
      (pmss_cons (pms_for PassesOwn.never rfl (pmi_rng1 (by rfl) T.free_range (pma_cons (pm_int) (pma_nil))) (pmg_name (i := 3) sm_law.nd rfl (by first | exact Or.inl rfl | exact Or.inr rfl)) (pmss_cons (pms_set (i := 4) sm_law.nd rfl (by first | exact Or.inl rfl | exact Or.inr rfl) (pm_lc (own := [("_law_k", 5)]) rfl sm_law.nd (pmi_rng1 (by rfl) T.free_range (pma_cons (pm_bin b_add (pm_int) (pm_call (okm__law_take T) hg (hr.mono (by decide)) (by rfl) T.g__law_take T.f__law_take.kp (bm__law_take T) (pma_cons (pm_var (pv 2)) (pma_cons (pm_int) (pma_nil))))) (pma_nil))) (blkOk_by (N := ["_law_script", "_law_at", "_law_bag_here", "_law_turn", "_law_lines", "_law_k", "_law_whole", "_law_wrong", "_law_j", "_law_due", "_law_thing"]) (sc := defScope s_law) (by decide +kernel)) (fun _ _ _ _ _ => pmg_name (i := 5) sm_law.nd rfl (by first | exact Or.inl rfl | exact Or.inr rfl)) (fun _ _ _ _ _ => pmts_nil) (fun _ _ _ _ _ => pm_call (okm__law_line T) hg (hr.mono (by decide)) (by rfl) T.g__law_line T.f__law_line.kp (bm__law_line T) (pma_cons (pm_var (pv 2)) (pma_nil)))))
      (pmss_cons (pms_set (i := 5) sm_law.nd rfl (by first | exact Or.inl rfl | exact Or.inr rfl) (pm_call (okm__law_take T) hg (hr.mono (by decide)) (by rfl) T.g__law_take T.f__law_take.kp (bm__law_take T) (pma_cons (pm_var (pv 2)) (pma_cons (pm_callB call_len p_len (by rfl) T.free_len PySem.boot_len (pma_cons (pm_var (pv 4)) (pma_nil))) (pma_nil)))))
      (pmss_cons (pms_sto (pm_call (okm__law_bent T) hg (hr.mono (by decide)) (by rfl) T.g__law_bent T.f__law_bent.kp (bm__law_bent T) (pma_cons (pm_var (pv 2)) (pma_cons (pm_ix (pm_var (pv 4)) (pm_var (pv 5))) (pma_nil)))) (pm_var (pv 4)) (pm_var (pv 5)))
      (pmss_cons (pms_set (i := 6) sm_law.nd rfl (by first | exact Or.inl rfl | exact Or.inr rfl) (pm_join (pm_str) (pm_var (pv 4))))
      (pmss_cons (pms_setLc (i := 7) (own := [("_law_j", 8)]) rfl sm_law.nd rfl rfl (sw_true rfl rfl rfl (by decide +kernel)) (pmi_rng1 (by rfl) T.free_range (pma_cons (pm_callB call_len p_len (by rfl) T.free_len PySem.boot_len (pma_cons (pm_var (pv 4)) (pma_nil))) (pma_nil))) (blkOk_by (N := ["_law_script", "_law_at", "_law_bag_here", "_law_turn", "_law_lines", "_law_k", "_law_whole", "_law_wrong", "_law_j", "_law_due", "_law_thing"]) (sc := defScope s_law) (by decide +kernel)) (fun _ _ _ _ _ => pmg_name (i := 8) sm_law.nd rfl (by first | exact Or.inl rfl | exact Or.inr rfl)) (fun _ _ _ _ _ => pmts_one (pmt_not (pmt_val (pm_call (okm__law_is_call T) hg (hr.mono (by decide)) (by rfl) T.g__law_is_call T.f__law_is_call.kp (bm__law_is_call T) (pma_cons (pm_ix (pm_var (pv 4)) (pm_var (pv 8))) (pma_nil)))))) (fun _ _ _ _ _ => pm_var (pv 8)))
      (pmss_cons (pms_set (i := 9) sm_law.nd rfl (by first | exact Or.inl rfl | exact Or.inr rfl) (pm_ifExp (PMW.t (pmw_or (pmt_cmp (c_eq hu) (pm_var (pv 7)) (pm_lst (pma_nil))) (pmw_or1 (pmt_cmp (c_eq hu) (pm_var (pv 6)) (pm_str))))) (pm_non) (pm_lst (pma_cons (pm_ix (pm_var (pv 7)) (pm_int)) (pma_cons (pm_bl) (pma_nil))))))
      (pmss_cons (pms_if (pmt_cmp (c_ne hu) (pm_lamX (k := 4) T.f__law_refused (bm__law_refused T) (by rfl) T.g__law_refused sm__law_refused rfl (Or.inl rfl) (fun cdv => og__law_refused T cdv) (B "law" (by decide)) hcd (tb_mem (by decide)) (tb_one (by decide)) (hr.mono (by decide)) (lamS_by (sc := defScope s_law) (by decide +kernel)) (fun A outer s H E f c' hr => pm_callX (okm_read_calls T AD) (hr.mono (by decide)) (by rfl) T.g_read_calls T.f_read_calls.kp (bm_read_calls T) (passes_call (takes_of rfl rfl rfl rfl) (fun _ _ _ _ h => h)) (pma_cons (pm_var (pv 6)) (pma_nil)))) (pm_var (pv 9))) (pmss_one (pms_ret (pm_bl))) (pmss_nil))
      (pmss_cons (pms_set (i := 9) sm_law.nd rfl (by first | exact Or.inl rfl | exact Or.inr rfl) (pm_ifExp (pmt_val (pm_call (okm__law_is_call T) hg (hr.mono (by decide)) (by rfl) T.g__law_is_call T.f__law_is_call.kp (bm__law_is_call T) (pma_cons (pm_ix (pm_var (pv 4)) (pm_var (pv 5))) (pma_nil)))) (pm_non) (pm_lst (pma_cons (pm_int) (pma_cons (pm_bl) (pma_nil))))))
      (pmss_one (pms_if (pmt_cmp (c_ne hu) (pm_lamX (k := 4) T.f__law_refused (bm__law_refused T) (by rfl) T.g__law_refused sm__law_refused rfl (Or.inl rfl) (fun cdv => og__law_refused T cdv) (B "law" (by decide)) hcd (tb_mem (by decide)) (tb_one (by decide)) (hr.mono (by decide)) (lamS_by (sc := defScope s_law) (by decide +kernel)) (fun A outer s H E f c' hr => pm_callX (okm_read_call T AD) (hr.mono (by decide)) (by rfl) T.g_read_call T.f_read_call.kp (bm_read_call T) (passes_call (takes_of rfl rfl rfl rfl) (fun _ _ _ _ h => h)) (pma_cons (pm_ix (pm_var (pv 4)) (pm_var (pv 5))) (pma_nil)))) (pm_var (pv 9))) (pmss_one (pms_ret (pm_bl))) (pmss_nil))))))))))))
      (pmss_one (pms_for PassesOwn.never rfl (pmi_seq (pm_lst (pma_cons (pm_non) (pma_cons (pm_int) (pma_cons (pm_bl) (pma_cons (pm_lst (pma_cons (pm_str) (pma_nil))) (pma_cons (pm_tup (pma_cons (pm_str) (pma_cons (pm_int) (pma_nil)))) (pma_cons (pm_bin b_pow (pm_int) (pm_int)) (pma_nil))))))))) (pmg_name (i := 10) sm_law.nd rfl (by first | exact Or.inl rfl | exact Or.inr rfl)) (pmss_cons (pms_if (pmt_cmp (c_ne hu) (pm_lamX (k := 4) T.f__law_refused (bm__law_refused T) (by rfl) T.g__law_refused sm__law_refused rfl (Or.inl rfl) (fun cdv => og__law_refused T cdv) (B "law" (by decide)) hcd (tb_mem (by decide)) (tb_one (by decide)) (hr.mono (by decide)) (lamS_by (sc := defScope s_law) (by decide +kernel)) (fun A outer s H E f c' hr => pm_callX (okm_read_call T AD) (hr.mono (by decide)) (by rfl) T.g_read_call T.f_read_call.kp (bm_read_call T) (passes_call (takes_of rfl rfl rfl rfl) (fun _ _ _ _ h => h)) (pma_cons (pm_var (pv 10)) (pma_nil)))) (pm_lst (pma_cons (pm_neg (pm_int)) (pma_cons (pm_bl) (pma_nil))))) (pmss_one (pms_ret (pm_bl))) (pmss_nil))
      (pmss_one (pms_if (pmt_cmp (c_ne hu) (pm_lamX (k := 4) T.f__law_refused (bm__law_refused T) (by rfl) T.g__law_refused sm__law_refused rfl (Or.inl rfl) (fun cdv => og__law_refused T cdv) (B "law" (by decide)) hcd (tb_mem (by decide)) (tb_one (by decide)) (hr.mono (by decide)) (lamS_by (sc := defScope s_law) (by decide +kernel)) (fun A outer s H E f c' hr => pm_callX (okm_read_calls T AD) (hr.mono (by decide)) (by rfl) T.g_read_calls T.f_read_calls.kp (bm_read_calls T) (passes_call (takes_of rfl rfl rfl rfl) (fun _ _ _ _ h => h)) (pma_cons (pm_var (pv 10)) (pma_nil)))) (pm_lst (pma_cons (pm_neg (pm_int)) (pma_cons (pm_bl) (pma_nil))))) (pmss_one (pms_ret (pm_bl))) (pmss_nil)))))))))
      (pmss_one (pms_ret (pm_cmp (c_eq hu) (pm_lamX (k := 4) T.f__law_refused (bm__law_refused T) (by rfl) T.g__law_refused sm__law_refused rfl (Or.inl rfl) (fun cdv => og__law_refused T cdv) (B "law" (by decide)) hcd (tb_mem (by decide)) (tb_one (by decide)) (hr.mono (by decide)) (lamS_by (sc := defScope s_law) (by decide +kernel)) (fun A outer s H E f c' hr => pm_callX (okm_read_call T AD) (hr.mono (by decide)) (by rfl) T.g_read_call T.f_read_call.kp (bm_read_call T) (passes_call (takes_of rfl rfl rfl rfl) (fun _ _ _ _ h => h)) (pma_cons (pm_str) (pma_nil)))) (pm_lst (pma_cons (pm_int) (pma_cons (pm_bl) (pma_nil)))))))
end

/-! ### texts taken apart, as plain data do (k25) -/
theorem dr_strs {h : Hd} {X : List Nat} {μ : Mu} : ∀ l : List Str, DRs h X μ (l.map Val.str) (l.map Dt.str)
  | [] => .nil
  | a :: l => .cons (.str a) (dr_strs l)
def splD (b : Str) : Dt → Sg → Option Dt
  | .str a, _ => if a.length ≤ 1000000 ∧ (b.length == 0) = false then some (.lst ((Txt.split a b).map Dt.str)) else none
  | _, _ => none
theorem p_spl (b : Str) : P1 (splM b) (splD b) := by
  intro h X μ σ x dx d S hx e
  unfold splD at e
  split at e
  · split at e
    · rename_i c
      cases e
      rw [hx.str]
      unfold splM
      simp only
      rw [if_pos c]
      exact .new S (.lst (dr_strs _))
    · cases e
  · cases e
def intSD : List Dt → Sg → Option Dt
  | [.str a], _ => match PySem.intText? a with
    | some n => if a.length ≤ 640 then some (.int n) else none
    | none => none
  | _, _ => none
theorem p_intS' : PN intSM intSD := by
  intro h X μ σ xs dxs d S hx e
  unfold intSD at e
  split at e
  · obtain ⟨v, rfl, q⟩ := hx.one
    split at e
    · rename_i n hn
      split at e
      · rename_i c
        cases e
        rw [q.str]
        unfold intSM
        simp only [hn]
        rw [if_pos c]
        exact .id S (.int _)
      · cases e
    · cases e
  · cases e
def ixSD : Dt → Dt → Sg → Option Dt
  | .str z, .int i, _ => match z.cps[i.toNat]? with
    | some c => if 0 ≤ i ∧ i < z.length ∧ z.length ≤ 1000000 then some (.str (sgn c)) else none
    | none => none
  | _, _, _ => none
theorem p_ixS : P2 ixSM ixSD := by
  intro h X μ σ x y dx dy d S hx hy e
  unfold ixSD at e
  split at e
  · split at e
    · rename_i c hc
      split at e
      · rename_i hl
        cases e
        rw [hx.str, hy.int]
        unfold ixSM
        simp only [hc]
        rw [if_pos hl]
        exact .id S (.str _)
      · cases e
    · cases e
  · cases e
def inSgD : Dt → Dt → Sg → Option Dt
  | .str x, .str z, _ => match x.cps.toList with
    | [c] => some (.bl (decide (c ∈ z.cps.toList)))
    | _ => none
  | _, _, _ => none
theorem p_inSg : P2 inSgM inSgD := by
  intro h X μ σ x y dx dy d S hx hy e
  unfold inSgD at e
  split at e
  · split at e
    · rename_i c hc
      cases e
      rw [hx.str, hy.str]
      unfold inSgM
      simp only [hc]
      exact .id S (.bl _)
    · cases e
  · cases e
def pArgs (e f : PlE) : PlE := fun r σ Q => e r σ fun x σ => f r σ fun d σ => match x with
  | .str z => match kndOf z with
    | some ks => Q (.tup (ks.map Dt.str)) σ
    | none => Q d σ
  | _ => False
theorem si_args {mo mi : ME} {o i : PlE} (so : SiE mo o) (si : SiE mi i) : SiE (mArgs mo mi) (pArgs o i) := fun h X O μ σ ρ r Q S E hq => by
  refine OkR.bind (rel' := rlE) (so h X O μ σ ρ r _ S E hq) fun x μ1 h1 dx σ1 e1 S1 q1 hq1 => ?_
  refine OkR.bind (rel' := rlE) (si h1 X O μ1 σ1 ρ r _ S1 (E.ext e1 fun _ => none_in) hq1) fun y μ2 h2 dy σ2 e2 S2 q2 hq2 => ?_
  split at hq2
  · rename_i z
    cases DW.str (.inl q1)
    show OkR rlE h2 (O ++ X) μ2 Q (argsK (.str z) y μ2)
    unfold argsK
    split at hq2
    · rename_i ks hk
      simp only [hk]
      exact okR_ret (rel := rlE) S2 (.tup (dr_strs ks)) hq2
    · rename_i hk
      simp only [hk]
      exact okR_ret (rel := rlE) S2 q2 hq2
  · exact hq2.elim

/-! ### zip of two, list(zip), stars, the signs of a text, as plain data do (k25) -/
def zip2D (xs ys : List Dt) : List Dt := (xs.zip ys).map fun p => .tup [p.1, p.2]
theorem drs_zip2 {h : Hd} {X : List Nat} {μ : Mu} : ∀ {vs ws : List Val} {as bs : List Dt}, DRs h X μ vs as → DRs h X μ ws bs → DRs h X μ (zip2M vs ws) (zip2D as bs)
  | _, _, _, _, .nil, _ => .nil
  | _, _, _, _, .cons _ _, .nil => .nil
  | _, _, _, _, .cons a1 a2, .cons b1 b2 => .cons (.tup (.cons a1 (.cons b1 .nil))) (drs_zip2 a2 b2)
def pItS (a : PlE) : PlI := fun r σ Q => a r σ fun d σ => match d with
  | .str x => Q (x.cps.toList.map fun c => .str (sgn c)) σ
  | _ => False
theorem drs_sgns {h : Hd} {X : List Nat} {μ : Mu} : ∀ l : List Nat, DRs h X μ (l.map fun c => Val.str (sgn c)) (l.map fun c => Dt.str (sgn c))
  | [] => .nil
  | c :: l => .cons (.str _) (drs_sgns l)
section
variable {ms : MA} {ps : PlA} {m : ME} {p : PlE}
theorem si_itS (s : SiE m p) : SiI (iStrM m) (pItS p) := fun h X O μ σ ρ r Q S E hq => by
  refine (s h X O μ σ ρ r _ S E hq).bind fun v μ1 h1 d σ1 e1 S1 q1 hq1 => ?_
  split at hq1
  · rename_i x
    cases DW.str (.inl q1)
    exact okR_ret (rel := rlI) S1 (fun h' μ' O' X' e hO hX => ⟨_, rfl, drs_sgns _⟩) hq1
  · exact hq1.elim
end
def lstZipD : List Dt → Sg → Option Dt
  | [.lst xs, .tup ys], _ => if xs.length = ys.length then some (.lst (zip2D xs ys)) else none
  | _, _ => none
theorem p_lstZip : PN lstZipM lstZipD := by
  intro h X μ σ xs dxs d S hx e
  unfold lstZipD at e
  split at e
  · rename_i ds es
    obtain ⟨v, w, rfl, q1, q2⟩ := hx.two
    split at e
    · rename_i c
      cases e
      obtain ⟨n, vs, rfl, _, o, r⟩ := q1.lst S (l := ds) rfl
      obtain ⟨ws, rfl, r2⟩ := q2.tup
      unfold lstZipM
      simp only [o]
      rw [if_pos (by rw [r.len, r2.len]; exact c)]
      exact .new S (.lst (drs_zip2 r r2))
    · cases e
  · cases e
def pStar (a : PlE) (b : PlA) : PlA := fun r σ Q => a r σ fun d σ => match d with
  | .lst l => b r σ fun ds σ => Q (l ++ ds) σ
  | _ => False
theorem si_star {m : ME} {ms : MA} {p : PlE} {ps : PlA} (s : SiE m p) (sr : SiA ms ps) : SiA (mStar m ms) (pStar p ps) := fun h X O μ σ ρ r Q S E hq => by
  refine (s h X O μ σ ρ r _ S E hq).bind fun v μ1 h1 d σ1 e1 S1 q1 hq1 => ?_
  split at hq1
  · rename_i l
    have q1 : DR h1 (O ++ X) μ1 v (.lst l) := q1
    obtain ⟨n, vs, rfl, _, o, r1⟩ := DW.lst S1 (.inl q1) (l := l) rfl
    simp only [seqOf_l o]
    obtain ⟨us, μ2, h2, ds, σ2, e, e2, S2, q2, hq2⟩ := sr h1 X O μ1 σ1 ρ r _ S1 (E.ext e1 fun _ => none_in) hq1
    rw [e]
    exact ⟨_, _, _, _, _, rfl, e2, S2, (r1.ext e2 fun _ => none_in).app q2, hq2⟩
  · exact hq1.elim
/-- word, *parts = p -/
def mSt (m : ME) : MA := fun ρ μ => (m ρ μ).bind fun v μ => match v with
  | .loc n => match μ.ob n with
    | some (.lst (x :: xs)) => if xs.length < 16384 then .ok [x, .loc μ.nx] (μ.new (.lst xs)) else .no
    | _ => .no
  | _ => .no
theorem sStar_eq (i j : Nat) (m : ME) : sStar i j m = sPar i j (mSt m) := by
  funext ρ μ
  unfold sStar sPar mSt
  cases m ρ μ with
  | ok v μ1 =>
    cases v with
    | loc n =>
      simp only [R.bind_ok]
      cases μ1.ob n with
      | none => rfl
      | some o =>
        cases o with
        | lst l =>
          cases l with
          | nil => rfl
          | cons x xs =>
            simp only
            split <;> rfl
        | _ => rfl
    | _ => rfl
  | er _ _ _ => rfl
  | no => rfl
def pSt (p : PlE) : PlA := fun r σ Q => p r σ fun d σ => match d with
  | .lst (x :: xs) => xs.length < 16384 ∧ Q [x, .lst xs] σ
  | _ => False
theorem si_st {m : ME} {p : PlE} (s : SiE m p) : SiA (mSt m) (pSt p) := fun h X O μ σ ρ r Q S E hq => by
  refine (s h X O μ σ ρ r _ S E hq).bind fun v μ1 h1 d σ1 e1 S1 q1 hq1 => ?_
  split at hq1
  · rename_i x xs
    have q1 : DR h1 (O ++ X) μ1 v (.lst (x :: xs)) := q1
    obtain ⟨n, vs, rfl, _, o, r1⟩ := DW.lst S1 (.inl q1) (l := x :: xs) rfl
    cases r1 with
    | cons ra rr =>
      simp only [o]
      rw [if_pos (by rw [rr.len]; exact hq1.1)]
      obtain ⟨_, _, e, e2, S2, q2⟩ := Ok1.new S1 (o := .lst _) (.lst rr)
      cases e
      exact ⟨_, _, _, _, _, rfl, e2, S2, .cons (ra.ext e2 fun _ => none_in) (.cons q2 .nil), hq1.2⟩
  · exact hq1.elim
theorem si_sStar (i j : Nat) {m : ME} {p : PlE} (s : SiE m p) : SiS (sStar i j m) (qPar i j (pSt p)) := by
  rw [sStar_eq]
  exact si_par i j (si_st s)
/-! ### words that dsimp! [..] and simp_arith! [..] name and that this law has no use for -/
def makM : Nat := 0
def mMakeK : Nat := 0
def pMeth : Nat := 0
def onSy : Nat := 0
def pMake : Nat := 0
def pMakeK : Nat := 0
def pFnS : Nat := 0
def mak_ : Nat := 0
def num_ : Nat := 0
def alv_ : Nat := 0
def lim_ : Nat := 0
def lns_ : Nat := 0

/-! ### draws, plainly -/
theorem take_eq {μ : Mu} {b : Nat} (hb : Bag μ b) {n : Int} (h0 : 0 < n) (h1 : n < 1073741824) : ∃ k μ', d__law_take [.loc b, .int n] μ = .ok (.int k) μ' ∧ 0 ≤ k ∧ k < n ∧ Kee [b] μ μ' ∧ Bag μ' b ∧ μ'.nx = μ.nx := by
  obtain ⟨hlt, c, m, hb⟩ := hb
  have i0 : ∀ {x y : Val}, atI [x, y] 0 = some x := rfl
  have i1 : ∀ {x y : Val}, atI [x, y] 1 = some y := rfl
  have j0 : ixN 2 0 = some 0 := rfl
  have j1 : ixN 2 1 = some 1 := rfl
  unfold d__law_take runM m__law_take
  by_cases c0 : 0 < c
  · dsimp! [hb, i0, j0, decide_eq_true c0, h0, h1]
    exact ⟨_, _, rfl, Int.emod_nonneg _ (by omega), Int.emod_lt_of_pos _ h0, Kee.put (by simp), ⟨hlt, _, _, Mu.put_same ..⟩, rfl⟩
  · dsimp! [hb, i0, i1, j1, decide_eq_false c0, h0, h1]
    refine ⟨_, _, rfl, Int.emod_nonneg _ (by omega), Int.emod_lt_of_pos _ h0, Kee.put (by simp), ⟨hlt, _, _, Mu.put_same ..⟩, rfl⟩
theorem of_eq {μ : Mu} {b l : Nat} (hb : Bag μ b) {xs : List Val} (hl : seqOf μ l = some xs) (hll : l < μ.nx) (ne : l ≠ b) (h0 : 0 < xs.length) (h1 : xs.length < 1073741824) : ∃ x μ', d__law_of [.loc b, .loc l] μ = .ok x μ' ∧ x ∈ xs ∧ Kee [b] μ μ' ∧ Bag μ' b ∧ μ'.nx = μ.nx := by
  obtain ⟨k, μ', e, k0, k1, kp, bg, nx⟩ := take_eq hb (n := (xs.length : Nat)) (by omega) (by omega)
  have hl' : seqOf μ' l = some xs := by
    unfold seqOf at hl ⊢
    rw [kp.ob l hll (by simpa using ne)]
    exact hl
  have hlt : k.toNat < xs.length := by omega
  have ha : atI xs k = some xs[k.toNat] := by
    have z := atI_nat (List.getElem?_eq_getElem hlt)
    rw [show ((k.toNat : Nat) : Int) = k by omega] at z
    exact z
  refine ⟨xs[k.toNat], μ', ?_, List.getElem_mem hlt, kp, bg, nx⟩
  unfold seqOf at hl hl'
  unfold d__law_of runM m__law_of
  dsimp! [hl, e, hl', ha]

theorem cut_ints (ns : List Int) (lo hi : Option Int) : cutG (ns.map Val.int) lo hi = (cutG ns lo hi).map Val.int := by
  unfold cutG
  rw [List.length_map, List.map_take, List.map_drop]
theorem enm_ints_get {l : List Int} {i : Nat} {v : Val} (h : (enmM (l.map Val.int))[i]? = some v) : ∃ y, v = .tup [.int (i : Nat), .int y] := by
  rw [enmM_get, List.getElem?_map] at h
  cases e : l[i]? with
  | none => rw [e] at h; cases h
  | some y => rw [e] at h; cases h; exact ⟨y, rfl⟩
theorem bag_eq {μ : Mu} {s : Nat} {ns : List Int} {i : Int} (hs : seqOf μ s = some (ns.map Val.int)) (hl : s < μ.nx) (hi : 0 ≤ i) : ∃ p μ', d__law_bag [.loc s, .int i] μ = .ok (.loc p) μ' ∧ Kee [] μ μ' ∧ Bag μ' p ∧ μ.nx ≤ p := by
  have hs0 := hs
  unfold seqOf at hs
  suffices h : Gets (d__law_bag [.loc s, .int i] μ) fun v μ' => ∃ p, v = .loc p ∧ Kee [] μ μ' ∧ Bag μ' p ∧ μ.nx ≤ p by
    obtain ⟨v, μ', e, p, rfl, q⟩ := h.ex
    exact ⟨p, μ', e, q⟩
  refine Gets.run rfl ?_
  have rest : ∀ cell blend : Int, Rets (sSeq (sFor (iEnm (mCons (mSl (mV 0) mP0 (mP (mC (.int 40)))) mNil)) (tgT [4, 5]) m__law_bag_1) (sRet (mLst (mCons (mIf (mTest (mOp geM (mFn absM (mCons (mV 2) mNil)) (mOp powM (mC (.int 10)) (mC (.int 18))))) (mFn absM (mCons (mV 2) mNil)) (mC (.int 0))) (mCons (mV 3) mNil)))) [some (.loc s), some (.int i), some (.int cell), some (.int blend), none, none] μ) fun v μ' => ∃ p, v = .loc p ∧ Kee [] μ μ' ∧ Bag μ' p ∧ μ.nx ≤ p := by
    intro cell blend
    unfold sSeq
    refine Rets.then ?_
    refine sFor_goes (k := .enm μ.nx) (μ1 := μ.new (.lst (cutG (ns.map Val.int) none (some 40)))) (vs := enmM ((cutG ns none (some 40)).map Val.int)) ?_ ?_ (fun _ ρ μ' => (∃ b v4 v5, ρ = [some (.loc s), some (.int i), some (.int cell), some (.int b), v4, v5]) ∧ μ' = μ.new (.lst (cutG (ns.map Val.int) none (some 40)))) ⟨⟨_, _, _, rfl⟩, rfl⟩ ?_ ?_ ?_
    · dsimp! [hs]
    · dsimp! [cut_ints]
      rfl
    · rintro j ρ μ' _ ⟨_, rfl⟩
      dsimp! [cut_ints]
      rfl
    · rintro j v ρ μ' hv ⟨⟨b, v4, v5, rfl⟩, rfl⟩
      obtain ⟨y, rfl⟩ := enm_ints_get hv
      refine ⟨_, rfl, ?_⟩
      unfold m__law_bag_1
      dsimp!
      exact ⟨_, _, _, rfl⟩
    · rintro ρ μ' ⟨⟨b, v4, v5, rfl⟩, rfl⟩
      have fin : ∀ z : Int, ∃ p, Val.loc (μ.nx + 1) = .loc p ∧ Kee [] μ ((μ.new (.lst (cutG (ns.map Val.int) none (some 40)))).new (.lst [.int z, .int b])) ∧ Bag ((μ.new (.lst (cutG (ns.map Val.int) none (some 40)))).new (.lst [.int z, .int b])) p ∧ μ.nx ≤ p := fun z =>
        ⟨_, rfl, Kee.new.trans Kee.new, ⟨Nat.lt_succ_self _, _, _, Mu.new_same ..⟩, Nat.le_succ _⟩
      generalize hd : decide ((1000000000000000000 : Int) ≤ if cell < 0 then -cell else cell) = dd
      cases dd with
      | true =>
        dsimp! [hd, show Int.natAbs 10 = 10 from rfl]
        exact fin _
      | false =>
        dsimp! [hd, show Int.natAbs 10 = 10 from rfl]
        exact fin _
  by_cases c : i < (ns.length : Int)
  · have ha : atI (ns.map Val.int) i = some (.int ns[i.toNat]) := by
      have hlt : i.toNat < ns.length := by omega
      have z := atI_nat (xs := ns.map Val.int) (j := i.toNat) (v := .int ns[i.toNat]) (by rw [List.getElem?_map, List.getElem?_eq_getElem hlt]; rfl)
      rw [show ((i.toNat : Nat) : Int) = i by omega] at z
      exact z
    unfold m__law_bag
    dsimp! [hs, List.length_map, decide_eq_true c, ha]
    exact rest _ _
  · unfold m__law_bag
    dsimp! [hs, List.length_map, decide_eq_false c]
    exact rest _ _

/-! ### data, plainly (P43 without the reports) -/
theorem ixN_in {n : Nat} {i : Int} (h0 : 0 ≤ i) (h1 : i < n) : ixN n i = some i.toNat := by
  unfold ixN
  rw [if_pos h0, if_pos h1]
/-! ### draws, as plain data do (as in P300) -/
section
variable {h : Hd} {X : List Nat} {μ μ' : Mu} {σ : Sg} {v : Sv} {Q : Dt → Sg → Prop} {k n : Nat}
theorem DRs.inil {h : Hd} {X : List Nat} {μ : Mu} {xs : List Val} (q : DRs h X μ xs []) : xs = [] := by cases q; rfl
end
def bag_ : List Dt → Sg → (Dt → Sg → Prop) → Prop := fun ds σ Q => match ds with
  | [.ros l, .int i] => (∃ ns : List Int, l = ns.map .int) ∧ 0 ≤ i ∧ Q (.ref σ.length) (σ ++ [.bag])
  | _ => False
def take_ : List Dt → Sg → (Dt → Sg → Prop) → Prop := fun ds σ Q => match ds with
  | [.ref b, .int n] => σ[b]? = some .bag ∧ 0 < n ∧ n < 1073741824 ∧ ∀ k, 0 ≤ k → k < n → Q (.int k) σ
  | _ => False
def of_ : List Dt → Sg → (Dt → Sg → Prop) → Prop := fun ds σ Q => match ds with
  | [.ref b, .lst l] => σ[b]? = some .bag ∧ 0 < l.length ∧ l.length < 1073741824 ∧ ∀ d ∈ l, Q d σ
  | _ => False
section
variable {h : Hd} {X : List Nat} {μ μ' : Mu} {σ : Sg} {Q : Dt → Sg → Prop} {k n b : Nat}
theorem Sm.bag (S : Sm h X μ σ) (hk : h[k]? = some b) (hs : σ[k]? = some .bag) : Bag μ b := ⟨S.lt b (List.mem_of_getElem? hk), S.ob k b _ hk hs⟩
theorem okR_draw (S : Sm h X μ σ) (hk : h[k]? = some b) (hs : σ[k]? = some .bag) {y : Val} {d : Dt} (kp : Kee [b] μ μ') (hb : Bag μ' b) (q : Ext h h [] μ μ' → DR h X μ' y d) (hq : Q d σ) : OkR rlE h X μ Q (.ok y μ') := by
  have hm := List.mem_of_getElem? hk
  have E : Ext h h [] μ μ' := Ext.kee kp fun m z => by cases List.mem_singleton.mp z; exact hm
  have S' := S.put hk E (c := .bag) hb.2 fun m z ne => kp.ob m (S.lt m z) fun y => ne (List.mem_singleton.mp y)
  have e : σ.set k .bag = σ := by
    obtain ⟨l, z⟩ := List.getElem?_eq_some_iff.mp hs
    rw [← z]
    exact List.set_getElem_self l
  rw [e] at S'
  exact ⟨y, μ', h, d, σ, rfl, E, S', q E, hq⟩
theorem ints_un : ∀ {ns : List Int} {vs : List Val}, DRs h X μ vs (ns.map .int) → vs = ns.map .int
  | [], _, q => q.inil
  | i :: ns, v :: vs, .cons a b => by rw [DW.int (.inl a), ints_un b]; rfl
theorem sd_bag : SiD d__law_bag bag_ := fun h X μ σ vs ds Q S q hq => by
  unfold bag_ at hq
  split at hq
  · rename_i l i
    obtain ⟨⟨ns, rfl⟩, hi, hq⟩ := hq
    obtain ⟨x, y, rfl, a, b⟩ := DWs.two (DRs.w q)
    obtain ⟨s, ws, rfl, sl, o, r⟩ := DW.ros a
    rw [b.int]
    rw [ints_un r] at o
    obtain ⟨p, μ', e, kp, bg, pn⟩ := bag_eq o sl hi
    rw [e]
    obtain ⟨S', E⟩ := S.mk_ (Ext.kee (h := h) kp fun _ => none_in) pn bg.1 (fun m z => kp.ob m (S.lt m z) fun y => nomatch y) (c := .bag) bg.2
    refine ⟨_, _, _, _, _, rfl, E, S', .ref ?_, hq⟩
    rw [← S.len, List.getElem?_append_right (Nat.le_refl _), Nat.sub_self]
    rfl
  · exact hq.elim
theorem sd_take : SiD d__law_take take_ := fun h X μ σ vs ds Q S q hq => by
  unfold take_ at hq
  split at hq
  · obtain ⟨hs, h0, h1, hq⟩ := hq
    obtain ⟨x, y, rfl, a, c⟩ := DWs.two (DRs.w q)
    obtain ⟨n, rfl, hk⟩ := a.ref
    rw [c.int]
    obtain ⟨k, μ', e, k0, k1, kp, bg, _⟩ := take_eq (S.bag hk hs) h0 h1
    rw [e]
    exact okR_draw S hk hs kp bg (fun _ => .int _) (hq k k0 k1)
  · exact hq.elim
theorem DRs.mem : ∀ {vs : List Val} {ds : List Dt}, DRs h X μ vs ds → ∀ x ∈ vs, ∃ d ∈ ds, DR h X μ x d
  | _, _, .nil, x, m => nomatch m
  | _, _, .cons a b, x, m => by
    rcases List.mem_cons.mp m with z | z
    · exact ⟨_, List.mem_cons_self, z ▸ a⟩
    · obtain ⟨d, u, w⟩ := DRs.mem b x z
      exact ⟨d, List.mem_cons_of_mem _ u, w⟩
theorem sd_of : SiD d__law_of of_ := fun h X μ σ vs ds Q S q hq => by
  unfold of_ at hq
  split at hq
  · obtain ⟨hs, h0, h1, hq⟩ := hq
    obtain ⟨x, y, rfl, a, c⟩ : ∃ x y, vs = [x, y] ∧ DR h X μ x _ ∧ DR h X μ y _ := by
      match vs, q with
      | [x, y], .cons a (.cons b .nil) => exact ⟨x, y, rfl, a, b⟩
    obtain ⟨n, rfl, hk⟩ := DW.ref (.inl a)
    cases c with
    | @obj m _ _ c1 c2 c3 o c =>
      cases c with
      | lst r =>
        have ne : m ≠ n := fun z => c1 (z ▸ List.mem_of_getElem? hk)
        obtain ⟨x, μ', e, hx, kp, bg, _⟩ := of_eq (S.bag hk hs) (seqOf_l o) c3 ne (by rw [r.len]; exact h0) (by rw [r.len]; exact h1)
        rw [e]
        obtain ⟨d, hd, qd⟩ := r.mem x hx
        exact okR_draw S hk hs kp bg (fun E => qd.ext E fun _ => none_in) (hq d hd)
  · exact hq.elim
end
/-- the law, from its plain form -/
theorem law_plain {d : List Val → Mu → R Val} {p : List Dt → Sg → (Dt → Sg → Prop) → Prop} (s : SiD d p) {μ : Mu} {n : Nat} {ns : List Int} (hs : seqOf μ n = some (ns.map Val.int)) (sl : n < μ.nx) (hq : p [.ros (ns.map .int)] [] fun d _ => d = .bl true) : Gets (d [.loc n] μ) fun v _ => v = .bl true := by
  have S : Sm [] [] μ [] := ⟨rfl, List.nodup_nil, fun _ z => (nomatch z), fun _ z => (nomatch z), fun k n c z => (nomatch z)⟩
  obtain ⟨o, ho, hk⟩ : ∃ o, μ.ob n = some o ∧ (o = .lst (ns.map Val.int) ∨ o = .ro (ns.map Val.int)) := by
    unfold seqOf at hs
    split at hs
    · rename_i e; cases hs; exact ⟨_, e, .inl rfl⟩
    · rename_i e; cases hs; exact ⟨_, e, .inr rfl⟩
    · cases hs
  obtain ⟨v, μ', h', x, σ', e, _, _, q, rfl⟩ := s [] [] μ [] [.loc n] _ _ S (.cons (.obj (fun z => (nomatch z)) (fun z => (nomatch z)) sl ho (.ros hk (DRs.of _ fun x _ => .int x))) .nil) hq
  rw [e]
  exact DW.bl (.inl q)

/-! ### texts, as plain data do -/
def strD : List Dt → Sg → Option Dt
  | [.int i], _ => if i.natAbs ≤ 1000000000000000000000 then some (.str (toString i)) else none
  | [.str a], _ => some (.str a)
  | _, _ => none
theorem p_str' : PN strM strD := by
  intro h X μ σ xs dxs d S hx e
  unfold strD at e
  split at e
  · obtain ⟨v, rfl, q⟩ := hx.one
    split at e
    · rename_i c
      cases e
      rw [q.int]
      unfold strM
      simp only
      rw [if_pos c]
      exact .id S (.str _)
    · cases e
  · obtain ⟨v, rfl, q⟩ := hx.one
    cases e
    rw [q.str]
    exact .id S (.str _)
  · cases e
def strsD : List Dt → Option (List Str)
  | [] => some []
  | .str a :: vs => (strsD vs).map (a :: ·)
  | _ :: _ => none
theorem strsD_map : ∀ {l : List Str}, strsD (l.map Dt.str) = some l
  | [] => rfl
  | a :: l => by show (strsD (l.map Dt.str)).map (a :: ·) = _; rw [strsD_map]; rfl
theorem strsD_rel {h : Hd} {X : List Nat} {μ : Mu} : ∀ {vs : List Val} {ds : List Dt} {ys : List Str}, DRs h X μ vs ds → strsD ds = some ys → jStrV vs = some ys
  | _, _, _, .nil, e => by cases e; rfl
  | _, _, ys, .cons (d := d) r1 r2, e => by
    cases d with
    | str a =>
      obtain ⟨zs, h1, rfl⟩ := Option.map_eq_some_iff.mp e
      cases DW.str (.inl r1)
      show (jStrV _).map (a :: ·) = _
      rw [strsD_rel r2 h1]
      rfl
    | _ => cases e
def joinD (x y : Dt) (σ : Sg) : Option Dt := match x with
  | .str a => ((lstD σ y).bind strsD).bind fun ys => if joinFitM a ys then some (.str (Txt.join a ys)) else none
  | _ => none
theorem p_join : P2 joinR joinD := by
  intro h X μ σ x y dx dy d S hx hy e
  cases dx with
  | str a =>
    obtain ⟨ys, e1, e2⟩ := Option.bind_eq_some_iff.mp (show ((lstD σ dy).bind strsD).bind _ = some d from e)
    obtain ⟨l, e3, e4⟩ := Option.bind_eq_some_iff.mp e1
    rw [hx.str]
    obtain ⟨n, vs, rfl, _, o, r⟩ := hy.lst S e3
    unfold joinR
    have : (jItsV (.loc n) μ).bind jStrV = some ys := by
      show (seqOf μ n).bind jStrV = _
      rw [seqOf_l o]
      exact strsD_rel r e4
    simp only [this]
    split at e2
    · rename_i c
      cases e2
      rw [if_pos c]
      exact .id S (.str _)
    · cases e2
  | _ => cases e
/-! ### a def called by its one argument's name, as plain data do -/
/-! ### a word in a tuple of words, as plain data do -/
def inTD : Dt → Dt → Sg → Option Dt
  | .str a, .tup l, _ => (strsD l).map fun ys => .bl (decide (a ∈ ys))
  | _, _, _ => none
theorem strsD_O {h : Hd} {X : List Nat} {μ : Mu} : ∀ {vs : List Val} {ds : List Dt} {ys : List Str}, DRs h X μ vs ds → strsD ds = some ys → strsO vs = some ys
  | _, _, _, .nil, e => by cases e; rfl
  | _, _, ys, .cons (d := d) r1 r2, e => by
    cases d with
    | str a =>
      obtain ⟨zs, h1, rfl⟩ := Option.map_eq_some_iff.mp e
      cases DW.str (.inl r1)
      show (strsO _).map (a :: ·) = _
      rw [strsD_O r2 h1]
      rfl
    | _ => cases e
theorem p_inT : P2 inTM inTD := by
  intro h X μ σ x y dx dy d S hx hy e
  unfold inTD at e
  split at e
  · rename_i a l
    obtain ⟨ys, e1, rfl⟩ := Option.map_eq_some_iff.mp e
    obtain ⟨vs, rfl, r⟩ := hy.tup
    rw [hx.str]
    have t : tupHas (.str a) (.tup vs) = some (decide (a ∈ ys)) := by
      show (strsO vs).map _ = _
      rw [strsD_O r e1]
      rfl
    unfold inTM
    simp only [t]
    exact .id S (.bl _)
  · cases e

/-! ### plain data: defs that raise; the raise is read as a return of its own -/
def cvE (c f : Str) : R Fl → R Fl
  | .ok (.rt v) μ => .er c [(f, v), ("caption", .str c)] μ
  | r => r
def Nr (m : MS) : Prop := ∀ ρ μ v μ', m ρ μ ≠ .ok (.rt v) μ'
/-- m does what m' does, but raises what m' returns -/
def Cv (c f : Str) (m m' : MS) : Prop := ∀ ρ μ, m ρ μ = cvE c f (m' ρ μ)
section
variable {c f : Str} {a b a' b' : MS} {e : ME} {t : MT} {i : Nat}
theorem cv_nr (h : Nr a) : Cv c f a a := fun ρ μ => by
  cases hr : a ρ μ with
  | ok fl μ1 =>
    cases fl with
    | rt v => exact absurd hr (h ρ μ v μ1)
    | nx _ => rfl
    | bk _ => rfl
    | ct _ => rfl
  | er _ _ _ => rfl
  | no => rfl
theorem cv_err : Cv c f (sErr c f e) (sRet e) := fun ρ μ => by
  unfold sErr sRet
  cases e ρ μ with
  | ok v μ1 => rfl
  | er _ _ _ => rfl
  | no => rfl
theorem cv_seq (ha : Cv c f a a') (hb : Cv c f b b') : Cv c f (sSeq a b) (sSeq a' b') := fun ρ μ => by
  unfold sSeq
  rw [ha ρ μ]
  cases a' ρ μ with
  | ok fl μ1 =>
    cases fl with
    | nx ρ1 => exact hb ρ1 μ1
    | rt v => rfl
    | bk _ => rfl
    | ct _ => rfl
  | er _ _ _ => rfl
  | no => rfl
theorem cv_if (ha : Cv c f a a') (hb : Cv c f b b') : Cv c f (sIf t a b) (sIf t a' b') := fun ρ μ => by
  unfold sIf
  cases t ρ μ with
  | ok k μ1 =>
    simp only [R.bind_ok]
    cases k
    · exact hb ρ μ1
    · exact ha ρ μ1
  | er _ _ _ => rfl
  | no => rfl
theorem cv_forM {get : Mu → Option (List Val)} {g : Val → Rho → Option Rho} (hb : Cv c f a a') : ∀ (n i : Nat) (ρ : Rho) (μ : Mu), forM' get g a n i ρ μ = cvE c f (forM' get g a' n i ρ μ)
  | 0, _, _, _ => rfl
  | n + 1, i, ρ, μ => by
    unfold forM'
    cases get μ with
    | none => rfl
    | some vs =>
      simp only
      cases vs[i]? with
      | none => rfl
      | some v =>
        simp only
        cases g v ρ with
        | none => rfl
        | some ρ1 =>
          simp only
          rw [hb ρ1 μ]
          cases a' ρ1 μ with
          | ok fl μ2 =>
            cases fl with
            | nx ρ2 => exact cv_forM hb n (i + 1) ρ2 μ2
            | ct ρ2 => exact cv_forM hb n (i + 1) ρ2 μ2
            | bk _ => rfl
            | rt _ => rfl
          | er _ _ _ => rfl
          | no => rfl
theorem cv_for {it : MI} {g : Val → Rho → Option Rho} (hb : Cv c f a a') : Cv c f (sFor it g a) (sFor it g a') := fun ρ μ => by
  unfold sFor
  cases it ρ μ with
  | ok k μ1 =>
    simp only [R.bind_ok]
    cases k.items μ1 with
    | none => rfl
    | some vs => exact cv_forM hb _ _ _ _
  | er _ _ _ => rfl
  | no => rfl
theorem nr_nil : Nr sNil := fun ρ μ v μ' h => by cases h
theorem nr_set : Nr (sSet i e) := fun ρ μ v μ' h => by
  unfold sSet at h
  cases he : e ρ μ with
  | ok x μ1 => rw [he] at h; cases h
  | er _ _ _ => rw [he] at h; cases h
  | no => rw [he] at h; cases h
theorem nr_expr : Nr (sExpr e) := fun ρ μ v μ' h => by
  unfold sExpr at h
  cases he : e ρ μ with
  | ok x μ1 => rw [he] at h; cases h
  | er _ _ _ => rw [he] at h; cases h
  | no => rw [he] at h; cases h
end
/-- a def that raises: p is what stands ahead of its last statement, q the last one; Q what is wanted of the answer, Z of the error's field -/
def runX (n N : Nat) (p q : PlS) (ds : List Dt) (σ : Sg) (Q Z : Dt → Sg → Prop) : Prop := ds.length = n ∧ p (startD N ds) σ ⟨fun r σ => q r σ ⟨fun _ _ => False, fun _ _ => False, fun _ _ => False, Q⟩, fun _ _ => False, fun _ _ => False, Z⟩
def SdX (d : List Val → Mu → R Val) (c f : Str) (p : List Dt → Sg → (Dt → Sg → Prop) → (Dt → Sg → Prop) → Prop) : Prop := ∀ (h : Hd) (X : List Nat) (μ : Mu) (σ : Sg) (vs : List Val) (ds : List Dt) (Q Z : Dt → Sg → Prop), Sm h X μ σ → DRs h X μ vs ds → p ds σ Q Z → OkR rlE h X μ Q (d vs μ) ∨
  ∃ v μ' h' d' σ', d vs μ = .er c [(f, v), ("caption", .str c)] μ' ∧ Ext h h' [] μ μ' ∧ Sm h' X μ' σ' ∧ DR h' X μ' v d' ∧ Z d' σ'
theorem sdX_run {n N : Nat} {c f : Str} {m m' t : MS} {p q : PlS} (hc : Cv c f m m') (s : SiS m' p) (st : SiS t q) : SdX (runM n N (sSeq m t)) c f (runX n N p q) := fun h X μ σ vs ds Q Z S qd hq => by
  unfold runM
  rw [if_pos (by rw [qd.len]; exact hq.1)]
  obtain ⟨fl, μ1, h1, O1, σ1, a1, a2, a3, a4, a5⟩ := s h X [] μ σ (startV N vs) (startD N ds) _ S (EnvD.start N qd) hq.2
  unfold sSeq
  rw [hc, a1]
  cases fl with
  | nx ρ =>
    obtain ⟨r, E, hk⟩ := a5
    refine .inl ?_
    obtain ⟨fl2, μ2, h2, O2, σ2, b1, b2, b3, b4, b5⟩ := st h1 X O1 μ1 σ1 ρ r _ a4 E hk
    have e1 : sThen (cvE c f (.ok (.nx ρ) μ1)) t = .ok fl2 μ2 := b1
    rw [e1]
    cases fl2 with
    | nx _ => obtain ⟨r, _, hk⟩ := b5; exact hk.elim
    | bk _ => obtain ⟨r, _, hk⟩ := b5; exact hk.elim
    | ct _ => obtain ⟨r, _, hk⟩ := b5; exact hk.elim
    | rt v =>
      obtain ⟨d, x, y⟩ := b5
      exact ⟨v, μ2, h2, d, σ2, rfl, a2.trans b2 fun n z => a3 n z, b4.weak fun n z => List.mem_append_right _ z, x, y⟩
  | bk ρ => obtain ⟨r, _, hk⟩ := a5; exact hk.elim
  | ct ρ => obtain ⟨r, _, hk⟩ := a5; exact hk.elim
  | rt v =>
    obtain ⟨d, x, y⟩ := a5
    exact .inr ⟨v, μ1, h1, d, σ1, rfl, a2, a4.weak fun n z => List.mem_append_right _ z, x, y⟩
/-- x(lambda: f(..)), x tells the error alone as [e.field, True] -/
def pRf (n : Nat) (p : List Dt → Sg → (Dt → Sg → Prop) → (Dt → Sg → Prop) → Prop) (a : PlA) : PlE := fun r σ Q => a r σ fun xs σ => xs.length = n ∧ p xs σ (fun _ σ' => Q .non σ') (fun d σ' => Q (.lst [d, .bl true]) σ')
theorem si_rf {n : Nat} {hs : Ohs} {c f : Str} (hf : findH hs c = some [.fld f, .isi]) {d : List Val → Mu → R Val} {p : List Dt → Sg → (Dt → Sg → Prop) → (Dt → Sg → Prop) → Prop} {as : MA} {as' : PlA} (sd : SdX d c f p) (sa : SiA as as') : SiE (mOutX hs (mCallX n d as)) (pRf n p as') := fun h X O μ σ ρ r Q S E hq => by
  obtain ⟨vs, μ1, h1, ds, σ1, e, e1, S1, q1, hq1⟩ := sa h X O μ σ ρ r _ S E hq
  have q1 : DRs h1 (O ++ X) μ1 vs ds := q1
  unfold mOutX mCallX
  simp only [e, R.bind_ok]
  rw [if_pos (by rw [q1.len]; exact hq1.1)]
  rcases sd h1 (O ++ X) μ1 σ1 vs ds _ _ S1 q1 hq1.2 with z | ⟨v, μ2, h2, d', σ2, e2, x2, S2, qd, hz⟩
  · obtain ⟨v, μ2, h2, d', σ2, e2, x2, S2, qd, hz⟩ := z
    rw [e2]
    exact ⟨.non, μ2, h2, .non, σ2, rfl, e1.trans x2 fun n z => .inl z, S2, .non, hz⟩
  · rw [e2]
    simp only [hf]
    have hi : itsM [(f, v), ("caption", .str c)] [.fld f, .isi] = some [v, .bl true] := by
      simp only [itsM, itM, List.lookup_cons, beq_self_eq_true]
    simp only [hi]
    obtain ⟨w, μ3, e3, x3, S3, q3⟩ := Ok1.new S2 (.lst (.cons qd (.cons (.bl true) .nil)))
    exact ⟨w, μ3, h2, .lst [d', .bl true], σ2, e3, (e1.trans x2 fun n z => .inl z).trans x3 fun n z => .inl z, S3, q3, hz⟩

/-! ### slices of texts; list(text); as plain data do (k26) -/
def slSD (x : Dt) (lo hi : Option Int) : Option Dt := match x with
  | .str z => if z.length ≤ 1000000 then some (.str (cutS z lo hi)) else none
  | _ => none
def pSlS (e : PlE) (lo hi : PlO) : PlE := fun r σ Q => e r σ fun x σ => lo r σ fun l σ => hi r σ fun h σ => oK (slSD x l h) fun d => Q d σ
theorem si_slS {a : ME} {a' : PlE} {lo hi : MO} {lo' hi' : PlO} (sa : SiW a a') (sl : Si rlO lo lo') (sh : Si rlO hi hi') : SiE (mSlS a lo hi) (pSlS a' lo' hi') := fun h X O μ σ ρ r Q S E hq => by
  refine (sa h X O μ σ ρ r _ S E hq).bind fun v μ1 h1 d σ1 e1 S1 q1 hq1 => ?_
  refine (sl h1 X O μ1 σ1 ρ r _ S1 (E.ext e1 fun _ => none_in) hq1).bind fun x μ2 h2 e σ2 e2 S2 q2 hq2 => ?_
  refine (sh h2 X O μ2 σ2 ρ r _ S2 ((E.ext e1 fun _ => none_in).ext e2 fun _ => none_in) hq2).bind fun y μ3 h3 f σ3 e3 S3 q3 hq3 => ?_
  have q2 : x = e := q2
  have q3 : y = f := q3
  subst q2 q3
  have q1 : DW h3 (O ++ X) μ3 v d := (DW.ext q1 e2).ext e3
  obtain ⟨z, hz, hq3⟩ := oK_of hq3
  unfold slSD at hz
  split at hz
  · split at hz
    · rename_i c
      cases hz
      rw [q1.str]
      unfold slSM
      simp only
      rw [if_pos c]
      exact (Ok1.id S3 (.str _)).r hq3
    · cases hz
  · cases hz
def lsSD : Dt → Sg → Option Dt
  | .str z, _ => if z.length ≤ 1000000 then some (.lst (z.cps.toList.map fun c => Dt.str (sgn c))) else none
  | _, _ => none
theorem dr_signs {h : Hd} {X : List Nat} {μ : Mu} : ∀ l : List Nat, DRs h X μ (l.map fun c => Val.str (sgn c)) (l.map fun c => Dt.str (sgn c))
  | [] => .nil
  | a :: l => .cons (.str _) (dr_signs l)
theorem p_lsS : P1 lsSM lsSD := by
  intro h X μ σ x dx d S hx e
  unfold lsSD at e
  split at e
  · split at e
    · rename_i c
      cases e
      rw [hx.str]
      unfold lsSM
      simp only
      rw [if_pos c]
      exact .new S (.lst (dr_signs _))
    · cases e
  · cases e

/-! ### plain data: a ** b (out of P671) -/
def powD : Dt → Dt → Sg → Option Dt
  | .int i, .int j, _ => if CPow i j then some (.int (i ^ j.toNat)) else none
  | _, _, _ => none
theorem p_pow : P2 powM powD := by
  intro h X μ σ x y dx dy d S hx hy e
  unfold powD at e
  split at e
  · split at e
    · rename_i c; cases e; rw [hx.int, hy.int]; unfold powM; simp only; rw [if_pos c]; exact .id S (.int _)
    · cases e
  · cases e

/-! ### k26: the defs, as plain data do -/
def p_is_number_text_1 : PlS :=
    (qIf (pOr (pNot (pTest (pChain leD leD (pC (.int 1)) (pFn lenD (pCons (pV 0) pNil)) (pC (.int 9))))) (pNot (pTest (pFn allD_ (pCons (pLc (pItS (pV 0)) [1] (gN 1) pYes (pOp inSgD (pV 1) (pC (.str "0123456789")))) pNil))))) (qRet (pC (.bl false))) qNil)
theorem ss_is_number_text_1 : SiS m_is_number_text_1 p_is_number_text_1 := by
  unfold m_is_number_text_1 p_is_number_text_1
  exact (si_ifS (si_or (si_not (si_test (si_chain p_le p_le (si_int _) (si_fn p_len' (si_consW ((si_var _)).w si_nilW)) (si_int _)))) (si_not (si_test (si_fn p_all' (si_consW ((si_lc ((si_itS (si_var _)).w) (si_gN _) si_yes (si_op p_inSg ((si_var _)).w ((si_str _)).w))).w si_nilW))))) (si_ret (si_bl _)) si_sNil)
def p_is_number_text_2 : PlS :=
    (qRet (pOrT (pOp eqD (pV 0) (pC (.str "0"))) (pOp neD (pOp ixSD (pV 0) (pC (.int 0))) (pC (.str "0")))))
theorem ss_is_number_text_2 : SiS m_is_number_text_2 p_is_number_text_2 := by
  unfold m_is_number_text_2 p_is_number_text_2
  exact (si_ret (si_orT (si_op p_eq ((si_var _)).w ((si_str _)).w) (si_op p_ne ((si_op p_ixS ((si_var _)).w ((si_int _)).w)).w ((si_str _)).w)))
def p_is_number_text : PlS :=
    (qSeq p_is_number_text_1
    p_is_number_text_2)
theorem ss_is_number_text : SiS m_is_number_text p_is_number_text := by
  unfold m_is_number_text p_is_number_text
  exact (si_seq ss_is_number_text_1 ss_is_number_text_2)
def p_is_number_text_ : List Dt → Sg → (Dt → Sg → Prop) → Prop := runD 1 2 p_is_number_text
theorem sd_is_number_text : SiD d_is_number_text p_is_number_text_ := si_run ss_is_number_text
def p_is_argument_1 : PlS :=
    (qIf (pTest (pOp eqD (pV 1) (pC (.str "word")))) (qRet (pOp inTD (pV 0) (pTup (pCons (pC (.str "level")) (pCons (pC (.str "edge")) (pCons (pC (.str "once")) pNil)))))) qNil)
theorem ss_is_argument_1 : SiS m_is_argument_1 p_is_argument_1 := by
  unfold m_is_argument_1 p_is_argument_1
  exact (si_ifS (si_test (si_op p_eq ((si_var _)).w ((si_str _)).w)) (si_ret (si_op p_inT ((si_var _)).w ((si_tup (si_cons (si_str _) (si_cons (si_str _) (si_cons (si_str _) si_nil))))).w)) si_sNil)
def p_is_argument_2 : PlS :=
    (qRet (pOrT (pCall 1 p_is_number_text_ (pCons (pV 0) pNil)) (pAndT (pOp eqD (pV 1) (pC (.str "optional"))) (pOp eqD (pV 0) (pC (.str "-"))))))
theorem ss_is_argument_2 : SiS m_is_argument_2 p_is_argument_2 := by
  unfold m_is_argument_2 p_is_argument_2
  exact (si_ret (si_orT (si_call sd_is_number_text (si_cons (si_var _) si_nil)) (si_andT (si_op p_eq ((si_var _)).w ((si_str _)).w) (si_op p_eq ((si_var _)).w ((si_str _)).w))))
def p_is_argument : PlS :=
    (qSeq p_is_argument_1
    p_is_argument_2)
theorem ss_is_argument : SiS m_is_argument p_is_argument := by
  unfold m_is_argument p_is_argument
  exact (si_seq ss_is_argument_1 ss_is_argument_2)
def p_is_argument_ : List Dt → Sg → (Dt → Sg → Prop) → Prop := runD 2 2 p_is_argument
theorem sd_is_argument : SiD d_is_argument p_is_argument_ := si_run ss_is_argument
def p_argument_in_1 : PlS :=
    (qRet (pIf (pTest (pOp eqD (pV 0) (pC (.str "-")))) (pC .non) (pFn intSD (pCons (pV 0) pNil))))
theorem ss_argument_in_1 : SiS m_argument_in_1 p_argument_in_1 := by
  unfold m_argument_in_1 p_argument_in_1
  exact (si_ret (si_if (si_test (si_op p_eq ((si_var _)).w ((si_str _)).w)) si_non (si_fn p_intS' (si_consW ((si_var _)).w si_nilW))))
def p_argument_in : PlS :=
    (qSeq (qIf (pTest (pOp eqD (pV 1) (pC (.str "word")))) (qRet (pV 0)) qNil)
    p_argument_in_1)
theorem ss_argument_in : SiS m_argument_in p_argument_in := by
  unfold m_argument_in p_argument_in
  exact (si_seq (si_ifS (si_test (si_op p_eq ((si_var _)).w ((si_str _)).w)) (si_ret (si_var _)) si_sNil) ss_argument_in_1)
def p_argument_in_ : List Dt → Sg → (Dt → Sg → Prop) → Prop := runD 2 2 p_argument_in
theorem sd_argument_in : SiD d_argument_in p_argument_in_ := si_run ss_argument_in
def p_call_in_1 : PlS :=
    (qIf (pOr (pTest (pOp eqD (pFn lenD (pCons (pV 3) pNil)) (pC (.int 0)))) (pTest (pOp neD (pFn lenD (pCons (pV 2) pNil)) (pFn lenD (pCons (pV 3) pNil))))) (qRet (pC .non)) qNil)
theorem ss_call_in_1 : SiS m_call_in_1 p_call_in_1 := by
  unfold m_call_in_1 p_call_in_1
  exact (si_ifS (si_or (si_test (si_op p_eq ((si_fn p_len' (si_consW ((si_var _)).w si_nilW))).w ((si_int _)).w)) (si_test (si_op p_ne ((si_fn p_len' (si_consW ((si_var _)).w si_nilW))).w ((si_fn p_len' (si_consW ((si_var _)).w si_nilW))).w))) (si_ret si_non) si_sNil)
def p_call_in_2 : PlS :=
    (qIf (pNot (pTest (pFn allD_ (pCons (pLc (pItW (pV 4)) [5, 6] (gT [5, 6]) pYes (pCall 2 p_is_argument_ (pCons (pV 5) (pCons (pV 6) pNil)))) pNil)))) (qRet (pC .non)) qNil)
theorem ss_call_in_2 : SiS m_call_in_2 p_call_in_2 := by
  unfold m_call_in_2 p_call_in_2
  exact (si_ifS (si_not (si_test (si_fn p_all' (si_consW ((si_lc (si_itW ((si_var _)).w) (si_gT _) si_yes (si_call sd_is_argument (si_cons (si_var _) (si_cons (si_var _) si_nil))))).w si_nilW)))) (si_ret si_non) si_sNil)
def p_call_in_3 : PlS :=
    (qRet (pTup (pCons (pV 1) (pStar (pLc (pItW (pV 4)) [5, 6] (gT [5, 6]) pYes (pCall 2 p_argument_in_ (pCons (pV 5) (pCons (pV 6) pNil)))) pNil))))
theorem ss_call_in_3 : SiS m_call_in_3 p_call_in_3 := by
  unfold m_call_in_3 p_call_in_3
  exact (si_ret (si_tup (si_cons (si_var _) (si_star (si_lc (si_itW ((si_var _)).w) (si_gT _) si_yes (si_call sd_argument_in (si_cons (si_var _) (si_cons (si_var _) si_nil)))) si_nil))))
def p_call_in : PlS :=
    (qSeq (qPar 1 2 (pSt (pUn (splD " ") (pV 0))))
    (qSeq (qSet 3 (pArgs (pV 1) (pTup pNil)))
    (qSeq p_call_in_1
    (qSeq (qSet 4 (pFn lstZipD (pCons (pV 2) (pCons (pV 3) pNil))))
    (qSeq p_call_in_2
    p_call_in_3)))))
theorem ss_call_in : SiS m_call_in p_call_in := by
  unfold m_call_in p_call_in
  exact (si_seq (si_sStar _ _ (si_un (p_spl _) ((si_var _)).w)) (si_seq (si_set _ (si_args (si_var _) (si_tup si_nil))) (si_seq ss_call_in_1 (si_seq (si_set _ (si_fn p_lstZip (si_consW ((si_var _)).w (si_consW ((si_var _)).w si_nilW)))) (si_seq ss_call_in_2 ss_call_in_3)))))
def p_call_in_ : List Dt → Sg → (Dt → Sg → Prop) → Prop := runD 1 7 p_call_in
theorem sd_call_in : SiD d_call_in p_call_in_ := si_run ss_call_in
def p__law_is_number_1 : PlS :=
    (qIf (pOr (pTest (pOp eqD (pV 0) (pC (.str "")))) (pTest (pOp neD (pLc (pItS (pV 0)) [1] (gN 1) (pTest (pOp ninD (pV 1) (pUn lsSD (pC (.str "0123456789"))))) (pV 1)) (pLst pNil)))) (qRet (pC (.bl false))) qNil)
theorem ss__law_is_number_1 : SiS m__law_is_number_1 p__law_is_number_1 := by
  unfold m__law_is_number_1 p__law_is_number_1
  exact (si_ifS (si_or (si_test (si_op p_eq ((si_var _)).w ((si_str _)).w)) (si_test (si_op p_ne ((si_lc ((si_itS (si_var _)).w) (si_gN _) (si_test (si_op p_nin ((si_var _)).w ((si_un p_lsS ((si_str _)).w)).w)) (si_var _))).w ((si_lst si_nil)).w))) (si_ret (si_bl _)) si_sNil)
def p__law_is_number_2 : PlS :=
    (qRet (pAndT (pOp ltD (pFn lenD (pCons (pV 0) pNil)) (pC (.int 10))) (pOrT (pOp eqD (pV 0) (pC (.str "0"))) (pOp neD (pOp ixSD (pV 0) (pC (.int 0))) (pC (.str "0"))))))
theorem ss__law_is_number_2 : SiS m__law_is_number_2 p__law_is_number_2 := by
  unfold m__law_is_number_2 p__law_is_number_2
  exact (si_ret (si_andT (si_op p_lt ((si_fn p_len' (si_consW ((si_var _)).w si_nilW))).w ((si_int _)).w) (si_orT (si_op p_eq ((si_var _)).w ((si_str _)).w) (si_op p_ne ((si_op p_ixS ((si_var _)).w ((si_int _)).w)).w ((si_str _)).w))))
def p__law_is_number : PlS :=
    (qSeq p__law_is_number_1
    p__law_is_number_2)
theorem ss__law_is_number : SiS m__law_is_number p__law_is_number := by
  unfold m__law_is_number p__law_is_number
  exact (si_seq ss__law_is_number_1 ss__law_is_number_2)
def p__law_is_number_ : List Dt → Sg → (Dt → Sg → Prop) → Prop := runD 1 2 p__law_is_number
theorem sd__law_is_number : SiD d__law_is_number p__law_is_number_ := si_run ss__law_is_number
def p__law_is_call_1 : PlS :=
    (qSet 2 (pDisp [((pC (.str "new_source")), (pC (.int 1))), ((pC (.str "new_set")), (pC (.int 1))), ((pC (.str "fork")), (pC (.int 1))), ((pC (.str "end")), (pC (.int 1))), ((pC (.str "numbers")), (pC (.int 1))), ((pC (.str "close")), (pC (.int 2))), ((pC (.str "finish")), (pC (.int 2))), ((pC (.str "units")), (pC (.int 2)))]))
theorem ss__law_is_call_1 : SiS m__law_is_call_1 p__law_is_call_1 := by
  unfold m__law_is_call_1 p__law_is_call_1
  exact (si_set _ (si_disp (si_pc (si_str _) (si_int _) (si_pc (si_str _) (si_int _) (si_pc (si_str _) (si_int _) (si_pc (si_str _) (si_int _) (si_pc (si_str _) (si_int _) (si_pc (si_str _) (si_int _) (si_pc (si_str _) (si_int _) (si_pc (si_str _) (si_int _) si_pn))))))))))
def p__law_is_call_2 : PlS :=
    (qSet 3 (pDisp [((pC (.str "copy")), (pC (.int 3))), ((pC (.str "read")), (pC (.int 3))), ((pC (.str "arrive")), (pC (.int 3))), ((pC (.str "remove")), (pC (.int 3))), ((pC (.str "wait")), (pC (.int 3))), ((pC (.str "same")), (pC (.int 4))), ((pC (.str "add")), (pC (.int 5))), ((pC (.str "change")), (pC (.int 4)))]))
theorem ss__law_is_call_2 : SiS m__law_is_call_2 p__law_is_call_2 := by
  unfold m__law_is_call_2 p__law_is_call_2
  exact (si_set _ (si_disp (si_pc (si_str _) (si_int _) (si_pc (si_str _) (si_int _) (si_pc (si_str _) (si_int _) (si_pc (si_str _) (si_int _) (si_pc (si_str _) (si_int _) (si_pc (si_str _) (si_int _) (si_pc (si_str _) (si_int _) (si_pc (si_str _) (si_int _) si_pn))))))))))
def p__law_is_call_3 : PlS :=
    (qSet 4 (pD2 (pV 2) (pOp getD_ (pV 1) (pC (.int 0))) (pD2 (pV 3) (pOp getD_ (pV 1) (pC (.int 0))) (pUn negD (pC (.int 1))))))
theorem ss__law_is_call_3 : SiS m__law_is_call_3 p__law_is_call_3 := by
  unfold m__law_is_call_3 p__law_is_call_3
  exact (si_set _ (si_d2 ((si_var _)).w ((si_op p_get ((si_var _)).w ((si_int _)).w)).w (si_d2 ((si_var _)).w ((si_op p_get ((si_var _)).w ((si_int _)).w)).w (si_un p_neg ((si_int _)).w))))
def p__law_is_call_4 : PlS :=
    (qIf (pTest (pOp neD (pFn lenD (pCons (pV 5) pNil)) (pV 4))) (qRet (pC (.bl false))) qNil)
theorem ss__law_is_call_4 : SiS m__law_is_call_4 p__law_is_call_4 := by
  unfold m__law_is_call_4 p__law_is_call_4
  exact (si_ifS (si_test (si_op p_ne ((si_fn p_len' (si_consW ((si_var _)).w si_nilW))).w ((si_var _)).w)) (si_ret (si_bl _)) si_sNil)
def p__law_is_call_5 : PlS :=
    (qIf (pTest (pOp ninD (pOp getD_ (pV 5) (pUn negD (pC (.int 1)))) (pLst (pCons (pC (.str "level")) (pCons (pC (.str "edge")) (pCons (pC (.str "once")) pNil)))))) (qRet (pC (.bl false))) qNil)
theorem ss__law_is_call_5 : SiS m__law_is_call_5 p__law_is_call_5 := by
  unfold m__law_is_call_5 p__law_is_call_5
  exact (si_ifS (si_test (si_op p_nin ((si_op p_get ((si_var _)).w ((si_un p_neg ((si_int _)).w)).w)).w ((si_lst (si_cons (si_str _) (si_cons (si_str _) (si_cons (si_str _) si_nil))))).w)) (si_ret (si_bl _)) si_sNil)
def p__law_is_call_6 : PlS :=
    (qIf (pTest (pOp inD (pOp getD_ (pV 1) (pC (.int 0))) (pLst (pCons (pC (.str "add")) (pCons (pC (.str "change")) pNil))))) (qSeq p__law_is_call_5
    (qSet 5 (pSl (pV 5) pP0 (pP (pUn negD (pC (.int 1))))))) qNil)
theorem ss__law_is_call_6 : SiS m__law_is_call_6 p__law_is_call_6 := by
  unfold m__law_is_call_6 p__law_is_call_6
  exact (si_ifS (si_test (si_op p_in ((si_op p_get ((si_var _)).w ((si_int _)).w)).w ((si_lst (si_cons (si_str _) (si_cons (si_str _) si_nil)))).w)) (si_seq ss__law_is_call_5 (si_set _ (si_sl ((si_var _)).w si_p0 (si_p (si_un p_neg ((si_int _)).w))))) si_sNil)
def p__law_is_call_7 : PlS :=
    (qIf (pAnd (pTest (pOp inD (pOp getD_ (pV 1) (pC (.int 0))) (pLst (pCons (pC (.str "copy")) (pCons (pC (.str "read")) pNil))))) (pTest (pOp eqD (pOp getD_ (pV 5) (pUn negD (pC (.int 1)))) (pC (.str "-"))))) (qSet 5 (pSl (pV 5) pP0 (pP (pUn negD (pC (.int 1)))))) qNil)
theorem ss__law_is_call_7 : SiS m__law_is_call_7 p__law_is_call_7 := by
  unfold m__law_is_call_7 p__law_is_call_7
  exact (si_ifS (si_and (si_test (si_op p_in ((si_op p_get ((si_var _)).w ((si_int _)).w)).w ((si_lst (si_cons (si_str _) (si_cons (si_str _) si_nil)))).w)) (si_test (si_op p_eq ((si_op p_get ((si_var _)).w ((si_un p_neg ((si_int _)).w)).w)).w ((si_str _)).w))) (si_set _ (si_sl ((si_var _)).w si_p0 (si_p (si_un p_neg ((si_int _)).w)))) si_sNil)
def p__law_is_call_8 : PlS :=
    (qRet (pOp eqD (pLc (pItW (pV 5)) [6] (gN 6) (pNot (pTest (pCall 1 p__law_is_number_ (pCons (pV 6) pNil)))) (pV 6)) (pLst pNil)))
theorem ss__law_is_call_8 : SiS m__law_is_call_8 p__law_is_call_8 := by
  unfold m__law_is_call_8 p__law_is_call_8
  exact (si_ret (si_op p_eq ((si_lc (si_itW ((si_var _)).w) (si_gN _) (si_not (si_test (si_call sd__law_is_number (si_cons (si_var _) si_nil)))) (si_var _))).w ((si_lst si_nil)).w))
def p__law_is_call : PlS :=
    (qSeq (qSet 1 (pUn (splD " ") (pV 0)))
    (qSeq p__law_is_call_1
    (qSeq p__law_is_call_2
    (qSeq p__law_is_call_3
    (qSeq (qSet 5 (pSl (pV 1) (pP (pC (.int 1))) pP0))
    (qSeq p__law_is_call_4
    (qSeq p__law_is_call_6
    (qSeq p__law_is_call_7
    p__law_is_call_8))))))))
theorem ss__law_is_call : SiS m__law_is_call p__law_is_call := by
  unfold m__law_is_call p__law_is_call
  exact (si_seq (si_set _ (si_un (p_spl _) ((si_var _)).w)) (si_seq ss__law_is_call_1 (si_seq ss__law_is_call_2 (si_seq ss__law_is_call_3 (si_seq (si_set _ (si_sl ((si_var _)).w (si_p (si_int _)) si_p0)) (si_seq ss__law_is_call_4 (si_seq ss__law_is_call_6 (si_seq ss__law_is_call_7 ss__law_is_call_8))))))))
def p__law_is_call_ : List Dt → Sg → (Dt → Sg → Prop) → Prop := runD 1 7 p__law_is_call
theorem sd__law_is_call : SiD d__law_is_call p__law_is_call_ := si_run ss__law_is_call
def p__law_line_1 : PlS :=
    (qSet 1 (pFn strD (pCons (pCall 2 take_ (pCons (pV 0) (pCons (pC (.int 10)) pNil))) pNil)))
theorem ss__law_line_1 : SiS m__law_line_1 p__law_line_1 := by
  unfold m__law_line_1 p__law_line_1
  exact (si_set _ (si_fn p_str' (si_consW ((si_call sd_take (si_cons (si_var _) (si_cons (si_int _) si_nil)))).w si_nilW)))
def p__law_line_2 : PlS :=
    (qSet 2 (pLst (pCons (pOp addD (pC (.str "new_source ")) (pV 1)) (pCons (pOp addD (pOp addD (pC (.str "copy 0 ")) (pV 1)) (pC (.str " -"))) (pCons (pOp addD (pC (.str "copy 0 1 ")) (pV 1)) (pCons (pOp addD (pC (.str "close 1 ")) (pV 1)) (pCons (pC (.str "fork 0")) (pCons (pC (.str "read 0 1 -")) pNil))))))))
theorem ss__law_line_2 : SiS m__law_line_2 p__law_line_2 := by
  unfold m__law_line_2 p__law_line_2
  exact (si_set _ (si_lst (si_cons (si_op p_add ((si_str _)).w ((si_var _)).w) (si_cons (si_op p_add ((si_op p_add ((si_str _)).w ((si_var _)).w)).w ((si_str _)).w) (si_cons (si_op p_add ((si_str _)).w ((si_var _)).w) (si_cons (si_op p_add ((si_str _)).w ((si_var _)).w) (si_cons (si_str _) (si_cons (si_str _) si_nil))))))))
def p__law_line_3 : PlS :=
    (qSet 2 (pOp addD (pV 2) (pLst (pCons (pOp addD (pOp addD (pC (.str "arrive 0 ")) (pV 1)) (pC (.str " 25"))) (pCons (pOp addD (pOp addD (pC (.str "add 0 1 2 ")) (pV 1)) (pC (.str " edge"))) (pCons (pOp addD (pOp addD (pC (.str "change 0 1 ")) (pV 1)) (pC (.str " once"))) (pCons (pOp addD (pC (.str "end ")) (pV 1)) pNil)))))))
theorem ss__law_line_3 : SiS m__law_line_3 p__law_line_3 := by
  unfold m__law_line_3 p__law_line_3
  exact (si_set _ (si_op p_add ((si_var _)).w ((si_lst (si_cons (si_op p_add ((si_op p_add ((si_str _)).w ((si_var _)).w)).w ((si_str _)).w) (si_cons (si_op p_add ((si_op p_add ((si_str _)).w ((si_var _)).w)).w ((si_str _)).w) (si_cons (si_op p_add ((si_op p_add ((si_str _)).w ((si_var _)).w)).w ((si_str _)).w) (si_cons (si_op p_add ((si_str _)).w ((si_var _)).w) si_nil)))))).w))
def p__law_line_4 : PlS :=
    (qRet (pCall 2 of_ (pCons (pV 0) (pCons (pOp addD (pV 2) (pLst (pCons (pC (.str "wait 0 1 10")) (pCons (pOp addD (pC (.str "same 0 1 2 ")) (pV 1)) (pCons (pOp addD (pC (.str "units 0 ")) (pV 1)) (pCons (pC (.str "numbers 3")) (pCons (pC (.str "remove 0 1 2")) pNil))))))) pNil))))
theorem ss__law_line_4 : SiS m__law_line_4 p__law_line_4 := by
  unfold m__law_line_4 p__law_line_4
  exact (si_ret (si_call sd_of (si_cons (si_var _) (si_cons (si_op p_add ((si_var _)).w ((si_lst (si_cons (si_str _) (si_cons (si_op p_add ((si_str _)).w ((si_var _)).w) (si_cons (si_op p_add ((si_str _)).w ((si_var _)).w) (si_cons (si_str _) (si_cons (si_str _) si_nil))))))).w) si_nil))))
def p__law_line : PlS :=
    (qSeq p__law_line_1
    (qSeq p__law_line_2
    (qSeq p__law_line_3
    p__law_line_4)))
theorem ss__law_line : SiS m__law_line p__law_line := by
  unfold m__law_line p__law_line
  exact (si_seq ss__law_line_1 (si_seq ss__law_line_2 (si_seq ss__law_line_3 ss__law_line_4)))
def p__law_line_ : List Dt → Sg → (Dt → Sg → Prop) → Prop := runD 1 3 p__law_line
theorem sd__law_line : SiD d__law_line p__law_line_ := si_run ss__law_line
def p__law_bent_1 : PlS :=
    (qPar 2 3 (pCons (pCall 2 take_ (pCons (pV 0) (pCons (pOp addD (pFn lenD (pCons (pV 1) pNil)) (pC (.int 1))) pNil))) (pCons (pCall 2 take_ (pCons (pV 0) (pCons (pC (.int 7)) pNil))) pNil)))
theorem ss__law_bent_1 : SiS m__law_bent_1 p__law_bent_1 := by
  unfold m__law_bent_1 p__law_bent_1
  exact (si_par _ _ (si_cons (si_call sd_take (si_cons (si_var _) (si_cons (si_op p_add ((si_fn p_len' (si_consW ((si_var _)).w si_nilW))).w ((si_int _)).w) si_nil))) (si_cons (si_call sd_take (si_cons (si_var _) (si_cons (si_int _) si_nil))) si_nil)))
def p__law_bent_2 : PlS :=
    (qSet 4 (pCall 2 of_ (pCons (pV 0) (pCons (pLst (pCons (pC (.str " ")) (pCons (pC (.str "0")) (pCons (pC (.str "1")) (pCons (pC (.str "-")) (pCons (pC (.str "A")) (pCons (pC (.str "+")) (pCons (pC (.str "_")) (pCons (pC (.str ".")) (pCons (pC (.str "e")) (pCons (pC (.str "level")) (pCons (pC (.str "	")) pNil)))))))))))) pNil))))
theorem ss__law_bent_2 : SiS m__law_bent_2 p__law_bent_2 := by
  unfold m__law_bent_2 p__law_bent_2
  exact (si_set _ (si_call sd_of (si_cons (si_var _) (si_cons (si_lst (si_cons (si_str _) (si_cons (si_str _) (si_cons (si_str _) (si_cons (si_str _) (si_cons (si_str _) (si_cons (si_str _) (si_cons (si_str _) (si_cons (si_str _) (si_cons (si_str _) (si_cons (si_str _) (si_cons (si_str _) si_nil)))))))))))) si_nil))))
def p__law_bent_3 : PlS :=
    (qIf (pTest (pOp ltD (pV 3) (pC (.int 3)))) (qRet (pOp addD (pOp addD (pSlS (pV 1) pP0 (pP (pV 2))) (pOp getD_ (pLst (pCons (pC (.str "")) (pCons (pV 4) (pCons (pV 4) pNil)))) (pV 3))) (pSlS (pV 1) (pP (pOp addD (pV 2) (pOp getD_ (pLst (pCons (pC (.int 1)) (pCons (pC (.int 0)) (pCons (pC (.int 1)) pNil)))) (pV 3)))) pP0))) qNil)
theorem ss__law_bent_3 : SiS m__law_bent_3 p__law_bent_3 := by
  unfold m__law_bent_3 p__law_bent_3
  exact (si_ifS (si_test (si_op p_lt ((si_var _)).w ((si_int _)).w)) (si_ret (si_op p_add ((si_op p_add ((si_slS ((si_var _)).w si_p0 (si_p (si_var _)))).w ((si_op p_get ((si_lst (si_cons (si_str _) (si_cons (si_var _) (si_cons (si_var _) si_nil))))).w ((si_var _)).w)).w)).w ((si_slS ((si_var _)).w (si_p (si_op p_add ((si_var _)).w ((si_op p_get ((si_lst (si_cons (si_int _) (si_cons (si_int _) (si_cons (si_int _) si_nil))))).w ((si_var _)).w)).w)) si_p0)).w)) si_sNil)
def p__law_bent_4 : PlS :=
    (qIf (pTest (pOp eqD (pV 3) (pC (.int 3)))) (qRet (pOp joinD (pC (.str " ")) (pOp addD (pV 5) (pLst (pCons (pCall 2 of_ (pCons (pV 0) (pCons (pLst (pCons (pC (.str "1")) (pCons (pC (.str "-")) (pCons (pC (.str "")) (pCons (pC (.str "once")) (pCons (pC (.str "0")) pNil)))))) pNil))) pNil))))) qNil)
theorem ss__law_bent_4 : SiS m__law_bent_4 p__law_bent_4 := by
  unfold m__law_bent_4 p__law_bent_4
  exact (si_ifS (si_test (si_op p_eq ((si_var _)).w ((si_int _)).w)) (si_ret (si_op p_join ((si_str _)).w ((si_op p_add ((si_var _)).w ((si_lst (si_cons (si_call sd_of (si_cons (si_var _) (si_cons (si_lst (si_cons (si_str _) (si_cons (si_str _) (si_cons (si_str _) (si_cons (si_str _) (si_cons (si_str _) si_nil)))))) si_nil))) si_nil))).w)).w)) si_sNil)
def p__law_bent_5 : PlS :=
    (qIf (pTest (pOp eqD (pV 3) (pC (.int 4)))) (qRet (pOp joinD (pC (.str " ")) (pSl (pV 5) pP0 (pP (pUn negD (pC (.int 1))))))) qNil)
theorem ss__law_bent_5 : SiS m__law_bent_5 p__law_bent_5 := by
  unfold m__law_bent_5 p__law_bent_5
  exact (si_ifS (si_test (si_op p_eq ((si_var _)).w ((si_int _)).w)) (si_ret (si_op p_join ((si_str _)).w ((si_sl ((si_var _)).w si_p0 (si_p (si_un p_neg ((si_int _)).w)))).w)) si_sNil)
def p__law_bent_6 : PlS :=
    (qIf (pTest (pOp eqD (pV 3) (pC (.int 5)))) (qRet (pOp addD (pCall 2 of_ (pCons (pV 0) (pCons (pLst (pCons (pC (.str "copy")) (pCons (pC (.str "add")) (pCons (pC (.str "wait")) (pCons (pC (.str "Fork")) (pCons (pC (.str "news")) (pCons (pC (.str "")) pNil))))))) pNil))) (pSlS (pV 1) (pP (pFn lenD (pCons (pOp getD_ (pV 5) (pC (.int 0))) pNil))) pP0))) qNil)
theorem ss__law_bent_6 : SiS m__law_bent_6 p__law_bent_6 := by
  unfold m__law_bent_6 p__law_bent_6
  exact (si_ifS (si_test (si_op p_eq ((si_var _)).w ((si_int _)).w)) (si_ret (si_op p_add ((si_call sd_of (si_cons (si_var _) (si_cons (si_lst (si_cons (si_str _) (si_cons (si_str _) (si_cons (si_str _) (si_cons (si_str _) (si_cons (si_str _) (si_cons (si_str _) si_nil))))))) si_nil)))).w ((si_slS ((si_var _)).w (si_p (si_fn p_len' (si_consW ((si_op p_get ((si_var _)).w ((si_int _)).w)).w si_nilW))) si_p0)).w)) si_sNil)
def p__law_bent_7 : PlS :=
    (qSet 6 (pLst (pCons (pC (.str "00")) (pCons (pC (.str "01")) (pCons (pC (.str "1000000000")) (pCons (pC (.str "999999999")) (pCons (pC (.str "-1")) (pCons (pC (.str "- ")) (pCons (pC (.str "")) (pCons (pC (.str "None")) (pCons (pC (.str "Level")) pNil)))))))))))
theorem ss__law_bent_7 : SiS m__law_bent_7 p__law_bent_7 := by
  unfold m__law_bent_7 p__law_bent_7
  exact (si_set _ (si_lst (si_cons (si_str _) (si_cons (si_str _) (si_cons (si_str _) (si_cons (si_str _) (si_cons (si_str _) (si_cons (si_str _) (si_cons (si_str _) (si_cons (si_str _) (si_cons (si_str _) si_nil)))))))))))
def p__law_bent_8 : PlS :=
    (qRet (pOp joinD (pC (.str " ")) (pOp addD (pSl (pV 5) pP0 (pP (pUn negD (pC (.int 1))))) (pLst (pCons (pCall 2 of_ (pCons (pV 0) (pCons (pV 6) pNil))) pNil)))))
theorem ss__law_bent_8 : SiS m__law_bent_8 p__law_bent_8 := by
  unfold m__law_bent_8 p__law_bent_8
  exact (si_ret (si_op p_join ((si_str _)).w ((si_op p_add ((si_sl ((si_var _)).w si_p0 (si_p (si_un p_neg ((si_int _)).w)))).w ((si_lst (si_cons (si_call sd_of (si_cons (si_var _) (si_cons (si_var _) si_nil))) si_nil))).w)).w))
def p__law_bent : PlS :=
    (qSeq p__law_bent_1
    (qSeq p__law_bent_2
    (qSeq p__law_bent_3
    (qSeq (qSet 5 (pUn (splD " ") (pV 1)))
    (qSeq p__law_bent_4
    (qSeq p__law_bent_5
    (qSeq p__law_bent_6
    (qSeq p__law_bent_7
    p__law_bent_8))))))))
theorem ss__law_bent : SiS m__law_bent p__law_bent := by
  unfold m__law_bent p__law_bent
  exact (si_seq ss__law_bent_1 (si_seq ss__law_bent_2 (si_seq ss__law_bent_3 (si_seq (si_set _ (si_un (p_spl _) ((si_var _)).w)) (si_seq ss__law_bent_4 (si_seq ss__law_bent_5 (si_seq ss__law_bent_6 (si_seq ss__law_bent_7 ss__law_bent_8))))))))
def p__law_bent_ : List Dt → Sg → (Dt → Sg → Prop) → Prop := runD 2 7 p__law_bent
theorem sd__law_bent : SiD d__law_bent p__law_bent_ := si_run ss__law_bent

/-! ### read_call and read_calls, their errors as returns (k26) -/
theorem sSeq_assoc (a b c : MS) : sSeq (sSeq a b) c = sSeq a (sSeq b c) := by
  funext ρ μ
  unfold sSeq
  cases a ρ μ with
  | ok f μ1 => cases f <;> rfl
  | er _ _ _ => rfl
  | no => rfl
def q_text : PlS := qIf (pNot (pTest (pUn isiTD (pV 0)))) (qRet (pUn negD (pC (.int 1)))) qNil
def e_text : MS := sIf (mNot (mTest (mUn isiT (mV 0)))) (sRet (mUn negM (mC (.int 1)))) sNil
theorem es_text : SiS e_text q_text := by
  unfold e_text q_text
  exact si_ifS (si_not (si_test (si_un p_isiT' ((si_var _)).w))) (si_ret (si_un p_neg ((si_int _)).w)) si_sNil
def q_read_call : PlS := qSeq q_text (qSeq (qSet 1 (pCall 1 p_call_in_ (pCons (pV 0) pNil))) (qIf (pTest (pOp isD (pV 1) (pC .non))) (qRet (pC (.int 0))) qNil))
def e_read_call : MS := sSeq e_text (sSeq (sSet 1 (mCall 1 d_call_in (mCons (mV 0) mNil))) (sIf (mTest (mOp isM' (mV 1) (mC .non))) (sRet (mC (.int 0))) sNil))
theorem es_read_call : SiS e_read_call q_read_call := by
  unfold e_read_call q_read_call
  exact si_seq es_text (si_seq (si_set _ (si_call sd_call_in (si_cons (si_var _) si_nil))) (si_ifS (si_test (si_op p_is ((si_var _)).w (si_non).w)) (si_ret (si_int _)) si_sNil))
def x_read_call_ : List Dt → Sg → (Dt → Sg → Prop) → (Dt → Sg → Prop) → Prop := runX 1 2 q_read_call (qRet (pV 1))
theorem sdX_read_call : SdX d_read_call "BadText" "line" x_read_call_ := by
  have e : m_read_call = sSeq (sSeq m_read_call_1 (sSeq (sSet 1 (mCall 1 d_call_in (mCons (mV 0) mNil))) m_read_call_2)) (sRet (mV 1)) := by unfold m_read_call; simp only [sSeq_assoc]
  unfold d_read_call x_read_call_
  rw [e]
  refine sdX_run (m' := e_read_call) ?_ es_read_call (si_ret (si_var _))
  unfold m_read_call_1 m_read_call_2 e_read_call e_text
  exact cv_seq (cv_if cv_err (cv_nr nr_nil)) (cv_seq (cv_nr nr_set) (cv_if cv_err (cv_nr nr_nil)))
def q_read_calls_2 : PlS := qSeq (qSet 4 (pCall 1 p_call_in_ (pCons (pV 3) pNil))) (qSeq (qIf (pTest (pOp isD (pV 4) (pC .non))) (qRet (pV 2)) qNil) (qApp 1 (pV 4)))
def e_read_calls_2 : MS := sSeq (sSet 4 (mCall 1 d_call_in (mCons (mV 3) mNil))) (sSeq (sIf (mTest (mOp isM' (mV 4) (mC .non))) (sRet (mV 2)) sNil) (sExpr (mBm appM (mV 1) (mCons (mV 4) mNil))))
theorem es_read_calls_2 : SiS e_read_calls_2 q_read_calls_2 := by
  unfold e_read_calls_2 q_read_calls_2
  exact si_seq (si_set _ (si_call sd_call_in (si_cons (si_var _) si_nil))) (si_seq (si_ifS (si_test (si_op p_is ((si_var _)).w (si_non).w)) (si_ret (si_var _)) si_sNil) (si_app _ (si_var _)))
def q_read_calls_3 : PlS := qFor (pEnm (pCons (pIf (pTest (pOp neD (pV 0) (pC (.str "")))) (pUn (splD "\n") (pV 0)) (pLst pNil)) pNil)) (gT [2, 3]) q_read_calls_2
def e_read_calls_3 : MS := sFor (iEnm (mCons (mIf (mTest (mOp neM (mV 0) (mC (.str "")))) (mUn (splM "\n") (mV 0)) (mLst mNil)) mNil)) (tgT [2, 3]) e_read_calls_2
theorem es_read_calls_3 : SiS e_read_calls_3 q_read_calls_3 := by
  unfold e_read_calls_3 q_read_calls_3
  exact si_for (si_enm (si_cons (si_if (si_test (si_op p_ne ((si_var _)).w ((si_str _)).w)) (si_un (p_spl _) ((si_var _)).w) (si_lst si_nil)) si_nil)) (si_gT _) es_read_calls_2
def q_read_calls : PlS := qSeq q_text (qSeq (qOwn 1 (pLst pNil)) q_read_calls_3)
def e_read_calls : MS := sSeq e_text (sSeq (sSet 1 (mLst mNil)) e_read_calls_3)
theorem es_read_calls : SiS e_read_calls q_read_calls := by
  unfold e_read_calls q_read_calls
  exact si_seq es_text (si_seq (si_setO _ (si_lstF si_nil)) es_read_calls_3)
def x_read_calls_ : List Dt → Sg → (Dt → Sg → Prop) → (Dt → Sg → Prop) → Prop := runX 1 5 q_read_calls (qRetO 1)
theorem sdX_read_calls : SdX d_read_calls "BadText" "line" x_read_calls_ := by
  have e : m_read_calls = sSeq (sSeq m_read_calls_1 (sSeq (sSet 1 (mLst mNil)) m_read_calls_3)) (sRet (mV 1)) := by unfold m_read_calls; simp only [sSeq_assoc]
  unfold d_read_calls x_read_calls_
  rw [e]
  refine sdX_run (m' := e_read_calls) ?_ es_read_calls (si_retO _)
  unfold m_read_calls_1 m_read_calls_3 m_read_calls_2 e_read_calls e_read_calls_3 e_read_calls_2 e_text
  exact cv_seq (cv_if cv_err (cv_nr nr_nil)) (cv_seq (cv_nr nr_set) (cv_for (cv_seq (cv_nr nr_set) (cv_seq (cv_if cv_err (cv_nr nr_nil)) (cv_nr nr_expr)))))
theorem hf_refused : findH hs__law_refused "BadText" = some [.fld "line", .isi] := by
  unfold hs__law_refused findH
  rw [if_pos rfl]

def p_law_1 : PlS :=
    (qOwn 4 (pLc (pRng1 (pCons (pOp addD (pC (.int 1)) (pCall 2 take_ (pCons (pV 2) (pCons (pC (.int 6)) pNil)))) pNil)) [5] (gN 5) pYes (pCall 1 p__law_line_ (pCons (pV 2) pNil))))
theorem ss_law_1 : SiS m_law_1 p_law_1 := by
  unfold m_law_1 p_law_1
  exact (si_setO _ (si_lcF ((si_rng1 (si_cons (si_op p_add ((si_int _)).w ((si_call sd_take (si_cons (si_var _) (si_cons (si_int _) si_nil)))).w) si_nil)).w) (si_gN _) si_yes (si_call sd__law_line (si_cons (si_var _) si_nil))))
def p_law_2 : PlS :=
    (qSet 5 (pCall 2 take_ (pCons (pV 2) (pCons (pFn lenD (pCons (pO 4) pNil)) pNil))))
theorem ss_law_2 : SiS m_law_2 p_law_2 := by
  unfold m_law_2 p_law_2
  exact (si_set _ (si_call sd_take (si_cons (si_var _) (si_cons (si_fn p_len' (si_consW (si_own _) si_nilW)) si_nil))))
def p_law_3 : PlS :=
    (qSto 4 (pV 5) (pCall 2 p__law_bent_ (pCons (pV 2) (pCons (pOp getD_ (pO 4) (pV 5)) pNil))))
theorem ss_law_3 : SiS m_law_3 p_law_3 := by
  unfold m_law_3 p_law_3
  exact (si_sto _ (si_var _) (si_call sd__law_bent (si_cons (si_var _) (si_cons (si_op p_get (si_own _) ((si_var _)).w) si_nil))))
def p_law_4 : PlS :=
    (qSet 7 (pLc (pRng1 (pCons (pFn lenD (pCons (pO 4) pNil)) pNil)) [8] (gN 8) (pNot (pTest (pCall 1 p__law_is_call_ (pCons (pOp getD_ (pO 4) (pV 8)) pNil)))) (pV 8)))
theorem ss_law_4 : SiS m_law_4 p_law_4 := by
  unfold m_law_4 p_law_4
  exact (si_set _ (si_lc ((si_rng1 (si_cons (si_fn p_len' (si_consW (si_own _) si_nilW)) si_nil)).w) (si_gN _) (si_not (si_test (si_call sd__law_is_call (si_cons (si_op p_get (si_own _) ((si_var _)).w) si_nil)))) (si_var _)))
def p_law_5 : PlS :=
    (qSet 9 (pIf (pOr (pTest (pOp eqD (pV 7) (pLst pNil))) (pTest (pOp eqD (pV 6) (pC (.str ""))))) (pC .non) (pLst (pCons (pOp getD_ (pV 7) (pC (.int 0))) (pCons (pC (.bl true)) pNil)))))
theorem ss_law_5 : SiS m_law_5 p_law_5 := by
  unfold m_law_5 p_law_5
  exact (si_set _ (si_if (si_or (si_test (si_op p_eq ((si_var _)).w ((si_lst si_nil)).w)) (si_test (si_op p_eq ((si_var _)).w ((si_str _)).w))) si_non (si_lst (si_cons (si_op p_get ((si_var _)).w ((si_int _)).w) (si_cons (si_bl _) si_nil)))))
def p_law_6 : PlS :=
    (qIf (pTest (pOp neD (pRf 1 x_read_calls_ (pCons (pV 6) pNil)) (pV 9))) (qRet (pC (.bl false))) qNil)
theorem ss_law_6 : SiS m_law_6 p_law_6 := by
  unfold m_law_6 p_law_6
  exact (si_ifS (si_test (si_op p_ne ((si_rf hf_refused sdX_read_calls (si_cons (si_var _) si_nil))).w ((si_var _)).w)) (si_ret (si_bl _)) si_sNil)
def p_law_7 : PlS :=
    (qSet 9 (pIf (pTest (pCall 1 p__law_is_call_ (pCons (pOp getD_ (pO 4) (pV 5)) pNil))) (pC .non) (pLst (pCons (pC (.int 0)) (pCons (pC (.bl true)) pNil)))))
theorem ss_law_7 : SiS m_law_7 p_law_7 := by
  unfold m_law_7 p_law_7
  exact (si_set _ (si_if (si_test (si_call sd__law_is_call (si_cons (si_op p_get (si_own _) ((si_var _)).w) si_nil))) si_non (si_lst (si_cons (si_int _) (si_cons (si_bl _) si_nil)))))
def p_law_8 : PlS :=
    (qIf (pTest (pOp neD (pRf 1 x_read_call_ (pCons (pOp getD_ (pO 4) (pV 5)) pNil)) (pV 9))) (qRet (pC (.bl false))) qNil)
theorem ss_law_8 : SiS m_law_8 p_law_8 := by
  unfold m_law_8 p_law_8
  exact (si_ifS (si_test (si_op p_ne ((si_rf hf_refused sdX_read_call (si_cons (si_op p_get (si_own _) ((si_var _)).w) si_nil))).w ((si_var _)).w)) (si_ret (si_bl _)) si_sNil)
def p_law_9 : PlS :=
    (qSeq p_law_1
    (qSeq p_law_2
    (qSeq p_law_3
    (qSeq (qSet 6 (pOp joinD (pC (.str "\n")) (pO 4)))
    (qSeq p_law_4
    (qSeq p_law_5
    (qSeq p_law_6
    (qSeq p_law_7
    p_law_8))))))))
theorem ss_law_9 : SiS m_law_9 p_law_9 := by
  unfold m_law_9 p_law_9
  exact (si_seq ss_law_1 (si_seq ss_law_2 (si_seq ss_law_3 (si_seq (si_set _ (si_op p_join ((si_str _)).w (si_own _))) (si_seq ss_law_4 (si_seq ss_law_5 (si_seq ss_law_6 (si_seq ss_law_7 ss_law_8))))))))
def p_law_10 : PlS :=
    (qIf (pTest (pOp neD (pRf 1 x_read_call_ (pCons (pV 10) pNil)) (pLst (pCons (pUn negD (pC (.int 1))) (pCons (pC (.bl true)) pNil))))) (qRet (pC (.bl false))) qNil)
theorem ss_law_10 : SiS m_law_10 p_law_10 := by
  unfold m_law_10 p_law_10
  exact (si_ifS (si_test (si_op p_ne ((si_rf hf_refused sdX_read_call (si_cons (si_var _) si_nil))).w ((si_lst (si_cons (si_un p_neg ((si_int _)).w) (si_cons (si_bl _) si_nil)))).w)) (si_ret (si_bl _)) si_sNil)
def p_law_11 : PlS :=
    (qIf (pTest (pOp neD (pRf 1 x_read_calls_ (pCons (pV 10) pNil)) (pLst (pCons (pUn negD (pC (.int 1))) (pCons (pC (.bl true)) pNil))))) (qRet (pC (.bl false))) qNil)
theorem ss_law_11 : SiS m_law_11 p_law_11 := by
  unfold m_law_11 p_law_11
  exact (si_ifS (si_test (si_op p_ne ((si_rf hf_refused sdX_read_calls (si_cons (si_var _) si_nil))).w ((si_lst (si_cons (si_un p_neg ((si_int _)).w) (si_cons (si_bl _) si_nil)))).w)) (si_ret (si_bl _)) si_sNil)
def p_law_12 : PlS :=
    (qSeq p_law_10
    p_law_11)
theorem ss_law_12 : SiS m_law_12 p_law_12 := by
  unfold m_law_12 p_law_12
  exact (si_seq ss_law_10 ss_law_11)
def p_law_13 : PlS :=
    (qFor (pIt (pLst (pCons (pC .non) (pCons (pC (.int 0)) (pCons (pC (.bl true)) (pCons (pLst (pCons (pC (.str "fork 0")) pNil)) (pCons (pTup (pCons (pC (.str "fork")) (pCons (pC (.int 0)) pNil))) (pCons (pOp powD (pC (.int 10)) (pC (.int 19))) pNil)))))))) (gN 10) p_law_12)
theorem ss_law_13 : SiS m_law_13 p_law_13 := by
  unfold m_law_13 p_law_13
  exact (si_for (si_it (si_lst (si_cons si_non (si_cons (si_int _) (si_cons (si_bl _) (si_cons (si_lst (si_cons (si_str _) si_nil)) (si_cons (si_tup (si_cons (si_str _) (si_cons (si_int _) si_nil))) (si_cons (si_op p_pow ((si_int _)).w ((si_int _)).w) si_nil)))))))) (si_gN _) ss_law_12)
def p_law_14 : PlS :=
    (qSeq (qSet 2 (pCall 2 bag_ (pCons (pV 0) (pCons (pV 1) pNil))))
    (qSeq (qFor (pRng1 (pCons (pC (.int 16)) pNil)) (gN 3) p_law_9)
    p_law_13))
theorem ss_law_14 : SiS m_law_14 p_law_14 := by
  unfold m_law_14 p_law_14
  exact (si_seq (si_set _ (si_call sd_bag (si_cons (si_var _) (si_cons (si_var _) si_nil)))) (si_seq (si_for (si_rng1 (si_cons (si_int _) si_nil)) (si_gN _) ss_law_9) ss_law_13))
def p_law_15 : PlS :=
    (qFor (pRng1 (pCons (pFn maxD (pCons (pC (.int 1)) (pCons (pFn minD (pCons (pC (.int 5)) (pCons (pFn lenD (pCons (pV 0) pNil)) pNil))) pNil))) pNil)) (gN 1) p_law_14)
theorem ss_law_15 : SiS m_law_15 p_law_15 := by
  unfold m_law_15 p_law_15
  exact (si_for (si_rng1 (si_cons (si_fn p_max' (si_consW ((si_int _)).w (si_consW ((si_fn p_min' (si_consW ((si_int _)).w (si_consW ((si_fn p_len' (si_consW ((si_var _)).w si_nilW))).w si_nilW)))).w si_nilW))) si_nil)) (si_gN _) ss_law_14)
def p_law_16 : PlS :=
    (qRet (pOp eqD (pRf 1 x_read_call_ (pCons (pC (.str "fork 0\nfork 1")) pNil)) (pLst (pCons (pC (.int 0)) (pCons (pC (.bl true)) pNil)))))
theorem ss_law_16 : SiS m_law_16 p_law_16 := by
  unfold m_law_16 p_law_16
  exact (si_ret (si_op p_eq ((si_rf hf_refused sdX_read_call (si_cons (si_str _) si_nil))).w ((si_lst (si_cons (si_int _) (si_cons (si_bl _) si_nil)))).w))
def p_law : PlS :=
    (qSeq p_law_15
    p_law_16)
theorem ss_law : SiS m_law p_law := by
  unfold m_law p_law
  exact (si_seq ss_law_15 ss_law_16)
def p_law_ : List Dt → Sg → (Dt → Sg → Prop) → Prop := runD 1 11 p_law
theorem sd_law : SiD d_law p_law_ := si_run ss_law

/-! ### the text of a number of one to nine digits (k25) -/
def numTx (n : Nat) : Str := Str.ofString (toString ((n : Nat) : Int))
theorem numTx_l (n : Nat) : (numTx n).cps.toList = TL.numL n := TL.tl_num n
theorem numTx_len {n : Nat} (h : n < 10 ^ 9) : (numTx n).length ≤ 9 := by
  have := TL.numL_len (k := 9) (by decide) h
  rw [← numTx_l, Array.length_toList] at this
  exact this
theorem numTx_free (n : Nat) {s : Nat} (h : s < 48 ∨ 57 < s) : s ∉ (numTx n).cps.toList := by
  rw [numTx_l]
  exact TL.numL_free h
theorem numTx_ok (n : Nat) : PyData.strOk (numTx n) = true := by
  show (numTx n).cps.all (· < 0x110000) = true
  rw [← Array.all_toList, List.all_eq_true]
  intro c hc
  rw [numTx_l] at hc
  have r := TL.numL_digits n c hc
  exact decide_eq_true (by omega)

/-! ### plain data: what simple parts come to (P302 without systems) -/
section
variable {α : Type} {a b c d e f : α} {l : List α} {σ : Sg}
theorem atI0 : atI (a :: l) 0 = some a := by unfold atI; rw [ixN_in (n := (a :: l).length) (by omega) (by simp)]; rfl
theorem atI1 : atI (a :: b :: l) 1 = some b := by unfold atI; rw [ixN_in (n := (a :: b :: l).length) (by omega) (by simp; omega)]; rfl
theorem atI2 : atI (a :: b :: c :: l) 2 = some c := by unfold atI; rw [ixN_in (n := (a :: b :: c :: l).length) (by omega) (by simp; omega)]; rfl
theorem atI3 : atI (a :: b :: c :: d :: l) 3 = some d := by unfold atI; rw [ixN_in (n := (a :: b :: c :: d :: l).length) (by omega) (by simp; omega)]; rfl
theorem atI4 : atI (a :: b :: c :: d :: e :: l) 4 = some e := by unfold atI; rw [ixN_in (n := (a :: b :: c :: d :: e :: l).length) (by omega) (by simp; omega)]; rfl
theorem atI5 : atI (a :: b :: c :: d :: e :: f :: l) 5 = some f := by unfold atI; rw [ixN_in (n := (a :: b :: c :: d :: e :: f :: l).length) (by omega) (by simp; omega)]; rfl
theorem eqD_int {i j : Int} : eqD (.int i) (.int j) σ = some (.bl (decide (i = j))) := by
  show some (Dt.bl (i == j)) = _
  rfl
theorem neD_int {i j : Int} : neD (.int i) (.int j) σ = some (.bl (!decide (i = j))) := by
  show some (Dt.bl (!(i == j))) = _
  rfl
theorem datP_str {x : Str} (h : PyData.strOk x = true) : datP σ (.str x) = some (.str x) := by
  show (if PyData.strOk x = true then some (PyData.str x) else none) = _
  rw [if_pos h]
theorem eqD_str {x y : Str} (h : PyData.strOk x = true) (h' : PyData.strOk y = true) : eqD (.str x) (.str y) σ = some (.bl (decide (x = y))) := by
  unfold eqD
  rw [datP_str h, datP_str h']
  rfl
theorem neD_str {x y : Str} (h : PyData.strOk x = true) (h' : PyData.strOk y = true) : neD (.str x) (.str y) σ = some (.bl (!decide (x = y))) := by
  have := eqD_str (σ := σ) h h'
  unfold eqD at this
  unfold neD
  rw [datP_str h, datP_str h'] at this ⊢
  simp only at this ⊢
  have e : PyData.eqv (.str x) (.str y) = decide (x = y) := Dt.bl.inj (Option.some.inj this)
  rw [e]
theorem addD_int {i j : Int} : addD (.int i) (.int j) σ = some (.int (i + j)) := rfl
theorem addD_lst {l m : List Dt} (h : l.length + m.length ≤ 1000000) : addD (.lst l) (.lst m) σ = some (.lst (l ++ m)) := by
  show (if l.length + m.length ≤ 1000000 then some (Dt.lst (l ++ m)) else none) = _
  rw [if_pos h]
theorem mulLD_lst {l : List Dt} {k : Int} (h : 0 ≤ k ∧ k ≤ 1000 ∧ l.length ≤ 1000) : mulLD (.lst l) (.int k) σ = some (.lst (List.replicate k.toNat l).flatten) := by
  show (if 0 ≤ k ∧ k ≤ 1000 ∧ l.length ≤ 1000 then some (Dt.lst (List.replicate k.toNat l).flatten) else none) = _
  rw [if_pos h]
/-! #### data that can be compared -/
/-- within a list or a tuple -/
def okD (σ : Sg) (d : Dt) : Prop := ∃ e, toP 7 σ d = some e
theorem ok_int {i : Int} : okD σ (.int i) := ⟨_, rfl⟩
theorem allO_ex {γ : Type} {g : Dt → Option γ} : ∀ {l : List Dt}, (∀ d ∈ l, ∃ e, g d = some e) → ∃ es, allO (l.map g) = some es ∧ es.length = l.length
  | [], _ => ⟨[], rfl, rfl⟩
  | d :: l, h => by
    obtain ⟨e, a⟩ := h d List.mem_cons_self
    obtain ⟨es, b, c⟩ := allO_ex fun x hx => h x (List.mem_cons_of_mem d hx)
    refine ⟨e :: es, ?_, by rw [List.length_cons, List.length_cons, c]⟩
    rw [List.map_cons, a, allO, b]
theorem datP_lst {l : List Dt} (h : ∀ d ∈ l, okD σ d) : ∃ es, datP σ (.lst l) = some (.list es) ∧ es.length = l.length := by
  obtain ⟨es, a, b⟩ := allO_ex h
  refine ⟨es, ?_, b⟩
  show (allO (l.map (toP 7 σ))).map PyData.list = _
  rw [a]
  rfl
theorem eqv_nilL {es : List PyData} : PyData.eqv (.list es) (.list []) = es.isEmpty := by cases es <;> rfl
theorem eqD_nil {l : List Dt} (h : ∀ d ∈ l, okD σ d) : eqD (.lst l) (.lst []) σ = some (.bl l.isEmpty) := by
  obtain ⟨es, a, b⟩ := datP_lst h
  unfold eqD
  rw [a, show datP σ (.lst []) = some (.list []) from rfl]
  simp only [eqv_nilL]
  congr 2
  cases es <;> cases l <;> first | rfl | (simp at b)
theorem neD_nil {l : List Dt} (h : ∀ d ∈ l, okD σ d) : neD (.lst l) (.lst []) σ = some (.bl (!l.isEmpty)) := by
  obtain ⟨es, a, b⟩ := datP_lst h
  unfold neD
  rw [a, show datP σ (.lst []) = some (.list []) from rfl]
  simp only [eqv_nilL]
  congr 3
  cases es <;> cases l <;> first | rfl | (simp at b)
theorem isE_map {β : Type} {g : α → β} : (l.map g).isEmpty = l.isEmpty := by cases l <;> rfl
end
section
variable {σ : Sg} {b k : Nat} {v : Sv} {Q : Dt → Sg → Prop}
theorem of_lst {l : List Dt} (hb : σ[b]? = some .bag) (h0 : 0 < l.length) (h1 : l.length ≤ 1000000) (hq : ∀ d ∈ l, Q d σ) : of_ [.ref b, .lst l] σ Q := ⟨hb, h0, by omega, hq⟩
theorem take_p {n : Int} (hb : σ[b]? = some .bag) (h0 : 0 < n ∧ n < 1073741824) (hq : ∀ i, 0 ≤ i → i < n → Q (.int i) σ) : take_ [.ref b, .int n] σ Q := ⟨hb, h0.1, h0.2, hq⟩
end
theorem seq_op {a b : PlS} {r : Ev_} {σ : Sg} {k : Kn} (h : ∀ n : Ev_ → Sg → Prop, (∀ r' σ', b r' σ' k → n r' σ') → a r σ ⟨n, k.bk, k.ct, k.rt⟩) : qSeq a b r σ k := h _ fun _ _ z => z
/-! ### numbers' texts, for any text (k26) -/
def digB (c : Nat) : Bool := decide (c ∈ (("0123456789" : Str)).cps.toList)
def numB (s : Str) : Bool := decide (1 ≤ s.length) && decide (s.length ≤ 9) && s.cps.toList.all digB && (decide (s = "0") || decide (s.cps.toList.head? ≠ some 48))
theorem digits_l : (("0123456789" : Str)).cps.toList = [48, 49, 50, 51, 52, 53, 54, 55, 56, 57] := by decide +kernel
theorem dig_is {c : Nat} : digB c = true ↔ 48 ≤ c ∧ c ≤ 57 := by
  unfold digB
  rw [digits_l]
  simp only [List.mem_cons, List.not_mem_nil, or_false, decide_eq_true_eq]
  omega
theorem sgn_ok' {k : Nat} (h : k < 0x110000) : PyData.strOk (sgn k) = true := by
  show (#[k] : Array Nat).all (· < 0x110000) = true
  simp [h]
theorem ok_all {x : Str} (h : ∀ c ∈ x.cps.toList, c < 0x110000) : PyData.strOk x = true := by
  show x.cps.all (· < 0x110000) = true
  rw [← Array.all_toList, List.all_eq_true]
  exact fun c hc => decide_eq_true (h c hc)
theorem all_ok {x : Str} (h : PyData.strOk x = true) : ∀ c ∈ x.cps.toList, c < 0x110000 := by
  have h : x.cps.all (· < 0x110000) = true := h
  rw [← Array.all_toList, List.all_eq_true] at h
  exact fun c hc => of_decide_eq_true (h c hc)
theorem str_ext {a b : Str} (h : a.cps.toList = b.cps.toList) : a = b := by
  cases a
  cases b
  congr 1
  exact Array.toList_inj.mp h
theorem sgn_inj {a b : Nat} (h : sgn a = sgn b) : a = b := by
  have : (sgn a).cps.toList = (sgn b).cps.toList := by rw [h]
  simpa [sgn] using this
/-- digits without a zero ahead are a number's -/
theorem numL_of : ∀ (n : Nat) (l : List Nat), l.length = n → l ≠ [] → (∀ c ∈ l, 48 ≤ c ∧ c ≤ 57) → (l = [48] ∨ l.head? ≠ some 48) → ∃ k, TL.numL k = l := fun n => by
  induction n with
  | zero => intro l hl hne; exact absurd (List.length_eq_zero_iff.mp hl) hne
  | succ n ih =>
    intro l hl hne hd hz
    obtain ⟨i, c, rfl⟩ : ∃ i c, l = i ++ [c] := ⟨l.dropLast, l.getLast hne, (List.dropLast_concat_getLast hne).symm⟩
    have hc := hd c (by simp)
    cases hi : i with
    | nil =>
      refine ⟨c - 48, ?_⟩
      rw [TL.numL_lt (by omega), List.nil_append, show 48 + (c - 48) = c by omega]
    | cons a r =>
      have hne' : i ≠ [] := by rw [hi]; simp
      have ha : i.head? ≠ some 48 := by
        rcases hz with hz | hz
        · rw [hi] at hz
          have := congrArg List.length hz
          simp at this
        · rw [hi] at hz ⊢
          simpa using hz
      obtain ⟨m, hm⟩ := ih i (by simp at hl; omega) hne' (fun x hx => hd x (by simp [hx])) (.inr ha)
      have hm0 : 0 < m := by
        rcases Nat.eq_zero_or_pos m with z | z
        · rw [z, show TL.numL 0 = [48] from by decide +kernel] at hm
          rw [← hm] at ha
          exact absurd rfl ha
        · exact z
      refine ⟨10 * m + (c - 48), ?_⟩
      rw [TL.numL_step (by omega), show (10 * m + (c - 48)) / 10 = m by omega, show (10 * m + (c - 48)) % 10 = c - 48 by omega, hm, hi, show 48 + (c - 48) = c by omega]
theorem numB_is {s : Str} (h : numB s = true) : ∃ n : Nat, PySem.intText? s = some (n : Int) ∧ s.length ≤ 9 := by
  unfold numB at h
  simp only [Bool.and_eq_true, Bool.or_eq_true, decide_eq_true_eq, List.all_eq_true] at h
  obtain ⟨⟨⟨h1, h2⟩, h3⟩, h4⟩ := h
  have hl : s.cps.toList.length = s.length := Array.length_toList
  obtain ⟨k, hk⟩ := numL_of _ s.cps.toList rfl (fun z => by rw [z] at hl; simp at hl; omega) (fun c hc => dig_is.mp (h3 c hc)) (by
    rcases h4 with h4 | h4
    · rw [h4]; exact .inl (by decide +kernel)
    · exact .inr h4)
  have e : s = numTx k := str_ext (by rw [numTx_l, hk])
  refine ⟨k, ?_, h2⟩
  rw [e]
  exact TL.int_num (by
    rw [hk, hl]
    omega)
section
variable {σ : Sg} {Q : Dt → Sg → Prop}
theorem blsD_mapT {α : Type} (f : α → Bool) : ∀ l : List α, blsD (l.map fun c => Dt.bl (f c)) = some (l.map f)
  | [] => rfl
  | a :: l => by
    show (match blsD (l.map fun c => Dt.bl (f c)) with | some bs => some (f a :: bs) | none => none) = _
    rw [blsD_mapT f l]
    rfl
theorem allD_bls {α : Type} (f : α → Bool) (l : List α) : allD_ [Dt.lst (l.map fun c => Dt.bl (f c))] σ = some (.bl (l.all f)) := by
  show ((some (l.map fun c => Dt.bl (f c))).bind blsD).map (fun l => Dt.bl (l.all id)) = _
  rw [Option.bind_some, blsD_mapT, Option.map_some, List.all_map]
  rfl
/-- what both looks say behind the signs -/
theorem first_p {s : Str} (ok : PyData.strOk s = true) (h1 : 1 ≤ s.length) (hl : s.length ≤ 1000000) {r : Ev_} (hr : r[0]? = some (some (.im (.str s)))) (hQ : Q (.bl (decide (s = "0") || decide (s.cps.toList.head? ≠ some 48))) σ) :
    pOrT (pOp eqD (pV 0) (pC (.str "0"))) (pOp neD (pOp ixSD (pV 0) (pC (.int 0))) (pC (.str "0"))) r σ Q := by
  have okz : PyData.strOk ("0" : Str) = true := by decide +kernel
  have hp : pV 0 r σ = fun Q => Q (.str s) σ := by
    funext Q
    unfold pV
    rw [hr]
  obtain ⟨c, l, hc⟩ : ∃ c l, s.cps.toList = c :: l := by
    cases h : s.cps.toList with
    | nil =>
      have : s.cps.toList.length = s.length := Array.length_toList
      rw [h] at this
      simp at this
      omega
    | cons c l => exact ⟨c, l, rfl⟩
  have ix : ixSD (.str s) (.int 0) σ = some (.str (sgn c)) := by
    have e : s.cps[0]? = some c := by rw [← Array.getElem?_toList, hc]; rfl
    unfold ixSD
    simp only [Int.toNat_zero, e]
    rw [if_pos ⟨by omega, by omega, hl⟩]
  have okc : PyData.strOk (sgn c) = true := sgn_ok' (all_ok ok c (by rw [hc]; simp))
  have hz : sgn 48 = "0" := by decide +kernel
  unfold pOrT pOp
  rw [hp]
  show pC _ r σ _
  unfold pC
  simp only
  rw [eqD_str ok okz]
  simp only [oK]
  by_cases hs : s = "0"
  · rw [decide_eq_true hs] at hQ ⊢
    exact hQ
  · rw [decide_eq_false hs] at hQ ⊢
    simp only [truD]
    rw [hp]
    simp only
    rw [ix]
    simp only [oK]
    rw [neD_str okc okz, ← hz]
    rw [hc] at hQ
    have e : (decide (sgn c = sgn 48)) = decide (c = 48) := by
      by_cases h : c = 48
      · rw [h]; simp
      · rw [decide_eq_false h, decide_eq_false fun z => h (sgn_inj z)]
    rw [e]
    by_cases h : c = 48
    · rw [h] at hQ ⊢
      exact hQ
    · have e2 : decide ((c :: l).head? ≠ some 48) = true := decide_eq_true (by simpa using h)
      rw [e2] at hQ
      rw [decide_eq_false h]
      exact hQ
theorem andT_p {a b' : PlE} {r : Ev_} {b : Bool} (ha : ∀ Q : Dt → Sg → Prop, Q (.bl b) σ → a r σ Q) (hb : if b = true then b' r σ Q else Q (.bl false) σ) : pAndT a b' r σ Q := by
  refine ha _ ?_
  cases b
  · exact hb
  · exact hb
end

/-! ### is_number_text and the law's look at a number, any text (k26) -/
section
variable {σ : Sg} {Q : Dt → Sg → Prop}
theorem inSg_dig {c : Nat} : inSgD (.str (sgn c)) (.str "0123456789") σ = some (.bl (digB c)) := rfl
theorem isnumT_p {s : Str} (ok : PyData.strOk s = true) (hl : s.length ≤ 1000000) (hQ : Q (.bl (numB s)) σ) : p_is_number_text_ [.str s] σ Q := by
  unfold p_is_number_text_
  simp_arith!
  unfold p_is_number_text
  refine seq_op fun N hN => ?_
  unfold p_is_number_text_1
  simp_arith!
  rw [if_pos hl]
  unfold numB at hQ
  by_cases h1 : 1 ≤ s.length
  · rw [decide_eq_true h1, Bool.true_and] at hQ
    simp_arith! [show decide ((1 : Int) ≤ (s.length : Int)) = true from decide_eq_true (by omega)]
    by_cases h9 : s.length ≤ 9
    · rw [decide_eq_true h9, Bool.true_and] at hQ
      simp_arith! [show decide ((s.length : Int) ≤ 9) = true from decide_eq_true (by omega)]
      refine lcP_all (h := fun c => Dt.str (sgn c)) (f := fun c => Dt.bl (digB c)) (rv := fun c => [some (.im (.str s)), some (.im (.str (sgn c)))]) _ s.cps.toList [] (fun d _ => rfl) (fun d _ Q h => h) (fun c hc Q hQ => ?_) (by show 0 + _ ≤ _; rw [Nat.zero_add, Array.length_toList]; exact hl) ?_
      · simp_arith! [inSg_dig]
        exact hQ
      · rw [List.nil_append]
        simp_arith! [allD_bls]
        cases hd : s.cps.toList.all digB
        · rw [hd] at hQ
          exact hQ
        · rw [hd, Bool.true_and] at hQ
          refine hN _ _ ?_
          unfold p_is_number_text_2
          exact first_p ok h1 hl rfl hQ
    · rw [decide_eq_false h9] at hQ
      simp_arith! [show decide ((s.length : Int) ≤ 9) = false from decide_eq_false (by omega)]
      exact hQ
  · rw [decide_eq_false h1] at hQ
    simp_arith! [show decide ((1 : Int) ≤ (s.length : Int)) = false from decide_eq_false (by omega)]
    exact hQ
theorem nin_dig {c : Nat} (h : c < 0x110000) : ninD (.str (sgn c)) (.lst [.str (sgn 48), .str (sgn 49), .str (sgn 50), .str (sgn 51), .str (sgn 52), .str (sgn 53), .str (sgn 54), .str (sgn 55), .str (sgn 56), .str (sgn 57)]) σ = some (.bl (!digB c)) := by
  have e : ∀ l : List Nat, (∀ k ∈ l, k < 0x110000) → allO ((l.map fun k => Dt.str (sgn k)).map (datP σ)) = some (l.map fun k => PyData.str (sgn k)) := fun l => by
    intro hl
    induction l with
    | nil => rfl
    | cons a l ih =>
      rw [List.map_cons, List.map_cons, datP_str (sgn_ok' (hl a List.mem_cons_self)), allO, ih fun k hk => hl k (List.mem_cons_of_mem a hk)]
      rfl
  have e1 := e [48, 49, 50, 51, 52, 53, 54, 55, 56, 57] (by decide)
  unfold ninD hasDt
  rw [show lstD σ (.lst [.str (sgn 48), .str (sgn 49), .str (sgn 50), .str (sgn 51), .str (sgn 52), .str (sgn 53), .str (sgn 54), .str (sgn 55), .str (sgn 56), .str (sgn 57)]) = some ([48, 49, 50, 51, 52, 53, 54, 55, 56, 57].map fun k => Dt.str (sgn k)) from rfl]
  simp only
  rw [e1, datP_str (sgn_ok' h)]
  simp only
  have key : ∀ l : List Nat, ((l.map fun k => PyData.str (sgn k)).any fun z => PyData.eqv z (.str (sgn c))) = decide (c ∈ l) := fun l => by
    induction l with
    | nil => rfl
    | cons a l ih =>
      rw [List.map_cons, List.any_cons, ih]
      show (decide (sgn a = sgn c) || decide (c ∈ l)) = _
      by_cases z : c = a
      · subst z; simp
      · rw [decide_eq_false fun q => z (sgn_inj q).symm]
        simp [z]
  rw [key]
  congr 2
theorem lawnum_p {s : Str} (ok : PyData.strOk s = true) (hl : s.length ≤ 1000000) (hQ : Q (.bl (numB s)) σ) : p__law_is_number_ [.str s] σ Q := by
  have okz : PyData.strOk ("" : Str) = true := by decide +kernel
  have hlen : s.cps.toList.length = s.length := Array.length_toList
  unfold p__law_is_number_
  simp_arith!
  unfold p__law_is_number
  refine seq_op fun N hN => ?_
  unfold p__law_is_number_1
  simp_arith! [eqD_str ok okz]
  unfold numB at hQ
  by_cases h0 : s = ""
  · have h1 : ¬ 1 ≤ s.length := by rw [h0, show (("" : Str)).length = 0 from by decide +kernel]; omega
    rw [decide_eq_false h1] at hQ
    rw [decide_eq_true h0]
    exact hQ
  · have h1 : 1 ≤ s.length := by
      rcases Nat.eq_zero_or_pos s.length with z | z
      · refine absurd (str_ext ?_) h0
        rw [z] at hlen
        rw [List.length_eq_zero_iff.mp hlen]
        decide +kernel
      · exact z
    rw [decide_eq_true h1, Bool.true_and] at hQ
    rw [decide_eq_false h0]
    simp_arith!
    have ls : lsSD (.str "0123456789") σ = some (.lst [.str (sgn 48), .str (sgn 49), .str (sgn 50), .str (sgn 51), .str (sgn 52), .str (sgn 53), .str (sgn 54), .str (sgn 55), .str (sgn 56), .str (sgn 57)]) := by
      show (if (("0123456789" : Str)).length ≤ 1000000 then some (Dt.lst ((("0123456789" : Str)).cps.toList.map fun c => Dt.str (sgn c))) else none) = _
      rw [if_pos (by decide +kernel), digits_l]
      rfl
    refine lcP_fil (h := fun c => Dt.str (sgn c)) (p := fun c => !digB c) (f := fun c => Dt.str (sgn c)) (rv := fun c => [some (.im (.str s)), some (.im (.str (sgn c)))]) _ s.cps.toList [] (fun d _ => rfl) (fun c hc Q hQ => ?_) (fun c hc _ Q hQ => ?_) (by show 0 + _ ≤ _; rw [Nat.zero_add, hlen]; exact hl) ?_
    · simp_arith! [ls, nin_dig (all_ok ok c hc)]
      exact hQ
    · simp_arith!
      exact hQ
    · rw [List.nil_append]
      have ok2 : ∀ d ∈ (s.cps.toList.filter fun c => !digB c).map (fun c => Dt.str (sgn c)), okD σ d := fun d hd => by
        obtain ⟨c, hc, rfl⟩ := List.mem_map.mp hd
        exact ⟨_, by show (if PyData.strOk (sgn c) = true then some (PyData.str (sgn c)) else none) = _; rw [if_pos (sgn_ok' (all_ok ok c (List.mem_filter.mp hc).1))]⟩
      simp_arith! [neD_nil ok2]
      have e : (List.map (fun c => Dt.str (sgn c)) (List.filter (fun c => !digB c) s.cps.toList)).isEmpty = s.cps.toList.all digB := by
        rw [isE_map]
        generalize s.cps.toList = l
        induction l with
        | nil => rfl
        | cons a l ih =>
          rw [List.filter_cons, List.all_cons, ← ih]
          cases digB a <;> simp
      rw [e]
      cases hd : s.cps.toList.all digB
      · rw [hd, Bool.and_false] at hQ
        exact hQ
      · rw [hd, Bool.and_true] at hQ
        refine hN _ _ ?_
        unfold p__law_is_number_2
        refine andT_p (b := decide (s.length ≤ 9)) ?_ ?_
        · intro Q hQ
          simp_arith!
          rw [if_pos hl]
          simp_arith!
          have e3 : decide ((s.length : Int) < 10) = decide (s.length ≤ 9) := by
            by_cases z : s.length ≤ 9
            · rw [decide_eq_true z, decide_eq_true (by omega)]
            · rw [decide_eq_false z, decide_eq_false (by omega)]
          rw [e3]
          exact hQ
        · cases h9 : decide (s.length ≤ 9)
          · rw [h9] at hQ
            exact hQ
          · rw [h9, Bool.true_and] at hQ
            exact first_p ok h1 hl rfl hQ
end

/-! ### call_in of any text (k26) -/
def wordsA : List Str := [("level" : Str), "edge", "once"]
def argB (s k : Str) : Bool := if k = "word" then decide (s ∈ wordsA) else numB s || (decide (k = "optional") && decide (s = "-"))
def kindsA : List Str := [("integer" : Str), "optional", "word"]
def callB (w : Str) (ps : List Str) : Bool := match kndOf w with
  | some ks => decide (ps.length = ks.length) && (ps.zip ks).all fun p => argB p.1 p.2
  | none => false
theorem knd_kinds {z : Str} {ks : List Str} (h : kndOf z = some ks) : 0 < ks.length ∧ ks.length ≤ 5 ∧ ∀ k ∈ ks, k ∈ kindsA := by
  obtain ⟨p, h1, rfl⟩ := Option.map_eq_some_iff.mp h
  have hm := List.mem_of_find?_eq_some h1
  have all : ∀ p ∈ KND, 0 < p.2.length ∧ p.2.length ≤ 5 ∧ ∀ k ∈ p.2, k ∈ kindsA := by decide +kernel
  exact all p hm
section
variable {σ : Sg} {Q : Dt → Sg → Prop}
theorem kinds_eq {k : Str} (hk : k ∈ kindsA) : eqD (.str k) (.str "word") σ = some (.bl (decide (k = "word"))) ∧ eqD (.str k) (.str "optional") σ = some (.bl (decide (k = "optional"))) := by
  have ok : PyData.strOk k = true := by
    unfold kindsA at hk
    simp only [List.mem_cons, List.not_mem_nil, or_false] at hk
    rcases hk with rfl | rfl | rfl <;> decide +kernel
  exact ⟨eqD_str ok (by decide +kernel), eqD_str ok (by decide +kernel)⟩
theorem isargT_p {s k : Str} (ok : PyData.strOk s = true) (hl : s.length ≤ 1000000) (hk : k ∈ kindsA) (hQ : Q (.bl (argB s k)) σ) : p_is_argument_ [.str s, .str k] σ Q := by
  obtain ⟨e1, e2⟩ := kinds_eq (σ := σ) hk
  have okd : PyData.strOk ("-" : Str) = true := by decide +kernel
  unfold p_is_argument_
  simp_arith!
  unfold p_is_argument
  refine seq_op fun N hN => ?_
  unfold p_is_argument_1
  simp_arith! [e1]
  unfold argB at hQ
  by_cases hw : k = "word"
  · rw [if_pos hw] at hQ
    rw [decide_eq_true hw]
    have e : inTD (.str s) (.tup [.str "level", .str "edge", .str "once"]) σ = some (.bl (decide (s ∈ wordsA))) := rfl
    simp_arith! [e]
    exact hQ
  · rw [if_neg hw] at hQ
    rw [decide_eq_false hw]
    simp_arith!
    refine hN _ _ ?_
    unfold p_is_argument_2
    unfold pOrT
    show pCall 1 p_is_number_text_ (pCons (pV 0) pNil) _ σ _
    simp_arith!
    refine isnumT_p ok hl ?_
    cases hn : numB s
    · rw [hn] at hQ
      simp only [truD]
      rw [e2, eqD_str ok okd]
      cases ho : decide (k = "optional")
      · rw [ho] at hQ
        exact hQ
      · rw [ho] at hQ
        exact hQ
    · rw [hn] at hQ
      exact hQ
/-- what an argument's text says -/
def argD (s k : Str) : Dt := if k = "word" then .str s else if s = "-" then .non else .int ((PySem.intText? s).getD 0)
theorem arginT_p {s k : Str} (ok : PyData.strOk s = true) (hk : k ∈ kindsA) (ha : argB s k = true) (hQ : Q (argD s k) σ) : p_argument_in_ [.str s, .str k] σ Q := by
  obtain ⟨e1, e2⟩ := kinds_eq (σ := σ) hk
  have okd : PyData.strOk ("-" : Str) = true := by decide +kernel
  unfold p_argument_in_
  simp_arith!
  unfold p_argument_in
  refine seq_op fun N hN => ?_
  simp_arith! [e1]
  unfold argD at hQ
  unfold argB at ha
  by_cases hw : k = "word"
  · rw [if_pos hw] at hQ
    rw [decide_eq_true hw]
    exact hQ
  · rw [if_neg hw] at hQ ha
    rw [decide_eq_false hw]
    refine hN _ _ ?_
    unfold p_argument_in_1
    simp_arith! [eqD_str ok okd]
    by_cases hd : s = "-"
    · rw [if_pos hd] at hQ
      rw [decide_eq_true hd]
      exact hQ
    · rw [if_neg hd] at hQ
      rw [decide_eq_false hd]
      rw [decide_eq_false hd, Bool.and_false, Bool.or_false] at ha
      obtain ⟨n, hn, h9⟩ := numB_is ha
      have e : intSD [.str s] σ = some (.int n) := by
        unfold intSD
        simp only [hn]
        rw [if_pos (by omega)]
      rw [hn] at hQ
      simp_arith! [e]
      exact hQ
/-- the call that a text says -/
def callOfT (w : Str) (ps : List Str) : Dt := .tup (.str w :: (ps.zip ((kndOf w).getD [])).map fun p => argD p.1 p.2)
theorem zip2_strs : ∀ (ps ks : List Str), zip2D (ps.map Dt.str) (ks.map Dt.str) = (ps.zip ks).map fun p => Dt.tup [.str p.1, .str p.2]
  | [], _ => rfl
  | _ :: _, [] => rfl
  | a :: as, k :: ks => by
    show Dt.tup [.str a, .str k] :: zip2D (as.map Dt.str) (ks.map Dt.str) = _
    rw [zip2_strs as ks]
    rfl
theorem callinT_p {s w : Str} {ps : List Str} (hs : Txt.split s " " = w :: ps) (ok : ∀ p ∈ w :: ps, PyData.strOk p = true ∧ p.length ≤ 1000000) (hl : s.length ≤ 1000000) (hn : ps.length < 16384) (hQ : Q (if callB w ps = true then callOfT w ps else .non) σ) : p_call_in_ [.str s] σ Q := by
  unfold p_call_in_
  simp_arith!
  unfold p_call_in
  refine seq_op fun N hN => ?_
  have e1 : splD " " (.str s) σ = some (.lst (.str w :: ps.map Dt.str)) := by
    show (if s.length ≤ 1000000 ∧ (((" " : Str)).length == 0) = false then some (Dt.lst ((Txt.split s " ").map Dt.str)) else none) = _
    rw [if_pos ⟨hl, by decide +kernel⟩, hs]
    rfl
  simp_arith! [pSt, e1]
  refine ⟨by simp only [List.length_map]; omega, hN _ _ ?_⟩
  refine seq_op fun N hN => ?_
  unfold callB callOfT at hQ
  cases hk : kndOf w with
  | none =>
    rw [hk] at hQ
    simp_arith! [pArgs, hk]
    refine hN _ _ ?_
    refine seq_op fun N hN => ?_
    unfold p_call_in_1
    simp_arith!
    exact hQ
  | some ks =>
    rw [hk] at hQ
    have hQ : Q (if (decide (ps.length = ks.length) && (ps.zip ks).all fun p => argB p.1 p.2) = true then Dt.tup (.str w :: (ps.zip ks).map fun p => argD p.1 p.2) else .non) σ := hQ
    obtain ⟨l0, l5, hkk⟩ := knd_kinds hk
    simp_arith! [pArgs, hk]
    refine hN _ _ ?_
    refine seq_op fun N hN => ?_
    unfold p_call_in_1
    simp_arith!
    rw [if_neg (by simp only [List.length_map, decide_eq_true_eq]; omega)]
    by_cases hle : ps.length = ks.length
    · rw [decide_eq_true hle, Bool.true_and] at hQ
      rw [if_neg (by simp only [List.length_map, hle]; simp)]
      refine hN _ _ ?_
      refine seq_op fun N hN => ?_
      have e3 : lstZipD [.lst (ps.map Dt.str), .tup (ks.map Dt.str)] σ = some (.lst ((ps.zip ks).map fun p => Dt.tup [.str p.1, .str p.2])) := by
        show (if (ps.map Dt.str).length = (ks.map Dt.str).length then some (Dt.lst (zip2D (ps.map Dt.str) (ks.map Dt.str))) else none) = _
        rw [if_pos (by simp only [List.length_map, hle]), zip2_strs]
      simp_arith! [e3]
      refine hN _ _ ?_
      have lz : (ps.zip ks).length ≤ 5 := by rw [List.length_zip]; omega
      have okp : ∀ p ∈ ps.zip ks, PyData.strOk p.1 = true ∧ p.1.length ≤ 1000000 ∧ p.2 ∈ kindsA := fun p hp => by
        obtain ⟨a, b⟩ := ok p.1 (List.mem_cons_of_mem _ (List.of_mem_zip hp).1)
        exact ⟨a, b, hkk p.2 (List.of_mem_zip hp).2⟩
      refine seq_op fun N hN => ?_
      unfold p_call_in_2
      simp_arith!
      refine lcP_all (h := fun p : Str × Str => Dt.tup [.str p.1, .str p.2]) (f := fun p => Dt.bl (argB p.1 p.2)) (rv := fun p => [some (.im (.str s)), some (.im (.str w)), some (.im (.lst (ps.map Dt.str))), some (.im (.tup (ks.map Dt.str))), some (.im (.lst ((ps.zip ks).map fun p => Dt.tup [.str p.1, .str p.2]))), some (.im (.str p.1)), some (.im (.str p.2))]) _ (ps.zip ks) [] (fun d _ => rfl) (fun d _ Q h => h) (fun p hp Q hQ => ?_) (by show 0 + _ ≤ _; omega) ?_
      · simp_arith!
        obtain ⟨a, b, c⟩ := okp p hp
        exact isargT_p a b c hQ
      · rw [List.nil_append]
        simp_arith! [allD_bls]
        cases ha : (ps.zip ks).all fun p => argB p.1 p.2
        · rw [ha] at hQ
          exact hQ
        · rw [ha] at hQ
          refine hN _ _ ?_
          unfold p_call_in_3
          simp_arith! [pStar]
          rw [List.all_eq_true] at ha
          refine lcP_all (h := fun p : Str × Str => Dt.tup [.str p.1, .str p.2]) (f := fun p => argD p.1 p.2) (rv := fun p => [some (.im (.str s)), some (.im (.str w)), some (.im (.lst (ps.map Dt.str))), some (.im (.tup (ks.map Dt.str))), some (.im (.lst ((ps.zip ks).map fun p => Dt.tup [.str p.1, .str p.2]))), some (.im (.str p.1)), some (.im (.str p.2))]) _ (ps.zip ks) [] (fun d _ => rfl) (fun d _ Q h => h) (fun p hp Q hQ => ?_) (by show 0 + _ ≤ _; omega) ?_
          · simp_arith!
            obtain ⟨a, b, c⟩ := okp p hp
            exact arginT_p a c (ha p hp) hQ
          · show ([] ++ (ps.zip ks).map fun p : Str × Str => argD p.1 p.2).length ≤ 999 ∧ Q (.tup (.str w :: ([] ++ (ps.zip ks).map fun p : Str × Str => argD p.1 p.2))) σ
            rw [List.nil_append]
            exact ⟨by rw [List.length_map]; omega, hQ⟩
    · rw [decide_eq_false hle, Bool.false_and] at hQ
      rw [if_pos (by simp only [List.length_map, Bool.not_eq_true', decide_eq_false_iff_not]; omega)]
      exact hQ
end

/-! ### the law's own look at a call (k26) -/
def manyD : List (Key × Dt) := [(.inr "new_source", .int 1), (.inr "new_set", .int 1), (.inr "fork", .int 1), (.inr "end", .int 1), (.inr "numbers", .int 1), (.inr "close", .int 2), (.inr "finish", .int 2), (.inr "units", .int 2)]
def moreD : List (Key × Dt) := [(.inr "copy", .int 3), (.inr "read", .int 3), (.inr "arrive", .int 3), (.inr "remove", .int 3), (.inr "wait", .int 3), (.inr "same", .int 4), (.inr "add", .int 5), (.inr "change", .int 4)]
def cntI (w : Str) : Int := match kndOf w with
  | some ks => ks.length
  | none => -1
theorem knd_mem {z : Str} {ks : List Str} (h : kndOf z = some ks) : (z, ks) ∈ KND := by
  obtain ⟨p, h1, rfl⟩ := Option.map_eq_some_iff.mp h
  have hz : p.1 = z := by simpa using List.find?_some h1
  have hm := List.mem_of_find?_eq_some h1
  rw [← hz]
  exact hm
theorem knd_no {z : Str} (h : kndOf z = none) : ∀ p ∈ KND, p.1 ≠ z := fun p hp q => by
  have h : KND.find? (fun p => decide (p.1 = z)) = none := by
    unfold kndOf at h
    exact Option.map_eq_none_iff.mp h
  exact List.find?_eq_none.mp h p hp (decide_eq_true q)
theorem cnt_get (w : Str) : (kGetD manyD (.inr w)).getD ((kGetD moreD (.inr w)).getD (.int (-1))) = .int (cntI w) := by
  unfold cntI
  cases hk : kndOf w with
  | some ks =>
    have hm := knd_mem hk
    have all : ∀ p ∈ KND, (kGetD manyD (.inr p.1)).getD ((kGetD moreD (.inr p.1)).getD (.int (-1))) = .int (p.2.length : Int) := by
      intro p hp
      unfold KND at hp
      simp only [List.mem_cons, List.not_mem_nil, or_false] at hp
      rcases hp with rfl | rfl | rfl | rfl | rfl | rfl | rfl | rfl | rfl | rfl | rfl | rfl | rfl | rfl | rfl | rfl <;> rfl
    exact all _ hm
  | none =>
    have no := knd_no hk
    have sub : ∀ q ∈ manyD ++ moreD, ∃ p ∈ KND, q.1 = .inr p.1 := by
      intro q hq
      unfold manyD moreD at hq
      simp only [List.cons_append, List.nil_append, List.mem_cons, List.not_mem_nil, or_false] at hq
      unfold KND
      rcases hq with rfl | rfl | rfl | rfl | rfl | rfl | rfl | rfl | rfl | rfl | rfl | rfl | rfl | rfl | rfl | rfl <;> simp
    have nn : ∀ l : List (Key × Dt), (∀ q ∈ l, q ∈ manyD ++ moreD) → kGetD l (.inr w) = none := fun l hl => by
      unfold kGetD
      rw [Option.map_eq_none_iff, List.find?_eq_none]
      intro q hq z
      obtain ⟨p, hp, e⟩ := sub q (hl q hq)
      rw [e] at z
      exact no p hp (Sum.inr.inj (of_decide_eq_true z))
    rw [nn manyD fun q hq => List.mem_append_left _ hq, nn moreD fun q hq => List.mem_append_right _ hq]
    rfl
/-- what the kinds are -/
theorem knd_three {w : Str} {ks : List Str} (h : kndOf w = some ks) : (ks = List.replicate (ks.length - 1) ("integer" : Str) ++ [("word" : Str)] ∧ (w = "add" ∨ w = "change")) ∨ (ks = List.replicate (ks.length - 1) ("integer" : Str) ++ [("optional" : Str)] ∧ w ≠ "add" ∧ w ≠ "change" ∧ (w = "copy" ∨ w = "read")) ∨
    (ks = List.replicate (ks.length - 1) ("integer" : Str) ++ [("integer" : Str)] ∧ w ≠ "add" ∧ w ≠ "change" ∧ w ≠ "copy" ∧ w ≠ "read") := by
  have all : ∀ p ∈ KND, (p.2 = List.replicate (p.2.length - 1) ("integer" : Str) ++ [("word" : Str)] ∧ (p.1 = "add" ∨ p.1 = "change")) ∨ (p.2 = List.replicate (p.2.length - 1) ("integer" : Str) ++ [("optional" : Str)] ∧ p.1 ≠ "add" ∧ p.1 ≠ "change" ∧ (p.1 = "copy" ∨ p.1 = "read")) ∨
    (p.2 = List.replicate (p.2.length - 1) ("integer" : Str) ++ [("integer" : Str)] ∧ p.1 ≠ "add" ∧ p.1 ≠ "change" ∧ p.1 ≠ "copy" ∧ p.1 ≠ "read") := by decide +kernel
  exact all _ (knd_mem h)
theorem argB_int {s : Str} : argB s "integer" = numB s := by
  unfold argB
  rw [if_neg (by decide +kernel), decide_eq_false (show ¬ (("integer" : Str)) = "optional" by decide +kernel)]
  simp
theorem argB_opt {s : Str} : argB s "optional" = (numB s || decide (s = "-")) := by
  unfold argB
  rw [if_neg (by decide +kernel), decide_eq_true rfl]
  simp
theorem argB_word {s : Str} : argB s "word" = decide (s ∈ wordsA) := by
  unfold argB
  rw [if_pos rfl]
theorem zip_ints : ∀ (init : List Str) (l k : Str), ((init ++ [l]).zip (List.replicate init.length ("integer" : Str) ++ [k])).all (fun p => argB p.1 p.2) = (init.all numB && argB l k)
  | [], l, k => by simp
  | a :: init, l, k => by
    rw [List.length_cons, List.replicate_succ]
    show (argB a "integer" && _) = _
    rw [argB_int, List.all_cons, Bool.and_assoc]
    congr 1
    exact zip_ints init l k
theorem atI_lastA {l : List Dt} {d : Dt} : atI (l ++ [d]) (-1) = some d := by
  unfold atI
  have : ixN (l ++ [d]).length (-1) = some l.length := by
    unfold ixN
    rw [List.length_append]
    simp
    try omega
  rw [this]
  simp
theorem cutG_init {l : List Dt} {d : Dt} : cutG (l ++ [d]) none (some (-1)) = l := by
  unfold cutG
  have e1 : HT.sIx (l ++ [d]).length 0 none = 0 := rfl
  have e2 : HT.sIx (l ++ [d]).length (l ++ [d]).length (some (-1)) = l.length := by
    unfold HT.sIx
    simp
    omega
  rw [e1, e2]
  simp
theorem cutG_tail {α : Type} {l : List α} {d : α} : cutG (d :: l) (some 1) none = l := by
  unfold cutG
  have e1 : HT.sIx (d :: l).length 0 (some 1) = 1 := by
    rw [show (1 : Int) = ((1 : Nat) : Int) from rfl, HT.sIx_nat]
    simp
  have e2 : HT.sIx (d :: l).length (d :: l).length none = (d :: l).length := rfl
  rw [e1, e2]
  simp
section
variable {σ : Sg} {Q : Dt → Sg → Prop}
theorem has_strs {s : Str} (ok : PyData.strOk s = true) : ∀ l : List Str, (∀ x ∈ l, PyData.strOk x = true) → hasDt (.str s) (.lst (l.map Dt.str)) σ = some (decide (s ∈ l)) := fun l hl => by
  have e : allO ((l.map Dt.str).map (datP σ)) = some (l.map PyData.str) := by
    induction l with
    | nil => rfl
    | cons a l ih =>
      rw [List.map_cons, List.map_cons, datP_str (hl a List.mem_cons_self), allO, ih fun k hk => hl k (List.mem_cons_of_mem a hk)]
      rfl
  unfold hasDt
  rw [show lstD σ (.lst (l.map Dt.str)) = some (l.map Dt.str) from rfl]
  simp only
  rw [e, datP_str ok]
  simp only
  congr 1
  clear e hl
  induction l with
  | nil => rfl
  | cons a l ih =>
    rw [List.map_cons, List.any_cons, ih]
    show (decide (a = s) || decide (s ∈ l)) = _
    by_cases z : s = a
    · subst z; simp
    · rw [decide_eq_false fun q => z q.symm]
      simp [z]
theorem ok_lit : ∀ x ∈ ([("add" : Str), "change", "copy", "read", "level", "edge", "once"] : List Str), PyData.strOk x = true := by decide +kernel
theorem in_two {w a b : Str} (ok : PyData.strOk w = true) (ha : PyData.strOk a = true) (hb : PyData.strOk b = true) : inD (.str w) (.lst [.str a, .str b]) σ = some (.bl (decide (w = a ∨ w = b))) := by
  unfold inD
  rw [show ([Dt.str a, Dt.str b] : List Dt) = [a, b].map Dt.str from rfl, has_strs ok [a, b] (by intro x hx; simp only [List.mem_cons, List.not_mem_nil, or_false] at hx; rcases hx with rfl | rfl <;> assumption)]
  simp
theorem nin_words {l : Str} (ok : PyData.strOk l = true) : ninD (.str l) (.lst [.str "level", .str "edge", .str "once"]) σ = some (.bl (!decide (l ∈ wordsA))) := by
  unfold ninD
  rw [show ([Dt.str "level", Dt.str "edge", Dt.str "once"] : List Dt) = wordsA.map Dt.str from rfl, has_strs ok wordsA (by decide +kernel)]
  rfl
theorem last8 {l : List Str} {a0 a1 a2 a3 a4 a6 : Option Lc} {k : Kn} (ok : ∀ p ∈ l, PyData.strOk p = true ∧ p.length ≤ 1000000) (hl : l.length ≤ 1000000) (hk : k.rt (.bl (l.all numB)) σ) : p__law_is_call_8 [a0, a1, a2, a3, a4, some (.im (.lst (l.map Dt.str))), a6] σ k := by
  unfold p__law_is_call_8
  simp_arith!
  refine lcP_fil (h := Dt.str) (p := fun s => !numB s) (f := Dt.str) (rv := fun s => [a0, a1, a2, a3, a4, some (.im (.lst (l.map Dt.str))), some (.im (.str s))]) _ l [] (fun d _ => rfl) (fun s hs Q hQ => ?_) (fun s hs _ Q hQ => ?_) (by show 0 + _ ≤ _; omega) ?_
  · simp_arith!
    obtain ⟨a, b⟩ := ok s hs
    refine lawnum_p a b ?_
    exact hQ
  · simp_arith!
    exact hQ
  · rw [List.nil_append]
    have ok2 : ∀ d ∈ (l.filter fun s => !numB s).map Dt.str, okD σ d := fun d hd => by
      obtain ⟨s, hs, rfl⟩ := List.mem_map.mp hd
      exact ⟨_, by show (if PyData.strOk s = true then some (PyData.str s) else none) = _; rw [if_pos (ok s (List.mem_filter.mp hs).1).1]⟩
    simp_arith! [eqD_nil ok2]
    have e : (List.map Dt.str (List.filter (fun s => !numB s) l)).isEmpty = l.all numB := by
      rw [isE_map]
      generalize l = l
      induction l with
      | nil => rfl
      | cons a l ih =>
        rw [List.filter_cons, List.all_cons, ← ih]
        cases numB a <;> simp
    rw [e]
    exact hk
end

/-! ### the law's own look at a call says what call_in says (k26) -/
section
variable {σ : Sg} {Q : Dt → Sg → Prop}
theorem lawcallT_p {s w : Str} {ps : List Str} (hs : Txt.split s " " = w :: ps) (ok : ∀ p ∈ w :: ps, PyData.strOk p = true ∧ p.length ≤ 1000000) (hl : s.length ≤ 1000000) (hn : ps.length ≤ 100000) (hQ : Q (.bl (callB w ps)) σ) : p__law_is_call_ [.str s] σ Q := by
  have okw := (ok w List.mem_cons_self).1
  unfold p__law_is_call_
  simp_arith!
  unfold p__law_is_call
  refine seq_op fun N hN => ?_
  have e1 : splD " " (.str s) σ = some (.lst (.str w :: ps.map Dt.str)) := by
    show (if s.length ≤ 1000000 ∧ (((" " : Str)).length == 0) = false then some (Dt.lst ((Txt.split s " ").map Dt.str)) else none) = _
    rw [if_pos ⟨hl, by decide +kernel⟩, hs]
    rfl
  simp_arith! [e1]
  refine hN _ _ ?_
  refine seq_op fun N hN => ?_
  unfold p__law_is_call_1
  simp_arith! [pDisp, pPrs]
  refine ⟨by decide +kernel, hN _ _ ?_⟩
  refine seq_op fun N hN => ?_
  unfold p__law_is_call_2
  simp_arith! [pDisp, pPrs]
  refine ⟨by decide +kernel, hN _ _ ?_⟩
  refine seq_op fun N hN => ?_
  unfold p__law_is_call_3
  have e2 := cnt_get w
  unfold manyD moreD at e2
  simp_arith! [pD2, Option.isSome_some, e2]
  refine hN _ _ ?_
  refine seq_op fun N hN => ?_
  simp_arith! [slD, cutG_tail]
  refine hN _ _ ?_
  refine seq_op fun N hN => ?_
  unfold p__law_is_call_4
  simp_arith! [List.length_map]
  unfold callB at hQ
  cases hk : kndOf w with
  | none =>
    rw [hk] at hQ
    have hc : cntI w = -1 := by unfold cntI; rw [hk]
    rw [hc, if_pos (by simp only [Bool.not_eq_true', decide_eq_false_iff_not]; omega)]
    exact hQ
  | some ks =>
    rw [hk] at hQ
    have hQ : Q (.bl (decide (ps.length = ks.length) && (ps.zip ks).all fun p => argB p.1 p.2)) σ := hQ
    have hc : cntI w = (ks.length : Int) := by unfold cntI; rw [hk]
    obtain ⟨l0, l5, _⟩ := knd_kinds hk
    by_cases hle : ps.length = ks.length
    · rw [decide_eq_true hle, Bool.true_and] at hQ
      rw [hc, if_neg (by simp only [Bool.not_eq_true', decide_eq_false_iff_not]; omega)]
      refine hN _ _ ?_
      have hne : ps ≠ [] := fun z => by rw [z] at hle; simp at hle; omega
      obtain ⟨init, l, rfl⟩ : ∃ init l, ps = init ++ [l] := ⟨ps.dropLast, ps.getLast hne, (List.dropLast_concat_getLast hne).symm⟩
      have hi : init.length = ks.length - 1 := by simp at hle; omega
      have okl := ok l (by simp)
      have oki : ∀ p ∈ init, PyData.strOk p = true ∧ p.length ≤ 1000000 := fun p hp => ok p (by simp [hp])
      have oka : ∀ p ∈ init ++ [l], PyData.strOk p = true ∧ p.length ≤ 1000000 := fun p hp => ok p (List.mem_cons_of_mem _ hp)
      have il : init.length ≤ 100000 := by simp at hn; omega
      have em : (init ++ [l]).map Dt.str = init.map Dt.str ++ [.str l] := by rw [List.map_append]; rfl
      have okd : PyData.strOk ("-" : Str) = true := by decide +kernel
      have lits := ok_lit
      have a1 := in_two (σ := σ) okw (lits "add" (by simp)) (lits "change" (by simp))
      have a2 := in_two (σ := σ) okw (lits "copy" (by simp)) (lits "read" (by simp))
      have tl : ∀ b : Bool, (w = "add" ∨ w = "change" ↔ b = true) → decide (w = "add" ∨ w = "change") = b := fun b h => by
        cases b
        · exact decide_eq_false fun z => Bool.false_ne_true (h.mp z)
        · exact decide_eq_true (h.mpr rfl)
      rcases knd_three hk with ⟨ek, hw⟩ | ⟨ek, h1, h2, hw⟩ | ⟨ek, h1, h2, h3, h4⟩
      · rw [ek, ← hi, zip_ints, argB_word] at hQ
        refine seq_op fun N hN => ?_
        unfold p__law_is_call_6
        simp_arith! [a1]
        rw [decide_eq_true hw]
        simp_arith!
        refine seq_op fun N2 hN2 => ?_
        unfold p__law_is_call_5
        rw [em]
        simp_arith! [atI_lastA, nin_words okl.1]
        cases hd : decide (l ∈ wordsA)
        · rw [hd, Bool.and_false] at hQ
          exact hQ
        · rw [hd, Bool.and_true] at hQ
          simp_arith!
          refine hN2 _ _ ?_
          simp_arith! [slD, cutG_init]
          refine hN _ _ ?_
          refine seq_op fun N hN => ?_
          unfold p__law_is_call_7
          have nw : decide (w = "copy" ∨ w = "read") = false := by
            rcases hw with rfl | rfl <;> decide +kernel
          simp_arith! [a2, nw]
          refine hN _ _ ?_
          exact last8 oki (by omega) hQ
      · rw [ek, ← hi, zip_ints, argB_opt] at hQ
        refine seq_op fun N hN => ?_
        unfold p__law_is_call_6
        simp_arith! [a1]
        rw [decide_eq_false (fun z => z.elim h1 h2)]
        refine hN _ _ ?_
        refine seq_op fun N hN => ?_
        unfold p__law_is_call_7
        rw [em]
        simp_arith! [a2]
        rw [decide_eq_true hw]
        simp_arith! [atI_lastA, eqD_str okl.1 okd]
        by_cases hd : l = "-"
        · rw [decide_eq_true hd, Bool.or_true, Bool.and_true] at hQ
          rw [decide_eq_true hd]
          simp_arith! [slD, cutG_init]
          refine hN _ _ ?_
          exact last8 oki (by omega) hQ
        · rw [decide_eq_false hd, Bool.or_false] at hQ
          rw [decide_eq_false hd]
          refine hN _ _ ?_
          rw [← em]
          refine last8 oka (by simp; omega) ?_
          rw [List.all_append]
          simpa using hQ
      · rw [ek, ← hi, zip_ints, argB_int] at hQ
        refine seq_op fun N hN => ?_
        unfold p__law_is_call_6
        simp_arith! [a1]
        rw [decide_eq_false (fun z => z.elim h1 h2)]
        refine hN _ _ ?_
        refine seq_op fun N hN => ?_
        unfold p__law_is_call_7
        simp_arith! [a2]
        rw [decide_eq_false (fun z => z.elim h3 h4)]
        refine hN _ _ ?_
        refine last8 oka (by simp; omega) ?_
        rw [List.all_append]
        simpa using hQ
    · rw [decide_eq_false hle, Bool.false_and] at hQ
      rw [hc, if_pos (by simp only [Bool.not_eq_true', decide_eq_false_iff_not]; omega)]
      exact hQ
end

/-! ### texts that are small (k26) -/
def SmT (n : Nat) (s : Str) : Prop := (PyData.strOk s = true ∧ 10 ∉ s.cps.toList) ∧ s.length ≤ n
theorem SmT.up {n m : Nat} {s : Str} (h : SmT n s) (l : n ≤ m) : SmT m s := ⟨h.1, Nat.le_trans h.2 l⟩
theorem str_app (a b : Str) : (a ++ b).cps.toList = a.cps.toList ++ b.cps.toList := by
  show (a.cps ++ b.cps).toList = _
  rw [Array.toList_append]
theorem len_l (s : Str) : s.cps.toList.length = s.length := Array.length_toList
theorem SmT.add {n m : Nat} {a b : Str} (ha : SmT n a) (hb : SmT m b) : SmT (n + m) (a ++ b) := by
  refine ⟨⟨ok_all fun c hc => ?_, fun hc => ?_⟩, ?_⟩
  · rw [str_app] at hc
    rcases List.mem_append.mp hc with hc | hc
    · exact all_ok ha.1.1 c hc
    · exact all_ok hb.1.1 c hc
  · rw [str_app] at hc
    exact (List.mem_append.mp hc).elim ha.1.2 hb.1.2
  · have h1 := ha.2
    have h2 := hb.2
    rw [← len_l, str_app, List.length_append, len_l, len_l]
    omega
theorem SmT.cut {n : Nat} {s : Str} (h : SmT n s) (lo hi : Option Int) : SmT n (cutS s lo hi) := by
  have sub : ∀ c ∈ (cutS s lo hi).cps.toList, c ∈ s.cps.toList := fun c hc => ?_
  · exact ⟨⟨ok_all fun c hc => all_ok h.1.1 c (sub c hc), fun hc => h.1.2 (sub 10 hc)⟩, Nat.le_trans (cutS_length s lo hi) h.2⟩
  have hc : c ∈ (s.cps.toList.drop (HT.sIx s.length 0 lo)).take (HT.sIx s.length s.length hi - HT.sIx s.length 0 lo) := by simpa [cutS] using hc
  exact List.mem_of_mem_drop (List.mem_of_mem_take hc)
theorem joinL_mem {y : List Nat} : ∀ {ps : List (List Nat)} {p : List Nat}, p ∈ ps → ∀ c ∈ p, c ∈ TL.joinL y ps
  | [], _, h, _, _ => nomatch h
  | [a], p, h, c, hc => by
    rw [List.mem_singleton.mp h] at hc
    exact hc
  | a :: b :: r, p, h, c, hc => by
    show c ∈ a ++ (y ++ TL.joinL y (b :: r))
    rcases List.mem_cons.mp h with rfl | h
    · exact List.mem_append_left _ hc
    · exact List.mem_append_right _ (List.mem_append_right _ (joinL_mem h c hc))
theorem joinL_le {y : List Nat} : ∀ {ps : List (List Nat)} {p : List Nat}, p ∈ ps → p.length ≤ (TL.joinL y ps).length
  | [], _, h => nomatch h
  | [a], p, h => by rw [List.mem_singleton.mp h]; exact Nat.le_refl _
  | a :: b :: r, p, h => by
    show _ ≤ (a ++ (y ++ TL.joinL y (b :: r))).length
    rw [List.length_append, List.length_append]
    rcases List.mem_cons.mp h with rfl | h
    · omega
    · have := joinL_le (y := y) h
      omega
theorem joinL_cnt {y : List Nat} (hy : 1 ≤ y.length) : ∀ (ps : List (List Nat)), ps.length ≤ (TL.joinL y ps).length + 1
  | [] => Nat.zero_le _
  | [a] => by simp
  | a :: b :: r => by
    show _ ≤ (a ++ (y ++ TL.joinL y (b :: r))).length + 1
    rw [List.length_append, List.length_append, List.length_cons]
    have := joinL_cnt hy (b :: r)
    omega
theorem joinL_all {P : Nat → Prop} {y : List Nat} (hy : ∀ c ∈ y, P c) : ∀ ps : List (List Nat), (∀ p ∈ ps, ∀ c ∈ p, P c) → ∀ c ∈ TL.joinL y ps, P c
  | [], _, c, hc => nomatch hc
  | [a], h, c, hc => h a List.mem_cons_self c hc
  | a :: b :: r, h, c, hc => by
    rcases List.mem_append.mp (show c ∈ a ++ (y ++ TL.joinL y (b :: r)) from hc) with hc | hc
    · exact h a List.mem_cons_self c hc
    · rcases List.mem_append.mp hc with hc | hc
      · exact hy c hc
      · exact joinL_all hy (b :: r) (fun p hp => h p (List.mem_cons_of_mem _ hp)) c hc
theorem joinL_len (y : List Nat) : ∀ ps : List (List Nat), (TL.joinL y ps).length ≤ (ps.map (·.length)).sum + ps.length * y.length
  | [] => by simp [TL.joinL]
  | [a] => by simp [TL.joinL]
  | a :: b :: r => by
    show (a ++ (y ++ TL.joinL y (b :: r))).length ≤ _
    have ih := joinL_len y (b :: r)
    rw [List.length_append, List.length_append, List.map_cons, List.sum_cons, List.length_cons, Nat.add_mul, Nat.one_mul]
    omega
theorem spl_ne (S : List Nat) : ∀ (l : List Nat) (k : Nat) (acc : List Nat), TL.spl S k acc l ≠ []
  | [], _, _ => by unfold TL.spl; simp
  | c :: r, 0, acc => by
    unfold TL.spl
    split
    · simp
    · exact spl_ne S r 0 _
  | c :: r, k + 1, acc => by
    unfold TL.spl
    exact spl_ne S r k acc
/-- the parts of a text -/
theorem split_sm {n c : Nat} (hc : c < 256) {s : Str} (h : SmT n s) : ∃ w ps, Txt.split s ⟨#[c]⟩ = w :: ps ∧ (∀ p ∈ w :: ps, SmT n p) ∧ (w :: ps).length ≤ n + 1 := by
  have hj : TL.joinL [c] ((Txt.split s ⟨#[c]⟩).map TL.tl) = TL.tl s := by
    have e := TL.tl_join ⟨#[c]⟩ (Txt.split s ⟨#[c]⟩)
    rw [PySem.StrLaws.join_split] at e
    exact e.symm
  have ne : Txt.split s ⟨#[c]⟩ ≠ [] := fun z => by
    have e := TL.split_spl s ⟨#[c]⟩ (by simp [TL.tl]) (TL.kind_ok (by simp [hc]))
    rw [z] at e
    exact spl_ne _ _ _ _ e.symm
  have hl : (TL.tl s).length = s.length := len_l s
  have hcnt := joinL_cnt (y := [c]) (by simp) ((Txt.split s ⟨#[c]⟩).map TL.tl)
  rw [hj, List.length_map, hl] at hcnt
  have hs := h.2
  cases hp : Txt.split s ⟨#[c]⟩ with
  | nil => exact absurd hp ne
  | cons w ps =>
    rw [hp] at hj hcnt
    refine ⟨w, ps, rfl, fun p hpm => ?_, by omega⟩
    have hm : TL.tl p ∈ (w :: ps).map TL.tl := List.mem_map.mpr ⟨p, hpm, rfl⟩
    have sub : ∀ x ∈ p.cps.toList, x ∈ s.cps.toList := fun x hx => by
      have := joinL_mem (y := [c]) hm x hx
      rw [hj] at this
      exact this
    refine ⟨⟨ok_all fun x hx => all_ok h.1.1 x (sub x hx), fun hx => h.1.2 (sub 10 hx)⟩, ?_⟩
    · have := joinL_le (y := [c]) hm
      rw [hj, hl] at this
      have e : (TL.tl p).length = p.length := len_l p
      omega
theorem SmT.sum {n : Nat} : ∀ {ps : List Str}, (∀ p ∈ ps, SmT n p) → (ps.map (·.length)).sum ≤ ps.length * n
  | [], _ => by simp
  | a :: ps, h => by
    have := SmT.sum fun p hp => h p (List.mem_cons_of_mem a hp)
    have ha := (h a List.mem_cons_self).2
    rw [List.map_cons, List.sum_cons, List.length_cons, Nat.add_mul, Nat.one_mul]
    omega
theorem join_sm {n k c : Nat} (hc : c < 0x110000) {ps : List Str} (h : ∀ p ∈ ps, SmT n p) (hk : ps.length ≤ k) : joinFitM ⟨#[c]⟩ ps ∨ 16777216 < k * (n + 1) := by
  have := SmT.sum h
  have : ps.length * (n + 1) ≤ k * (n + 1) := Nat.mul_le_mul_right _ hk
  rw [Nat.mul_add, Nat.mul_one] at this
  unfold joinFitM
  have e : (⟨#[c]⟩ : Str).length = 1 := rfl
  rw [e]
  omega
theorem joined_sm {n k c : Nat} (hc : c < 0x110000) (h10 : c ≠ 10) {ps : List Str} (h : ∀ p ∈ ps, SmT n p) (hk : ps.length ≤ k) : SmT (k * (n + 1)) (Txt.join ⟨#[c]⟩ ps) := by
  have e : (Txt.join ⟨#[c]⟩ ps).cps.toList = TL.joinL [c] (ps.map TL.tl) := by rw [TL.join_eq]; exact TL.tl_join ⟨#[c]⟩ ps
  refine ⟨⟨ok_all ?_, fun hx => ?_⟩, ?_⟩
  · rw [e]
    refine joinL_all (fun x hx => by rw [List.mem_singleton.mp hx]; exact hc) _ fun p hp => ?_
    obtain ⟨q, hq, rfl⟩ := List.mem_map.mp hp
    exact all_ok (h q hq).1.1
  · rw [e] at hx
    refine joinL_all (P := fun x => x ≠ 10) (fun x hx => by rw [List.mem_singleton.mp hx]; exact h10) _ (fun p hp => ?_) 10 hx rfl
    obtain ⟨q, hq, rfl⟩ := List.mem_map.mp hp
    exact fun x hx z => (h q hq).1.2 (z ▸ hx)
  · rw [← len_l, e]
    have h1 := joinL_len [c] (ps.map TL.tl)
    have e2 : ((ps.map TL.tl).map (·.length)).sum = (ps.map (·.length)).sum := by
      rw [List.map_map]
      congr 1
    rw [e2, List.length_map] at h1
    have := SmT.sum h
    have : ps.length * (n + 1) ≤ k * (n + 1) := Nat.mul_le_mul_right _ hk
    rw [Nat.mul_add, Nat.mul_one] at this
    simp only [List.length_cons, List.length_nil] at h1
    omega
theorem sp_is : (" " : Str) = ⟨#[32]⟩ := by decide +kernel
theorem nl_is : ("\n" : Str) = ⟨#[10]⟩ := by decide +kernel
section
variable {σ : Sg} {Q : Dt → Sg → Prop}
theorem joinD_strsT {a : Str} {l : List Str} (h : joinFitM a l) : joinD (.str a) (.lst (l.map Dt.str)) σ = some (.str (Txt.join a l)) := by
  show ((some (l.map Dt.str)).bind strsD).bind _ = _
  rw [Option.bind_some, strsD_map]
  show (if joinFitM a l then _ else _) = _
  rw [if_pos h]
/-- an expression that gives a small text -/
def EvS (n : Nat) (a : PlE) (r : Ev_) (σ : Sg) : Prop := ∃ s, SmT n s ∧ ∀ Q : Dt → Sg → Prop, Q (.str s) σ → a r σ Q
theorem evS_c {n : Nat} {s : Str} {r : Ev_} (h : SmT n s) : EvS n (pC (.str s)) r σ := ⟨s, h, fun _ q => q⟩
theorem evS_v {n i : Nat} {s : Str} {r : Ev_} (hr : r[i]? = some (some (.im (.str s)))) (h : SmT n s) : EvS n (pV i) r σ := ⟨s, h, fun Q q => by
  unfold pV
  rw [hr]
  exact q⟩
theorem evS_add {n m : Nat} {a b : PlE} {r : Ev_} (hnm : n + m ≤ 1000000) (ha : EvS n a r σ) (hb : EvS m b r σ) : EvS (n + m) (pOp addD a b) r σ := by
  obtain ⟨s, h1, h2⟩ := ha
  obtain ⟨t, h3, h4⟩ := hb
  refine ⟨s ++ t, h1.add h3, fun Q q => h2 _ (h4 _ ?_)⟩
  have e : addD (.str s) (.str t) σ = some (.str (s ++ t)) := by
    have := h1.2
    have := h3.2
    show (if s.length + t.length ≤ 1000000 then some (Dt.str (s ++ t)) else none) = _
    rw [if_pos (by omega)]
  rw [e]
  exact q
def EvA (n k : Nat) (as : PlA) (r : Ev_) (σ : Sg) : Prop := ∃ l : List Str, (∀ s ∈ l, SmT n s) ∧ l.length = k ∧ ∀ Q : List Dt → Sg → Prop, Q (l.map Dt.str) σ → as r σ Q
theorem evA_nil {n : Nat} {r : Ev_} : EvA n 0 pNil r σ := ⟨[], (fun _ z => nomatch z), rfl, fun _ q => q⟩
theorem evA_cons {n m k : Nat} {a : PlE} {as : PlA} {r : Ev_} (ha : EvS m a r σ) (hm : m ≤ n) (hb : EvA n k as r σ) : EvA n (k + 1) (pCons a as) r σ := by
  obtain ⟨s, h1, h2⟩ := ha
  obtain ⟨l, h3, h4, h5⟩ := hb
  refine ⟨s :: l, fun x hx => ?_, by rw [List.length_cons, h4], fun Q q => h2 _ (h5 _ q)⟩
  rcases List.mem_cons.mp hx with rfl | hx
  · exact h1.up hm
  · exact h3 x hx
end

/-! ### the texts that are drawn and bent (k26) -/
section
variable {σ : Sg} {Q : Dt → Sg → Prop} {b : Nat}
def litB (s : Str) : Bool := PyData.strOk s && decide (10 ∉ s.cps.toList) && decide (s.length ≤ 30)
theorem lit_ok {s : Str} (h : litB s = true) : SmT 30 s := by
  obtain ⟨a, c⟩ := Bool.and_eq_true_iff.mp h
  obtain ⟨a, b⟩ := Bool.and_eq_true_iff.mp a
  exact ⟨⟨a, of_decide_eq_true b⟩, of_decide_eq_true c⟩
theorem evS_l {s : Str} {r : Ev_} (h : litB s = true) : EvS 30 (pC (.str s)) r σ := evS_c (lit_ok h)
theorem lst_texts {n k : Nat} {as : PlA} {r : Ev_} {F : Dt → Sg → Prop} (h : EvA n k as r σ) (hk : k ≤ 1000) (hq : ∀ l : List Str, (∀ s ∈ l, SmT n s) → l.length = k → F (.lst (l.map Dt.str)) σ) : pLst as r σ F := by
  obtain ⟨l, h1, h2, h3⟩ := h
  exact h3 _ ⟨by rw [List.length_map, h2]; exact hk, hq l h1 h2⟩
theorem add_texts {n k i : Nat} {as : PlA} {r : Ev_} {F : Dt → Sg → Prop} {l : List Str} (hr : r[i]? = some (some (.im (.lst (l.map Dt.str))))) (h : EvA n k as r σ) (hk : k ≤ 1000) (hl : l.length ≤ 1000) (hq : ∀ l2 : List Str, (∀ s ∈ l2, SmT n s) → l2.length = k → F (.lst ((l ++ l2).map Dt.str)) σ) : pOp addD (pV i) (pLst as) r σ F := by
  unfold pOp pV
  rw [hr]
  refine lst_texts h hk fun l2 h1 h2 => ?_
  rw [addD_lst (by rw [List.length_map, List.length_map]; omega), ← List.map_append]
  exact hq l2 h1 h2
theorem of_call {r : Ev_} {a : PlE} {k : Kn} (hr : r[0]? = some (some (.im (.ref b)))) (h : a r σ fun d σ => of_ [.ref b, d] σ k.rt) : qRet (pCall 2 of_ (pCons (pV 0) (pCons a pNil))) r σ k := by
  unfold qRet pCall pCons pNil pV
  rw [hr]
  exact Eq.mp (congrArg (a r σ) (funext fun d => funext fun σ => propext ⟨fun z => ⟨rfl, z⟩, fun z => z.2⟩)) h
theorem line_p (hb : σ[b]? = some .bag) (hQ : ∀ s, SmT 100 s → Q (.str s) σ) : p__law_line_ [.ref b] σ Q := by
  unfold p__law_line_
  simp_arith!
  unfold p__law_line
  refine seq_op fun N hN => ?_
  unfold p__law_line_1
  simp_arith!
  refine take_p hb (by omega) fun m m0 m1 => ?_
  have e : strD [.int m] σ = some (.str (numTx m.toNat)) := by
    show (if m.natAbs ≤ 1000000000000000000000 then some (Dt.str (toString m)) else none) = _
    rw [if_pos (by omega)]
    unfold numTx
    rw [show ((m.toNat : Nat) : Int) = m by omega]
  simp_arith! [e]
  have ht : SmT 30 (numTx m.toNat) := ⟨⟨numTx_ok _, numTx_free _ (by omega)⟩, Nat.le_trans (numTx_len (by omega)) (by decide)⟩
  generalize numTx m.toNat = t at ht
  refine hN _ _ ?_
  have v1 : ∀ x : Option Lc, EvS 30 (pV 1) [some (.im (.ref b)), some (.im (.str t)), x] σ := fun x => evS_v rfl ht
  have lc : ∀ {s : Str} {r : Ev_}, litB s = true → EvS 30 (pC (.str s)) r σ := fun h => evS_l h
  refine seq_op fun N hN => ?_
  unfold p__law_line_2 qSet
  refine lst_texts (n := 100) (evA_cons (evS_add (by decide) (lc (by decide +kernel)) (v1 _)) (by decide) (evA_cons (evS_add (by decide) (evS_add (by decide) (lc (by decide +kernel)) (v1 _)) (lc (by decide +kernel))) (by decide) (evA_cons (evS_add (by decide) (lc (by decide +kernel)) (v1 _)) (by decide)
    (evA_cons (evS_add (by decide) (lc (by decide +kernel)) (v1 _)) (by decide) (evA_cons (lc (by decide +kernel)) (by decide) (evA_cons (lc (by decide +kernel)) (by decide) evA_nil)))))) (by decide) fun l h1 h2 => ?_
  refine hN _ _ ?_
  refine seq_op fun N hN => ?_
  unfold p__law_line_3 qSet
  refine add_texts rfl (n := 100) (evA_cons (evS_add (by decide) (evS_add (by decide) (lc (by decide +kernel)) (v1 _)) (lc (by decide +kernel))) (by decide) (evA_cons (evS_add (by decide) (evS_add (by decide) (lc (by decide +kernel)) (v1 _)) (lc (by decide +kernel))) (by decide)
    (evA_cons (evS_add (by decide) (evS_add (by decide) (lc (by decide +kernel)) (v1 _)) (lc (by decide +kernel))) (by decide) (evA_cons (evS_add (by decide) (lc (by decide +kernel)) (v1 _)) (by decide) evA_nil)))) (by decide) (by omega) fun l2 h3 h4 => ?_
  refine hN _ _ ?_
  have ht2 : ∀ s ∈ l ++ l2, SmT 100 s := fun s hs => (List.mem_append.mp hs).elim (h1 s) (h3 s)
  have hl2 : (l ++ l2).length = 10 := by rw [List.length_append]; omega
  generalize l ++ l2 = l at ht2 hl2
  unfold p__law_line_4
  refine of_call rfl ?_
  refine add_texts rfl (n := 100) (evA_cons (lc (by decide +kernel)) (by decide) (evA_cons (evS_add (by decide) (lc (by decide +kernel)) (v1 _)) (by decide) (evA_cons (evS_add (by decide) (lc (by decide +kernel)) (v1 _)) (by decide) (evA_cons (lc (by decide +kernel)) (by decide) (evA_cons (lc (by decide +kernel)) (by decide) evA_nil))))) (by decide) (by omega) fun l3 h5 h6 => ?_
  refine of_lst hb (by simp only [List.length_map, List.length_append]; omega) (by simp only [List.length_map, List.length_append]; omega) fun d hd => ?_
  obtain ⟨s, hs, rfl⟩ := List.mem_map.mp hd
  exact hQ s ((List.mem_append.mp hs).elim (ht2 s) (h5 s))
end

/-! ### a text that is bent (k26) -/
section
variable {σ : Sg} {Q : Dt → Sg → Prop} {b : Nat}
theorem slS_sm {n : Nat} {s : Str} (h : SmT n s) (hn : n ≤ 1000000) (lo hi : Option Int) : slSD (.str s) lo hi = some (.str (cutS s lo hi)) := by
  show (if s.length ≤ 1000000 then some (Dt.str (cutS s lo hi)) else none) = _
  rw [if_pos (Nat.le_trans h.2 hn)]
theorem addS {n m : Nat} {s t : Str} (h1 : SmT n s) (h3 : SmT m t) (hn : n + m ≤ 1000000) : addD (.str s) (.str t) σ = some (.str (s ++ t)) := by
  have := h1.2
  have := h3.2
  show (if s.length + t.length ≤ 1000000 then some (Dt.str (s ++ t)) else none) = _
  rw [if_pos (by omega)]
theorem joinS {n k : Nat} {l : List Str} (h : ∀ p ∈ l, SmT n p) (hk : l.length ≤ k) (hn : k * (n + 1) ≤ 16777216) : joinD (.str " ") (.lst (l.map Dt.str)) σ = some (.str (Txt.join " " l)) := by
  refine joinD_strsT ?_
  rw [sp_is]
  rcases join_sm (c := 32) (by decide) h hk with z | z
  · exact z
  · omega
theorem joinedS {n k : Nat} {l : List Str} (h : ∀ p ∈ l, SmT n p) (hk : l.length ≤ k) : SmT (k * (n + 1)) (Txt.join " " l) := by
  rw [sp_is]
  exact joined_sm (by decide) (by decide) h hk
theorem of_texts {l : List Str} {n : Nat} (hb : σ[b]? = some .bag) (h0 : 0 < l.length) (h1 : l.length ≤ 1000) (h : ∀ s ∈ l, SmT n s) (hQ : ∀ s, SmT n s → Q (.str s) σ) : of_ [.ref b, .lst (l.map Dt.str)] σ Q :=
  of_lst hb (by rw [List.length_map]; exact h0) (by rw [List.length_map]; omega) fun d hd => by
    obtain ⟨s, hs, rfl⟩ := List.mem_map.mp hd
    exact hQ s (h s hs)
theorem dropL {l : List Str} : cutG (l.map Dt.str) none (some (-1)) = l.dropLast.map Dt.str := by
  cases hl : l with
  | nil => rfl
  | cons a r =>
    have hne : a :: r ≠ [] := by simp
    have e : (a :: r).map Dt.str = ((a :: r).dropLast.map Dt.str) ++ [Dt.str ((a :: r).getLast hne)] := by
      rw [← List.map_singleton (f := Dt.str), ← List.map_append, List.dropLast_concat_getLast]
    rw [e, cutG_init]
theorem bent_p (hb : σ[b]? = some .bag) {s : Str} (hs : SmT 100 s) (hQ : ∀ t, SmT 15000 t → Q (.str t) σ) : p__law_bent_ [.ref b, .str s] σ Q := by
  have h100 := hs.2
  obtain ⟨w, ps, hsp, hok, hcnt⟩ := split_sm (c := 32) (by decide) hs
  rw [← sp_is] at hsp
  have hcnt : ps.length ≤ 100 := by simp at hcnt; omega
  unfold p__law_bent_
  simp_arith!
  unfold p__law_bent
  refine seq_op fun N hN => ?_
  unfold p__law_bent_1
  simp_arith!
  rw [if_pos (Nat.le_trans h100 (by decide))]
  simp_arith!
  refine take_p hb (by omega) fun at_ a0 a1 => ?_
  refine take_p hb (by omega) fun way w0 w1 => ?_
  refine hN _ _ ?_
  refine seq_op fun N hN => ?_
  unfold p__law_bent_2
  simp_arith!
  have hsg : ∀ x ∈ ([(" " : Str), "0", "1", "-", "A", "+", "_", ".", "e", "level", "\t"] : List Str), SmT 30 x := by
    have : ∀ x ∈ ([(" " : Str), "0", "1", "-", "A", "+", "_", ".", "e", "level", "\t"] : List Str), litB x = true := by decide +kernel
    exact fun x hx => lit_ok (this x hx)
  refine of_texts (l := [(" " : Str), "0", "1", "-", "A", "+", "_", ".", "e", "level", "\t"]) hb (by decide) (by decide) hsg fun sg hsg => ?_
  refine hN _ _ ?_
  refine seq_op fun N hN => ?_
  unfold p__law_bent_3
  simp_arith!
  have he : SmT 30 "" := lit_ok (by decide +kernel)
  have fin : ∀ (i : Int) (x : Str), SmT 30 x → Q (.str (cutS s none (some at_) ++ x ++ cutS s (some (at_ + i)) none)) σ := fun i x hx => hQ _ ((((hs.cut _ _).add hx).add (hs.cut _ _)).up (by decide))
  have e1 : ∀ {x : Str}, SmT 30 x → addD (.str (cutS s none (some at_))) (.str x) σ = some (.str (cutS s none (some at_) ++ x)) := fun hx => addS (hs.cut _ _) hx (by decide)
  have e2 : ∀ {x : Str} {i : Int}, SmT 30 x → addD (.str (cutS s none (some at_) ++ x)) (.str (cutS s (some (at_ + i)) none)) σ = some (.str (cutS s none (some at_) ++ x ++ cutS s (some (at_ + i)) none)) := fun hx => addS ((hs.cut _ _).add hx) (hs.cut _ _) (by decide)
  have z : way = 0 ∨ way = 1 ∨ way = 2 ∨ 3 ≤ way := by omega
  rcases z with rfl | rfl | rfl | h3
  · simp_arith! [pSlS, slS_sm hs, e1 he, e2 he]
    exact fin 1 "" he
  · simp_arith! [pSlS, slS_sm hs, e1 hsg, e2 hsg]
    exact fin 0 sg hsg
  · simp_arith! [pSlS, slS_sm hs, e1 hsg, e2 hsg]
    exact fin 1 sg hsg
  rw [if_neg (by simp; omega)]
  refine hN _ _ ?_
  refine seq_op fun N hN => ?_
  have e3 : splD " " (.str s) σ = some (.lst ((w :: ps).map Dt.str)) := by
    show (if s.length ≤ 1000000 ∧ (((" " : Str)).length == 0) = false then some (Dt.lst ((Txt.split s " ").map Dt.str)) else none) = _
    rw [if_pos ⟨by omega, by decide +kernel⟩, hsp]
  simp_arith! [e3]
  refine hN _ _ ?_
  have hall : ∀ p ∈ w :: ps, SmT 100 p := hok
  have hin : ∀ p ∈ (w :: ps).dropLast, SmT 100 p := fun p hp => hall p (List.dropLast_subset _ hp)
  have hll : (w :: ps).dropLast.length ≤ 100 := by rw [List.length_dropLast]; simp; omega
  have ej : (Dt.str w :: ps.map Dt.str) = (w :: ps).map Dt.str := rfl
  refine seq_op fun N hN => ?_
  unfold p__law_bent_4
  simp_arith!
  by_cases h : way = 3
  · rw [if_pos (decide_eq_true h)]
    have hx : ∀ x ∈ ([("1" : Str), "-", "", "once", "0"] : List Str), SmT 30 x := by
      have : ∀ x ∈ ([("1" : Str), "-", "", "once", "0"] : List Str), litB x = true := by decide +kernel
      exact fun x hx => lit_ok (this x hx)
    refine of_texts (l := [("1" : Str), "-", "", "once", "0"]) hb (by decide) (by decide) hx fun x hx => ?_
    have ha : ∀ p ∈ (w :: ps) ++ [x], SmT 100 p := fun p hp => (List.mem_append.mp hp).elim (hall p) fun q => by rw [List.mem_singleton.mp q]; exact hx.up (by decide)
    have e4 : addD (.lst (Dt.str w :: ps.map Dt.str)) (.lst [.str x]) σ = some (.lst (((w :: ps) ++ [x]).map Dt.str)) := by
      rw [addD_lst (by simp; omega), List.map_append]
      rfl
    have e5 := joinS (σ := σ) (k := 102) ha (by simp; omega) (by decide)
    simp_arith! [e4]
    show oK (joinD (.str " ") (.lst (((w :: ps) ++ [x]).map Dt.str)) σ) _
    rw [e5]
    exact hQ _ ((joinedS (k := 102) ha (by simp; omega)).up (by decide))
  rw [if_neg (by simpa using h)]
  refine hN _ _ ?_
  refine seq_op fun N hN => ?_
  unfold p__law_bent_5
  simp_arith!
  by_cases h : way = 4
  · rw [if_pos (decide_eq_true h)]
    simp_arith! [slD]
    rw [ej, dropL]
    rw [joinS (k := 102) hin (by omega) (by decide)]
    exact hQ _ ((joinedS (k := 102) hin (by omega)).up (by decide))
  rw [if_neg (by simpa using h)]
  refine hN _ _ ?_
  refine seq_op fun N hN => ?_
  unfold p__law_bent_6
  simp_arith!
  by_cases h : way = 5
  · rw [if_pos (decide_eq_true h)]
    have hx : ∀ x ∈ ([("copy" : Str), "add", "wait", "Fork", "news", ""] : List Str), SmT 30 x := by
      have : ∀ x ∈ ([("copy" : Str), "add", "wait", "Fork", "news", ""] : List Str), litB x = true := by decide +kernel
      exact fun x hx => lit_ok (this x hx)
    refine of_texts (l := [("copy" : Str), "add", "wait", "Fork", "news", ""]) hb (by decide) (by decide) hx fun x hx => ?_
    have hwl : w.length ≤ 1000000 := Nat.le_trans (hall w List.mem_cons_self).2 (by decide)
    simp_arith! [pSlS, if_pos hwl, slS_sm hs, addS hx (hs.cut _ _)]
    exact hQ _ ((hx.add (hs.cut _ _)).up (by decide))
  rw [if_neg (by simpa using h)]
  refine hN _ _ ?_
  refine seq_op fun N hN => ?_
  unfold p__law_bent_7
  simp_arith!
  refine hN _ _ ?_
  unfold p__law_bent_8
  simp_arith! [slD]
  have hx : ∀ x ∈ ([("00" : Str), "01", "1000000000", "999999999", "-1", "- ", "", "None", "Level"] : List Str), SmT 30 x := by
    have : ∀ x ∈ ([("00" : Str), "01", "1000000000", "999999999", "-1", "- ", "", "None", "Level"] : List Str), litB x = true := by decide +kernel
    exact fun x hx => lit_ok (this x hx)
  refine of_texts (l := [("00" : Str), "01", "1000000000", "999999999", "-1", "- ", "", "None", "Level"]) hb (by decide) (by decide) hx fun x hx => ?_
  have ha : ∀ p ∈ (w :: ps).dropLast ++ [x], SmT 100 p := fun p hp => (List.mem_append.mp hp).elim (hin p) fun q => by rw [List.mem_singleton.mp q]; exact hx.up (by decide)
  rw [ej, dropL]
  have e4 : addD (.lst ((w :: ps).dropLast.map Dt.str)) (.lst [.str x]) σ = some (.lst (((w :: ps).dropLast ++ [x]).map Dt.str)) := by
    rw [addD_lst (by simp only [List.length_map, List.length_cons, List.length_nil]; omega), List.map_append]
    rfl
  rw [e4]
  show oK (joinD (.str " ") (.lst (((w :: ps).dropLast ++ [x]).map Dt.str)) σ) _
  rw [joinS (k := 102) ha (by rw [List.length_append]; simp only [List.length_cons, List.length_nil]; omega) (by decide)]
  exact hQ _ ((joinedS (k := 102) ha (by rw [List.length_append]; simp only [List.length_cons, List.length_nil]; omega)).up (by decide))
end

/-! ### plain data: what is the same is equal -/
theorem lay_allP {f : Dt → Option PyData} (h : ∀ v d, f v = some d → d.canLay0 = true) : ∀ {l : List Dt} {ds : List PyData}, allO (l.map f) = some ds → PyData.canLayAll0 ds = true
  | [], ds, e => by cases e; rfl
  | a :: l, ds, e => by
    rw [List.map_cons] at e
    cases ha : f a with
    | none => rw [ha, allO] at e; cases e
    | some d =>
      rw [ha, allO] at e
      split at e
      · cases e
      · rename_i r hr
        cases e
        rw [PyData.canLayAll0, h a d ha, lay_allP h hr]
        rfl
theorem scaP_lay {v : Dt} {d : PyData} (h : scaP v = some d) : d.canLay0 = true := by
  unfold scaP at h
  split at h
  · cases h; rfl
  · cases h; rfl
  · cases h; rfl
  · split at h
    · cases h
      rw [PyData.canLay0]
      assumption
    · cases h
  · cases h
theorem mapP_lay {f : Dt → Option PyData} (h : ∀ v d, f v = some d → d.canLay0 = true) {l : List Dt} {d : PyData} : (∀ e : (allO (l.map f)).map PyData.list = some d, d.canLay0 = true) ∧ (∀ e : (allO (l.map f)).map PyData.tuple = some d, d.canLay0 = true) := by
  constructor <;> intro e
  · obtain ⟨ds, h1, rfl⟩ := Option.map_eq_some_iff.mp e
    rw [PyData.canLay0]
    exact lay_allP h h1
  · obtain ⟨ds, h1, rfl⟩ := Option.map_eq_some_iff.mp e
    rw [PyData.canLay0]
    exact lay_allP h h1
theorem toP_lay {σ : Sg} : ∀ (k : Nat) (v : Dt) (d : PyData), toP k σ v = some d → d.canLay0 = true
  | 0, v, d, e => scaP_lay e
  | k + 1, v, d, e => by
    cases v with
    | tup vs => exact (mapP_lay (fun v d => toP_lay k v d)).2 e
    | lst vs => exact (mapP_lay (fun v d => toP_lay k v d)).1 e
    | ros vs => exact (mapP_lay (fun v d => toP_lay k v d)).1 e
    | ref j =>
      rw [toP] at e
      split at e
      · exact (mapP_lay (fun v d => toP_lay k v d)).1 e
      · cases e
    | non => exact scaP_lay e
    | bl _ => exact scaP_lay e
    | int _ => exact scaP_lay e
    | str _ => exact scaP_lay e
    | _ => unfold toP at e; cases e
theorem neD_self {σ : Sg} {x : Dt} {d : PyData} (h : datP σ x = some d) : neD x x σ = some (.bl false) := by
  unfold neD
  rw [h]
  simp only [SeqAt.eqv_refl _ (toP_lay _ _ _ h)]
  rfl
theorem eqD_self {σ : Sg} {x : Dt} {d : PyData} (h : datP σ x = some d) : eqD x x σ = some (.bl true) := by
  unfold eqD
  rw [h]
  simp only [SeqAt.eqv_refl _ (toP_lay _ _ _ h)]
/-! ### what reading a text tells (k26) -/
def callTB (s : Str) : Bool := match Txt.split s " " with
  | w :: ps => callB w ps
  | [] => false
theorem enmD_getT {ds : List Dt} {i : Nat} {d : Dt} (h : (enmD ds)[i]? = some d) : ∃ x, ds[i]? = some x ∧ d = .tup [.int (i : Nat), x] := by
  unfold enmD at h
  rw [List.getElem?_map] at h
  obtain ⟨p, hp, rfl⟩ := Option.map_eq_some_iff.mp h
  rw [List.getElem?_zipIdx] at hp
  obtain ⟨x, hx, rfl⟩ := Option.map_eq_some_iff.mp hp
  exact ⟨x, hx, by simp⟩
def wholeT (ls : List Str) : Str := Txt.join "\n" ls
theorem whole_split {n : Nat} {ls : List Str} (hne : ls ≠ []) (h : ∀ s ∈ ls, SmT n s) : Txt.split (wholeT ls) "\n" = ls :=
  TL.split_join (s := 10) (S := []) (by decide +kernel) (by decide +kernel) hne fun p hp => (h p hp).1.2
theorem whole_ok {ls : List Str} (h : ∀ s ∈ ls, SmT 15000 s) (hl : ls.length ≤ 6) : PyData.strOk (wholeT ls) = true ∧ (wholeT ls).length ≤ 1000000 := by
  have e : (wholeT ls).cps.toList = TL.joinL [10] (ls.map TL.tl) := by
    unfold wholeT
    rw [TL.join_eq, nl_is]
    exact TL.tl_join ⟨#[10]⟩ ls
  refine ⟨ok_all ?_, ?_⟩
  · rw [e]
    refine joinL_all (fun x hx => by rw [List.mem_singleton.mp hx]; decide) _ fun p hp => ?_
    obtain ⟨q, hq, rfl⟩ := List.mem_map.mp hp
    exact all_ok (h q hq).1.1
  · rw [← len_l, e]
    have h1 := joinL_len [10] (ls.map TL.tl)
    have e2 : ((ls.map TL.tl).map (·.length)).sum = (ls.map (·.length)).sum := by
      rw [List.map_map]
      congr 1
    rw [e2, List.length_map] at h1
    have := SmT.sum h
    simp only [List.length_cons, List.length_nil] at h1
    omega
section
variable {σ : Sg} {Q Z : Dt → Sg → Prop}
theorem joinW {ls : List Str} (h : ∀ s ∈ ls, SmT 15000 s) (hl : ls.length ≤ 6) : joinD (.str "\n") (.lst (ls.map Dt.str)) σ = some (.str (wholeT ls)) := by
  refine joinD_strsT ?_
  rw [nl_is]
  rcases join_sm (c := 10) (by decide) h hl with z | z
  · exact z
  · omega
/-- call_in, told for a small text -/
theorem callinS {s : Str} (h : SmT 15000 s) (hq : ∀ d, (callTB s = true → ∃ l, d = .tup l) → (callTB s = false → d = .non) → Q d σ) : p_call_in_ [.str s] σ Q := by
  obtain ⟨w, ps, hsp, hok, hcnt⟩ := split_sm (c := 32) (by decide) h
  rw [← sp_is] at hsp
  have hcnt : ps.length ≤ 15000 := by simp at hcnt; omega
  have e : callTB s = callB w ps := by unfold callTB; rw [hsp]
  rw [e] at hq
  refine callinT_p hsp (fun p hp => ⟨(hok p hp).1.1, Nat.le_trans (hok p hp).2 (by decide)⟩) (Nat.le_trans h.2 (by decide)) (by omega) ?_
  cases hb : callB w ps
  · rw [if_neg Bool.false_ne_true]
    exact hq _ (fun z => by rw [hb] at z; cases z) fun _ => rfl
  · rw [if_pos rfl]
    exact hq _ (fun _ => ⟨_, rfl⟩) fun z => by rw [hb] at z; cases z
theorem lawcallS {s : Str} (h : SmT 15000 s) (hq : Q (.bl (callTB s)) σ) : p__law_is_call_ [.str s] σ Q := by
  obtain ⟨w, ps, hsp, hok, hcnt⟩ := split_sm (c := 32) (by decide) h
  rw [← sp_is] at hsp
  have hcnt : ps.length ≤ 15000 := by simp at hcnt; omega
  have e : callTB s = callB w ps := by unfold callTB; rw [hsp]
  rw [e] at hq
  exact lawcallT_p hsp (fun p hp => ⟨(hok p hp).1.1, Nat.le_trans (hok p hp).2 (by decide)⟩) (Nat.le_trans h.2 (by decide)) (by omega) hq
theorem xcall_text {s : Str} (h : SmT 15000 s) (hQ : callTB s = true → ∀ d, Q d σ) (hZ : callTB s = false → Z (.int 0) σ) : x_read_call_ [.str s] σ Q Z := by
  refine ⟨rfl, ?_⟩
  unfold q_read_call
  refine seq_op fun N hN => ?_
  unfold q_text
  simp_arith! [isiTD]
  refine hN _ _ ?_
  refine seq_op fun N hN => ?_
  simp_arith!
  refine callinS h fun d h1 h2 => ?_
  refine hN _ _ ?_
  simp_arith!
  cases hb : callTB s
  · rw [h2 hb]
    simp_arith!
    exact hZ hb
  · obtain ⟨l, rfl⟩ := h1 hb
    simp_arith!
    exact hQ hb _
theorem xcall_none {d : Dt} (h : isiTD d σ = some (.bl false)) (hZ : Z (.int (-1)) σ) : x_read_call_ [d] σ Q Z := by
  refine ⟨rfl, ?_⟩
  unfold q_read_call
  refine seq_op fun N hN => ?_
  unfold q_text
  simp_arith! [h]
  exact hZ
theorem xcalls_none {d : Dt} (h : isiTD d σ = some (.bl false)) (hZ : Z (.int (-1)) σ) : x_read_calls_ [d] σ Q Z := by
  refine ⟨rfl, ?_⟩
  unfold q_read_calls
  refine seq_op fun N hN => ?_
  unfold q_text
  simp_arith! [h]
  exact hZ
theorem xcalls_text {ls : List Str} (h : ∀ s ∈ ls, SmT 15000 s) (hl : ls.length ≤ 6) (hne : ls ≠ []) (hQ : wholeT ls = "" ∨ (∀ s ∈ ls, callTB s = true) → ∀ d, Q d σ)
    (hZ : ∀ j s, ls[j]? = some s → callTB s = false → (∀ i t, i < j → ls[i]? = some t → callTB t = true) → wholeT ls ≠ "" → Z (.int (j : Nat)) σ) : x_read_calls_ [.str (wholeT ls)] σ Q Z := by
  obtain ⟨okw, lw⟩ := whole_ok h hl
  have oke : PyData.strOk ("" : Str) = true := by decide +kernel
  refine ⟨rfl, ?_⟩
  unfold q_read_calls
  refine seq_op fun N hN => ?_
  unfold q_text
  simp_arith! [isiTD]
  refine hN _ _ ?_
  refine seq_op fun N hN => ?_
  simp_arith!
  refine hN _ _ ?_
  unfold q_read_calls_3
  by_cases hz : wholeT ls = ""
  · simp_arith! [neD_str okw oke]
    rw [decide_eq_true hz]
    simp_arith! [enmD]
    exact hQ (.inl hz) _
  · have e2 : splD "\n" (.str (wholeT ls)) σ = some (.lst (ls.map Dt.str)) := by
      show (if (wholeT ls).length ≤ 1000000 ∧ ((("\n" : Str)).length == 0) = false then some (Dt.lst ((Txt.split (wholeT ls) "\n").map Dt.str)) else none) = _
      rw [if_pos ⟨lw, by decide +kernel⟩, whole_split hne h]
    simp_arith! [neD_str okw oke]
    rw [decide_eq_false hz]
    simp_arith! [e2]
    have el : (enmD (ls.map Dt.str)).length = ls.length := by simp [enmD]
    refine forP_inv (ds0 := enmD (ls.map Dt.str)) (fun i r σ' => σ' = σ ∧ (∀ j t, j < i → ls[j]? = some t → callTB t = true) ∧ ∃ l v2 v3 v4, l.length ≤ i ∧ r = [some (.im (.str (wholeT ls))), some (.ow (.lst l)), v2, v3, v4]) (fun i d r σ' k' hd hi hb hr hn hc => ?_) (fun r σ' hi => ?_) _ 0 _ σ rfl (Nat.zero_le _) ⟨rfl, fun _ _ z => absurd z (Nat.not_lt_zero _), [], none, none, none, Nat.zero_le _, rfl⟩
    · obtain ⟨rfl, ha, l, v2, v3, v4, hll, rfl⟩ := hi
      obtain ⟨x, hx, rfl⟩ := enmD_getT hd
      rw [List.getElem?_map] at hx
      obtain ⟨s, hs, rfl⟩ := Option.map_eq_some_iff.mp hx
      have hi6 : i < ls.length := (List.getElem?_eq_some_iff.mp hs).1
      refine ⟨_, rfl, ?_⟩
      unfold q_read_calls_2
      refine seq_op fun N hN => ?_
      simp_arith!
      refine callinS (h s (List.mem_of_getElem? hs)) fun d h1 h2 => ?_
      refine hN _ _ ?_
      refine seq_op fun N hN => ?_
      simp_arith!
      cases hb : callTB s
      · rw [h2 hb]
        simp_arith!
        rw [hr]
        exact hZ i s hs hb ha hz
      · obtain ⟨l2, rfl⟩ := h1 hb
        simp_arith!
        refine hN _ _ ?_
        simp_arith!
        refine ⟨by omega, hn _ _ ⟨rfl, fun j t hj ht => ?_, l ++ [_], _, _, _, by rw [List.length_append]; simp only [List.length_cons, List.length_nil]; omega, rfl⟩⟩
        by_cases hji : j = i
        · rw [hji, hs] at ht
          cases ht
          exact hb
        · exact ha j t (by omega) ht
    · obtain ⟨rfl, ha, l, v2, v3, v4, hll, rfl⟩ := hi
      simp_arith!
      refine hQ (.inr fun s hs => ?_) _
      obtain ⟨j, hj⟩ := List.getElem?_of_mem hs
      exact ha j s (by rw [el]; exact (List.getElem?_eq_some_iff.mp hj).1) hj
end

/-! ### k26: the law -/
theorem lcP_draw {α : Type} {h : α → Dt} {P : α → Prop} {g : Tgd} {c : PlT} {elt : PlE} {r : Ev_} {σ : Sg} {Q : List Dt → Sg → Prop} : ∀ (ds acc : List Dt), (∀ d ∈ ds, ∃ r1, g d r = some r1 ∧ (∀ Q : Bool → Sg → Prop, Q true σ → c r1 σ Q) ∧ ∀ Q : Dt → Sg → Prop, (∀ x, P x → Q (h x) σ) → elt r1 σ Q) → acc.length + ds.length ≤ 1000000 → (∀ l : List α, (∀ x ∈ l, P x) → l.length = ds.length → Q (acc ++ l.map h) σ) → lcP g c elt r ds acc σ Q
  | [], acc, _, _, hq => by
    have := hq [] (fun _ z => nomatch z) rfl
    rw [List.map_nil, List.append_nil] at this
    exact this
  | d :: ds, acc, hs, hl, hq => by
    rw [List.length_cons] at hl
    obtain ⟨r1, a, b, e⟩ := hs d List.mem_cons_self
    unfold lcP
    rw [a]
    refine b _ ?_
    rw [if_pos rfl]
    refine e _ fun x px => ⟨by omega, lcP_draw ds _ (fun y hy => hs y (List.mem_cons_of_mem d hy)) (by rw [List.length_append]; show acc.length + 1 + ds.length ≤ 1000000; omega) fun l hp hn => ?_⟩
    have := hq (x :: l) (fun y hy => (List.mem_cons.mp hy).elim (fun z => z ▸ px) (hp y)) (by rw [List.length_cons, List.length_cons, hn])
    rw [List.map_cons] at this
    rw [List.append_assoc]
    exact this
/-- the lines that are none -/
def wrongL (ls : List Str) : List Nat := (List.range ls.length).filter fun j => !callTB (ls.getD j "")
theorem wrong_nil {ls : List Str} (h : wrongL ls = []) : ∀ s ∈ ls, callTB s = true := fun s hs => by
  obtain ⟨j, hj⟩ := List.getElem?_of_mem hs
  have hjl := (List.getElem?_eq_some_iff.mp hj).1
  unfold wrongL at h
  rw [List.filter_eq_nil_iff] at h
  have := h j (List.mem_range.mpr hjl)
  rw [List.getD_eq_getElem?_getD, hj] at this
  simpa using this
theorem wrong_head {ls : List Str} {j : Nat} {r : List Nat} (h : wrongL ls = j :: r) : ∃ s, ls[j]? = some s ∧ callTB s = false ∧ ∀ i t, i < j → ls[i]? = some t → callTB t = true := by
  have hf : (List.range ls.length).find? (fun j => !callTB (ls.getD j "")) = some j := by
    rw [← List.head?_filter]
    unfold wrongL at h
    rw [h]
    rfl
  rw [List.find?_range_eq_some] at hf
  obtain ⟨h1, h2, h3⟩ := hf
  have hjl := List.mem_range.mp h2
  refine ⟨ls[j], List.getElem?_eq_getElem hjl, ?_, fun i t hi ht => ?_⟩
  · rw [List.getD_eq_getElem?_getD, List.getElem?_eq_getElem hjl] at h1
    simpa using h1
  · have := h3 i hi
    rw [List.getD_eq_getElem?_getD, ht] at this
    simpa using this
section
variable {σ : Sg} {Q : Dt → Sg → Prop} {b : Nat}
theorem ne_pair (i : Int) : neD (.lst [.int i, .bl true]) (.lst [.int i, .bl true]) σ = some (.bl false) := neD_self (d := .list [.int i, .bool true]) rfl
theorem ne_non : neD .non .non σ = some (.bl false) := neD_self (d := .none) rfl
theorem ne_same {a : PlE} {r : Ev_} {k : Kn} {due : Dt} (ha : ∀ F : Dt → Sg → Prop, F due σ → a r σ F) (hr : r[9]? = some (some (.im due))) (hd : neD due due σ = some (.bl false)) (hn : k.nx r σ) : qIf (pTest (pOp neD a (pV 9))) (qRet (pC (.bl false))) qNil r σ k := by
  unfold qIf pTest pOp
  refine ha _ ?_
  unfold pV
  rw [hr]
  simp only
  rw [hd]
  exact hn
theorem thing26 {d : Dt} {a0 a1 a2 a3 a4 a5 a6 a7 a8 a9 : Option Lc} {k : Kn} (h : isiTD d σ = some (.bl false)) (hn : k.nx [a0, a1, a2, a3, a4, a5, a6, a7, a8, a9, some (.im d)] σ) : p_law_12 [a0, a1, a2, a3, a4, a5, a6, a7, a8, a9, some (.im d)] σ k := by
  unfold p_law_12
  refine seq_op fun N hN => ?_
  unfold p_law_10
  simp_arith! [pRf]
  refine xcall_none h ?_
  simp_arith! [ne_pair]
  refine hN _ _ ?_
  unfold p_law_11
  simp_arith! [pRf]
  refine xcalls_none h ?_
  simp_arith! [ne_pair]
  exact hn
theorem turn26 {a0 a1 a3 a4 a5 a6 a7 a8 a9 a10 : Option Lc} {k : Kn} (hb : σ[b]? = some .bag)
    (hn : ∀ a4 a5 a6 a7 a8 a9, k.nx [a0, a1, some (.im (.ref b)), a3, a4, a5, a6, a7, a8, a9, a10] σ) :
    p_law_9 [a0, a1, some (.im (.ref b)), a3, a4, a5, a6, a7, a8, a9, a10] σ k := by
  unfold p_law_9
  refine seq_op fun N hN => ?_
  unfold p_law_1
  simp_arith!
  refine take_p hb (by omega) fun m m0 m1 => ?_
  simp_arith!
  have hlen : (rngD 0 (1 + m).toNat).length = (1 + m).toNat := by unfold rngD; rw [List.length_map, List.length_range]
  refine ⟨by omega, ?_⟩
  refine lcP_draw (h := Dt.str) (P := SmT 100) _ [] (fun d _ => ⟨_, rfl, fun Q hq => ?_, fun Q hq => ?_⟩) (by rw [hlen]; simp only [List.length_nil]; omega) fun ls hl hn2 => ?_
  · simp_arith!
    exact hq
  · simp_arith!
    exact line_p hb hq
  rw [List.nil_append]
  have l6 : ls.length ≤ 6 := by omega
  have l1 : 1 ≤ ls.length := by omega
  clear hn2 hlen
  refine hN _ _ ?_
  refine seq_op fun N hN => ?_
  unfold p_law_2
  simp_arith! [List.length_map]
  refine take_p hb (by omega) fun q q0 q1 => ?_
  refine hN _ _ ?_
  refine seq_op fun N hN => ?_
  unfold p_law_3
  have at_ : ∀ ls : List Str, ls.length ≤ 6 → ∀ q : Int, 0 ≤ q → q < ls.length → ∃ s, s ∈ ls ∧ ls[q.toNat]? = some s ∧ atI (ls.map Dt.str) q = some (.str s) := fun ls _ q q0 q1 => by
    have hq : q.toNat < ls.length := by omega
    refine ⟨ls[q.toNat], List.getElem_mem hq, List.getElem?_eq_getElem hq, ?_⟩
    unfold atI
    rw [ixN_in (by omega) (by rw [List.length_map]; omega)]
    show (ls.map Dt.str)[q.toNat]? = _
    rw [List.getElem?_map, List.getElem?_eq_getElem hq]
    rfl
  obtain ⟨s0, hs0, _, es0⟩ := at_ ls l6 q q0 q1
  simp_arith! [qSto, es0]
  refine bent_p hb (hl s0 hs0) fun t ht => ?_
  rw [ixN_in (by omega) (by rw [List.length_map]; omega)]
  have hset : (ls.map Dt.str).set q.toNat (.str t) = (ls.set q.toNat t).map Dt.str := by rw [List.map_set]
  simp_arith! [hset]
  refine hN _ _ ?_
  have hl2 : ∀ s ∈ ls.set q.toNat t, SmT 15000 s := fun s hs => (List.mem_or_eq_of_mem_set hs).elim (fun z => (hl s z).up (by decide)) fun z => z ▸ ht
  have l62 : (ls.set q.toNat t).length ≤ 6 := by rw [List.length_set]; exact l6
  have l12 : 1 ≤ (ls.set q.toNat t).length := by rw [List.length_set]; exact l1
  have q2 : q < (ls.set q.toNat t).length := by rw [List.length_set]; exact q1
  generalize ls.set q.toNat t = ls at hl2 l62 l12 q2
  clear hl l6 l1 q1 hs0 es0 ht hset
  have hne : ls ≠ [] := fun z => by rw [z] at l12; simp at l12
  refine seq_op fun N hN => ?_
  simp_arith! [joinW hl2 l62]
  refine hN _ _ ?_
  refine seq_op fun N hN => ?_
  unfold p_law_4
  simp_arith! [List.length_map]
  refine ⟨by omega, ?_⟩
  refine lcP_fil (h := fun j : Nat => Dt.int (0 + (j : Int))) (p := fun j => !callTB (ls.getD j "")) (f := fun j : Nat => Dt.int (0 + (j : Int))) (rv := fun j : Nat => [a0, a1, some (.im (.ref b)), a3, some (.ow (.lst (ls.map Dt.str))), some (.im (.int q)), some (.im (.str (wholeT ls))), a7, some (.im (.int (0 + (j : Int)))), a9, a10]) _ (List.range ls.length) [] (fun d _ => rfl) (fun j hj Q hQ => ?_) (fun j hj _ Q hQ => ?_) (by show 0 + _ ≤ _; rw [List.length_range]; omega) ?_
  · have hj := List.mem_range.mp hj
    obtain ⟨s, hs, hs2, es⟩ := at_ ls l62 (0 + (j : Int)) (by omega) (by omega)
    have ej : (0 + (j : Int)).toNat = j := by omega
    rw [ej] at hs2
    have e : ls.getD j "" = s := by rw [List.getD_eq_getElem?_getD, hs2]; rfl
    rw [e] at hQ
    simp_arith! [es]
    refine lawcallS (hl2 s hs) ?_
    exact hQ
  · simp_arith!
    exact hQ
  rw [List.nil_append]
  show N _ σ
  have ew : (List.filter (fun j => !callTB (ls.getD j "")) (List.range ls.length)) = wrongL ls := rfl
  rw [ew]
  refine hN _ _ ?_
  refine seq_op fun N hN => ?_
  unfold p_law_5
  obtain ⟨okw, lw⟩ := whole_ok hl2 l62
  have oke : PyData.strOk ("" : Str) = true := by decide +kernel
  have okI : ∀ d ∈ (wrongL ls).map (fun j : Nat => Dt.int (0 + (j : Int))), okD σ d := fun d hd => by
    obtain ⟨j, _, rfl⟩ := List.mem_map.mp hd
    exact ok_int
  simp_arith! [eqD_nil okI, eqD_str okw oke]
  have e7 : ((wrongL ls).map (fun j : Nat => Dt.int (0 + (j : Int)))).isEmpty = (wrongL ls).isEmpty := isE_map
  rw [e7]
  obtain ⟨due, hdue, hread⟩ : ∃ due : Dt, (∀ F : Dt → Sg → Prop, F due σ → if (wrongL ls).isEmpty = true then F .non σ else if decide (wholeT ls = "") = true then F .non σ else oK (atI ((wrongL ls).map (fun j : Nat => Dt.int (0 + (j : Int)))) 0) fun d => F (.lst [d, .bl true]) σ) ∧
      ∀ F : Dt → Sg → Prop, neD due due σ = some (.bl false) ∧ (F due σ → x_read_calls_ [.str (wholeT ls)] σ (fun _ σ' => F .non σ') (fun d σ' => F (.lst [d, .bl true]) σ')) := by
    cases hw : wrongL ls with
    | nil =>
      exact ⟨.non, fun F hF => hF, fun F => ⟨ne_non, fun hF => xcalls_text hl2 l62 hne (fun _ _ => hF) fun j s hj hs _ _ => absurd (wrong_nil hw s (List.mem_of_getElem? hj)) (by rw [hs]; exact Bool.false_ne_true)⟩⟩
    | cons j r =>
      obtain ⟨s, h1, h2, h3⟩ := wrong_head hw
      by_cases hz : wholeT ls = ""
      · refine ⟨.non, fun F hF => ?_, fun F => ⟨ne_non, fun hF => xcalls_text hl2 l62 hne (fun _ _ => hF) fun _ _ _ _ _ z => absurd hz z⟩⟩
        rw [decide_eq_true hz]
        exact hF
      · refine ⟨.lst [.int (j : Nat), .bl true], fun F hF => ?_, fun F => ⟨ne_pair _, fun hF => xcalls_text hl2 l62 hne (fun z => ?_) fun j' s' hj' hs' ha' _ => ?_⟩⟩
        · rw [decide_eq_false hz, List.map_cons]
          show oK (atI (_ :: _) 0) _
          rw [atI0, show (0 : Int) + (j : Int) = (j : Int) by omega]
          exact hF
        · rcases z with z | z
          · exact absurd z hz
          · exact absurd (z s (List.mem_of_getElem? h1)) (by rw [h2]; exact Bool.false_ne_true)
        · have e : j' = j := by
            rcases Nat.lt_trichotomy j' j with z | z | z
            · exact absurd (h3 j' s' z hj') (by rw [hs']; exact Bool.false_ne_true)
            · exact z
            · exact absurd (ha' j s z h1) (by rw [h2]; exact Bool.false_ne_true)
          rw [e]
          exact hF
  refine hdue (fun d σ => N [a0, a1, some (.im (.ref b)), a3, some (.ow (.lst (ls.map Dt.str))), some (.im (.int q)), some (.im (.str (wholeT ls))), some (.im (.lst ((wrongL ls).map fun j : Nat => Dt.int (0 + (j : Int))))), a8, some (.im d), a10] σ) ?_
  refine hN _ _ ?_
  refine seq_op fun N hN => ?_
  unfold p_law_6
  refine ne_same (due := due) (fun F hF => ?_) rfl (hread fun _ _ => True).1 (hN _ _ ?_)
  · simp_arith! [pRf]
    exact (hread F).2 hF
  refine seq_op fun N hN => ?_
  unfold p_law_7
  obtain ⟨s, hs, _, es⟩ := at_ ls l62 q q0 q2
  simp_arith! [es]
  refine lawcallS (hl2 s hs) ?_
  simp_arith!
  refine Eq.mp ?_ (hN [a0, a1, some (.im (.ref b)), a3, some (.ow (.lst (ls.map Dt.str))), some (.im (.int q)), some (.im (.str (wholeT ls))), some (.im (.lst ((wrongL ls).map fun j : Nat => Dt.int (0 + (j : Int))))), a8, some (.im (if callTB s = true then .non else .lst [.int 0, .bl true])), a10] σ ?_)
  · cases callTB s <;> rfl
  unfold p_law_8
  refine ne_same (due := if callTB s = true then .non else .lst [.int 0, .bl true]) (fun F hF => ?_) rfl ?_ (hn _ _ _ _ _ _)
  · simp_arith! [pRf, es]
    refine xcall_text (hl2 s hs) (fun z _ => ?_) fun z => ?_
    · rw [z] at hF
      exact hF
    · rw [z] at hF
      exact hF
  · cases callTB s
    · exact ne_pair 0
    · exact ne_non
theorem law_p {ns : List Int} (hl : ns.length ≤ 63) : p_law_ [.ros (ns.map .int)] [] fun d _ => d = .bl true := by
  unfold p_law_
  try simp_arith!
  unfold p_law
  refine seq_op fun N hN1 => ?_
  unfold p_law_15
  simp_arith! [List.length_map]
  refine ⟨by split <;> split <;> omega, ?_⟩
  refine forP_rng (fun j r σ' => ∃ a1 a2 a3 a4 a5 a6 a7 a8 a9 a10, r = [some (.im (.ros (ns.map .int))), a1, a2, a3, a4, a5, a6, a7, a8, a9, a10]) ⟨_, _, _, _, _, _, _, _, _, _, rfl⟩ ?_ ?_
  · rintro j r σ' k' hj ⟨a1, a2, a3, a4, a5, a6, a7, a8, a9, a10, rfl⟩ _ _ hn _
    refine ⟨_, rfl, ?_⟩
    unfold p_law_14
    refine seq_op fun N hN => ?_
    simp_arith!
    refine ⟨⟨ns, rfl⟩, by omega, ?_⟩
    refine hN _ _ ?_
    have hb : (σ' ++ [Cel.bag])[σ'.length]? = some .bag := by simp
    generalize σ' ++ [Cel.bag] = σ2 at hb ⊢
    generalize σ'.length = b at hb ⊢
    refine seq_op fun N hN => ?_
    simp_arith!
    refine forP_rng (fun j2 r2 σ3 => σ3 = σ2 ∧ ∃ b3 b4 b5 b6 b7 b8 b9, r2 = [some (.im (.ros (ns.map .int))), some (.im (.int (0 + (j : Int)))), some (.im (.ref b)), b3, b4, b5, b6, b7, b8, b9, a10]) ⟨rfl, _, _, _, _, _, _, _, rfl⟩ ?_ ?_
    · rintro j2 r2 σ3 k3 hj2 ⟨rfl, b3, b4, b5, b6, b7, b8, b9, rfl⟩ _ _ hn3 _
      exact ⟨_, rfl, turn26 hb fun c4 c5 c6 c7 c8 c9 => hn3 _ _ ⟨rfl, _, _, _, _, _, _, _, rfl⟩⟩
    rintro r2 σ3 ⟨rfl, b3, b4, b5, b6, b7, b8, b9, rfl⟩
    refine hN _ _ ?_
    unfold p_law_13
    have ep : powD (.int 10) (.int 19) σ3 = some (.int 10000000000000000000) := by
      show (if CPow 10 19 then some (Dt.int (10 ^ (19 : Int).toNat)) else none) = _
      rw [if_pos (by decide)]
      rfl
    simp_arith! [ep]
    show forP (gN 10) p_law_12 k' (([Dt.non, .int 0, .bl true, .lst [.str "fork 0"], .tup [.str "fork", .int 0], .int 10000000000000000000] : List Dt).map id) _ _
    refine forP_list (f := id) (fun j2 r2 σ4 => σ4 = σ3 ∧ ∃ c10, r2 = [some (.im (.ros (ns.map .int))), some (.im (.int (0 + (j : Int)))), some (.im (.ref b)), b3, b4, b5, b6, b7, b8, b9, c10]) ⟨rfl, _, rfl⟩ ?_ ?_
    · rintro j2 d r2 σ4 k4 hd ⟨rfl, c10, rfl⟩ _ _ hn4 _
      have hd := List.mem_of_getElem? hd
      have ht : isiTD d σ4 = some (.bl false) := by
        simp only [List.mem_cons, List.not_mem_nil, or_false] at hd
        rcases hd with rfl | rfl | rfl | rfl | rfl | rfl <;> rfl
      exact ⟨_, rfl, thing26 ht (hn4 _ _ ⟨rfl, _, rfl⟩)⟩
    rintro r2 σ4 ⟨rfl, c10, rfl⟩
    exact hn _ _ ⟨_, _, _, _, _, _, _, _, _, _, rfl⟩
  rintro r σ' ⟨a1, a2, a3, a4, a5, a6, a7, a8, a9, a10, rfl⟩
  refine hN1 _ _ ?_
  unfold p_law_16
  simp_arith! [pRf]
  refine ⟨rfl, ?_⟩
  unfold q_read_call
  refine seq_op fun N2 hN2 => ?_
  unfold q_text
  simp_arith! [isiTD]
  refine hN2 _ _ ?_
  refine seq_op fun N2 hN2 => ?_
  simp_arith!
  have hsp : Txt.split "fork 0\nfork 1" " " = [("fork" : Str), "0\nfork", "1"] := by decide +kernel
  have hok : ∀ p ∈ ([("fork" : Str), "0\nfork", "1"] : List Str), PyData.strOk p = true ∧ p.length ≤ 1000000 := by decide +kernel
  have hcb : callB "fork" [("0\nfork" : Str), "1"] = false := by decide +kernel
  refine callinT_p hsp hok (by decide +kernel) (by decide) ?_
  rw [hcb, if_neg Bool.false_ne_true]
  refine hN2 _ _ ?_
  simp_arith!
  show oK (eqD (.lst [.int 0, .bl true]) (.lst [.int 0, .bl true]) σ') _
  rw [eqD_self (d := .list [.int 0, .bool true]) rfl]
  rfl
end
theorem law_eq (μ : Mu) (s : Nat) (ns : List Int) (hl : ns.length ≤ 63) (hs : seqOf μ s = some (ns.map Val.int)) (sl : s < μ.nx) : Gets (d_law [.loc s] μ) fun v _ => v = .bl true := law_plain sd_law hs sl (law_p hl)

/-! ### the end -/
theorem facts {w : World} {K : PySem.W.Frag} {mg : Str → Option Value} {fa : Addr} {h : Heap} (X : K.In h) (G : h.Ns mainGlobals mg) (hf : mg ("law" : Str) = some (.ref fa)) (c : SaysW fcL fwL tsL tfL w h K) : LawG PySem.Challenge.rw_waitnumbers_k26_texts_refused w K CX0 7 63 "_law_script" mg fa h := by
  have T := tx_of X G c
  have e : fa = gA "law" K := by
    have z := hf.symm.trans T.g_law
    cases z
    rfl
  subst e
  have b := FunD.bindsA (ps := ["_law_script"]) T.f_law fun _ _ _ _ _ _ us hl => match us, hl with | [_], _ => rfl
  have tl : ∀ x ∈ lamL, ((x, none) : Defn) ∈ tfL := by decide
  have cm : ∀ p ∈ lamL.map (fun x => cT K (x, none)), ∃ q ∈ tfL, p = cT K q := fun p hp => by
    obtain ⟨x, hx, rfl⟩ := List.mem_map.mp hp
    exact ⟨_, tl x hx, rfl⟩
  refine ⟨_, lamL.map (fun x => cT K (x, none)), spM K 1 d_law, fun p hp => ?_, fun p hp => ?_, fun p hp => ?_, fun s u => b s [u] rfl, fun H a ns hl hH hS => law_sp law_eq H a ns hl (fun p hp => ?_) hS, fun base _ _ TB => okm_law T (c.x.t.tab 0 rfl) (fun x hx => TB _ (List.mem_map.mpr ⟨x, hx, rfl⟩))⟩
  · obtain ⟨q, hq, rfl⟩ := cm p hp
    exact c.x.empty q hq
  · obtain ⟨q, hq, rfl⟩ := cm p hp
    exact c.x.out q hq
  · obtain ⟨q, hq, rfl⟩ := cm p hp
    exact PySem.W.codeHd_of_K X (c.x.hd q hq)
  · obtain ⟨x, hx, rfl⟩ := List.mem_map.mp hp
    exact ⟨#[], hH _ (List.mem_map.mpr ⟨x, hx, rfl⟩), True.intro, fun pos cv h => nomatch h⟩

end Wn

open PySem PySem.W PySem.Calls PyProof.Rows
theorem PySem.Challenge.cw_waitnumbers_k26_texts_refused_holds : PySem.Challenge.rw_waitnumbers_k26_texts_refused.Holds := by
  w_on; o_law
  refine HandSHeadRun.head_any (r := OpenLaw.row PySem.Challenge.rw_waitnumbers_k26_texts_refused) (q := view (OpenLaw.row PySem.Challenge.rw_waitnumbers_k26_texts_refused).prog [25]) (H := Wn.hk) (ob := Wn.obs) (M := 60000) (loose := Wn.loose) (d := HandSHeadRun.topDef (OpenLaw.row PySem.Challenge.rw_waitnumbers_k26_texts_refused).prog 25) (kwd := []) Wn.obs_eq
    (by kernel_rfl) (fun s => by kernel_rfl) Wn.run (by kernel_rfl) (by kernel_rfl) (by kernel_rfl) (by rfl) (by first | assumption | decide +kernel) (by decide +kernel) ⟨rfl, rfl, rfl, rfl, rfl, by decide +kernel⟩ ?hw ?hc
  case hw => w_witness2
  case hc =>
    refine Wn.walk_g (l := PySem.Challenge.rw_waitnumbers_k26_texts_refused) (n := 63) (k := 7) (x := "_law_script") (CX := fun _ => L2.CX0) rfl (by decide) (by kernel_rfl) ⟨rfl, by decide, by decide⟩ ?F (fun _ _ _ _ _ z => z)
    intro w mg fa h ⟨K, KX, c⟩ G hm
    have e : (HandSHeadRun.topDef (OpenLaw.row PySem.Challenge.rw_waitnumbers_k26_texts_refused).prog 25).name = ("law" : PySem.Str) := by kernel_rfl
    exact ⟨K, KX, Wn.facts KX G (by rw [← e]; exact hm) c⟩
