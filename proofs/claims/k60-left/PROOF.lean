import PyProof.Rows.All
import Wide.All
import OpenK.AllK
import Wide.FinOn
import HandS.ForMost
import HandS.ForExc
import HandS.ExcInit
import HandS.ExcField
import HandS.ExcIs
import HandS.TryMany
import KE.KExcInit
import HandS.Defaults
import HandS.Lambda
import HandS.EndTab
import HandS.HeadWalk
import PyProof.ReprRoads
import PyProof.CallFns
import HandS.Property
import HandS.ClsMeth
import HandS.Head0
import HandS.Head1
import HandS.Head2
import HandS.HeadEnd
import HandS.HeadHook1
import HandS.HeadHook2
import HandS.HeadHook3
import HandS.HeadHook4
import HandS.IsInst
import KE.KExcIs
import HandS.Head4
import HandS.Exc
import HandS.SortKw
import HandS.More
import KE.SortKeyHeap
import HandS.DictComp
import HandS.Walk
import HandS.CallSlots
import HandS.MakeKwOnly
import PyProof.ListRange
import HandS.WordsExc
import PyProof.InstSpecial
import HandS.Words
import HandS.Deep
import HandS.Flow
import HandS.SortInts
import HandS.Style
import HandS.Iter
import HandS.Dict
import HandS.SetFor
import HandS.TryOnly
import HandS.Small
import HandS.List
import KE.DataAny
import HandS.ListItems
import KE.KDictList
import PyProof.DictWalks
import PyProof.DictValues
import PyProof.ConsumeWalk
import PyProof.Rows.StrInSeq
import HandS.MakeKw
import HandS.NoneIn
import HandS.Conv
import PySem.Challenge.RW_waitnumbers_k60_registrations_left_behin
set_option Elab.async false
set_option linter.all false
set_option maxRecDepth 100000
set_option maxHeartbeats 0
/-! the defs of the law that make lambdas -/
namespace Wn
open PySem
def lamL : List Str := []
/-- how many registrations a set may have -/
abbrev mostE : Nat := 1000000
end Wn
/-! errors of one's own over any built-in base, with fields that __init__ stores -/
namespace Wn
open PySem PySem.Spec PyProof.Rows L2
open Builtin Builtin.ObjectAttr

/-- what the written part says of an own error class over the built-in B -/
structure XC (K : PySem.W.Frag) (C : Addr) (B nw it : String) (bm : List Value) : Prop where
  bf : ExcBaseFacts B nw it bm
  sf : StoreFacts B bm "object.__setattr__" "object"
  ini : PySem.W.excInitIn K C bm nw = true
  ovr : PySem.W.excOver K C bm = true
  hdi : PySem.W.hasDictIn K C = true
  sa : PySem.W.findIn K (.ref C) "__setattr__" = some (some (.builtin "object.__setattr__"))
  exC : PySem.W.subIn K (.ref C) (.type "BaseException") = some true
  tyC : PySem.W.typeIn K (.ref C) = some (.type "type")
  kC : PySem.W.keepIn K (.ref C) = true

theorem taker0 {K : PySem.W.Frag} {C : Addr} {f : Str} (h : PySem.W.findIn K (.ref C) f = some none) : PySem.W.takerIn K C f = some none := by
  unfold PySem.W.takerIn
  rw [h]
  rfl
theorem hasD {K : PySem.W.Frag} {C : Addr} (h : PySem.W.hasDictIn K C = true) : ∃ cd, PySem.W.clsIn K C = some cd ∧ cd.hasDict = true := by
  unfold PySem.W.hasDictIn at h
  cases e : PySem.W.clsIn K C with
  | none =>
    rw [e] at h
    cases h
  | some cd =>
    rw [e] at h
    exact ⟨cd, rfl, h⟩

section
variable {prog : Program} {w : World} {A : Around} {R : Result → Shared → Prop} {hp : Heap} {g : Array GenState} {d : Drawn} {t : Nat} {os : OsState}
variable {K : PySem.W.Frag} {name : Str} {tk : Tok} {v : Value} {x C dx : Addr} {fv : Array Value} {B nw it : String} {bm : List Value}
/-- the first field: the dict is laid -/
theorem osa_first (T : XC K C B nw it bm) (X : K.In hp) (hx : hp.get? x = some { cls := .ref C, data := .fields fv }) (ha : PySem.W.findIn K (.ref C) name = some none)
    (hq : ∀ h' tk' dx, (∀ b o, b ≠ x → hp.get? b = some o → h'.get? b = some o) → hp.objs.size ≤ dx → dx ≠ x →
      h'.get? x = some { cls := .ref C, dict := some dx, data := .fields fv } → h'.Ns1 dx (fun y => if y = name then some v else none) →
      R (.ok (.ret .none)) ⟨h', g, d, tk', os⟩) :
    codeAny (model prog w) A (.call (.builtin "object.__setattr__") ⟨[.ref x, .str name tk, v], []⟩) R ⟨hp, g, d, t, os⟩ := by
  obtain ⟨cd, hcd, hh⟩ := hasD T.hdi
  have hcls : PySem.W.Looks (model prog w) hp (classData C) cd := PySem.W.looks_clsIn X hcd
  have hxs : x ≠ hp.objs.size := Nat.ne_of_lt (Heap.lt_size hx)
  refine PySem.W.osa_openX T.sf X (ox := { cls := .ref C, data := .fields fv }) (od := none) ⟨hx, rfl, rfl, trivial⟩ T.ovr (taker0 ha) fun b => ?_
  show wpAny _ _ (storeInOwnDict (.ref x) (.ref C) (.str name tk) name v b) _ _ _
  obtain ⟨nm, bs, mro, ns, qn, hd, sn, sb, ab, col, de⟩ := cd
  dsimp only at hh
  subst hh
  unfold storeInOwnDict ownDictForStores
  repeat (first | with_reducible refine PySem.HandSPX.store_in_new ?_ ?_ | with_reducible refine wpAny_loadPart_at hx ?_ | with_reducible refine hcls.at ?_ | wp_step)
  · exact ⟨_, #[], _, (Heap.get?_update_ne _ _ _ _ hxs.symm).trans (Heap.get?_push_at rfl rfl), rfl, fun e he => absurd he (by simp), fun _ => rfl⟩
  · intro h' tk' hn' hs
    have hx1 : (hp.push { cls := .type "dict", data := .dict #[] }).get? x = some { cls := .ref C, data := .fields fv } := Heap.get?_push_of_some _ hx
    refine hq h' tk' hp.objs.size (fun b o hb ho => ?_) (Nat.le_refl _) hxs.symm ?_ hn'
    · exact (hs.2 b (Nat.ne_of_lt (Heap.lt_size ho))).trans ((Heap.get?_update_ne _ _ _ _ hb).trans (Heap.get?_push_of_some _ ho))
    · exact (hs.2 x hxs).trans (Heap.get?_update_self _ hx1 rfl)
/-- a further field -/
theorem osa_more {m0 : Str → Option Value} {nl : List Str} (T : XC K C B nw it bm) (X : K.In hp) (hx : hp.get? x = some { cls := .ref C, dict := some dx, data := .fields fv }) (hns : hp.Ns1 dx m0) (hw : Within m0 nl) (hz : nl.length ≤ 1000)
    (ha : PySem.W.findIn K (.ref C) name = some none)
    (hq : ∀ h' tk', (∀ b o, b ≠ dx → hp.get? b = some o → h'.get? b = some o) → h'.Ns1 dx (fun y => if y = name then some v else m0 y) → R (.ok (.ret .none)) ⟨h', g, d, tk', os⟩) :
    codeAny (model prog w) A (.call (.builtin "object.__setattr__") ⟨[.ref x, .str name tk, v], []⟩) R ⟨hp, g, d, t, os⟩ := by
  obtain ⟨cd, hcd, hh⟩ := hasD T.hdi
  obtain ⟨oD, _, _, hoD, _, _⟩ := hns.count hw
  have hcls : PySem.W.Looks (model prog w) hp (classData C) cd := PySem.W.looks_clsIn X hcd
  refine PySem.W.osa_openX T.sf X (ox := { cls := .ref C, dict := some dx, data := .fields fv }) (od := some oD) ⟨hx, rfl, rfl, hoD⟩ T.ovr (taker0 ha) fun b => ?_
  show wpAny _ _ (storeInOwnDict (.ref x) (.ref C) (.str name tk) name v b) _ _ _
  obtain ⟨nm, bs, mro, ns, qn, hd, sn, sb, ab, col, de⟩ := cd
  dsimp only at hh
  subst hh
  unfold storeInOwnDict ownDictForStores
  repeat (first | with_reducible refine PySem.OEX.store_in_old hns hw hz ?_ | with_reducible refine wpAny_loadPart_at hx ?_ | with_reducible refine hcls.at ?_ | wp_step)
  intro h' tk' hn' hs
  exact hq h' tk' (fun b o hb ho => (hs.2 b hb).trans ho) hn'
end

section
variable {X : Cx} {pins : List (Addr × Obj)} {σ : L2.St} {H : Hp} {s : Shared} {a C dx : Addr} {f : Str} {y : V} {u : Value} {fs : List (Str × V)} {Q : Unit → Shared → Prop} {E : Value → Shared → Prop} {A : Around} {B nw it : String} {bm : List Value}
/-- self.f = y in __init__, the first one -/
theorem xs_first (T : XC X.K C B nw it bm) (I : Inv X pins σ H s) (e : H a = some (exo a C none)) (hno : PySem.W.findIn X.K (.ref C) f = some none) (ry : RelV y u)
    (h : ∀ dx s', H dx = none → dx ≠ a → Inv X pins σ (upd (upd H dx (exd dx [(f, y)])) a (exo a C (some dx))) s' → Q () s') : wpAny (model X.prog X.w) A (setAttr (.ref a) f u) Q E s := by
  obtain ⟨t1, ho⟩ := exo_at I.hok e
  obtain ⟨hp, g, d, t, os⟩ := s
  refine PySem.W.set_plain I.kIn (ox := { cls := .ref C, dict := none, data := .fields #[.ref t1, .none, .none, .none, .bool false, .none] }) (od := none) ⟨ho, rfl, rfl, trivial⟩ T.sa ?_
  refine osa_first T I.kIn ho hno (fun h' tk' dx k dn dne hx hn => ?_)
  have hnd : H dx = none := I.hok.fresh dn
  have nd : ∀ {b : Addr} {o : Obj}, hp.get? b = some o → b ≠ dx := fun {b o} q => Nat.ne_of_lt (Nat.lt_of_lt_of_le (Heap.lt_size q) dn)
  have na : ∀ {b : Addr}, H b = none → b ≠ a := fun {b} n z => by rw [z, e] at n; cases n
  have kt : ∀ {b : Addr} {o : HO}, H b = some o → (∀ z, o ≠ exo a C z) → upd (upd H dx (exd dx [(f, y)])) a (exo a C (some dx)) b = some o := fun {b o} q ne => by
    have hb : b ≠ a := fun z => by rw [z, e] at q; exact ne _ (Option.some.inj q).symm
    rw [upd_ne hb, upd_ne (ne_of_none q hnd)]
    exact q
  have U : Un X.fs [] H (upd (upd H dx (exd dx [(f, y)])) a (exo a C (some dx))) hp h' := ⟨fun b o q n _ _ => k b o (na n) q, fun b o q n _ _ => ⟨o.slots, k b o (na n) q⟩,
    fun b o q n _ => by rw [upd_ne (na n), upd_ne (nd q)]; exact n,
    fun b o q _ => by
      by_cases hb : b = a
      · exact ⟨_, by rw [hb]; exact hx⟩
      · exact ⟨o, k b o hb q⟩,
    fun b xs q => kt q fun z => (exo_tup (e := a) (C := C) (d := z)).symm, fun b o v q => kt q fun z => (exo_frz (e := a) (C := C) (d := z)).symm,
    fun b ps q => ⟨#[], by rw [kt q fun z => (exo_tbl (e := a) (C := C) (d := z)).symm]; simp⟩⟩
  refine h dx _ hnd dne (I.un (t' := tk') U fun b o q => ?_)
  by_cases hb : b = a
  · subst hb
    rw [upd_same] at q
    cases q
    exact exo_ok hx
  · rw [upd_ne hb] at q
    by_cases hd : b = dx
    · subst hd
      rw [upd_same] at q
      cases q
      exact exd_ok hn (relO_put (fs := []) ry fun g => True.intro)
    · rw [upd_ne hd] at q
      refine (I.hok b o q).stay (fun c v hc z => k c v ?_ z) (fun c hc => kt hc fun z => (exo_own (e := a) (C := C) (d := z)).symm) (fun c xs hc => kt hc fun z => (exo_tup (e := a) (C := C) (d := z)).symm)
      rcases hc with hc | hc
      · rw [hc]
        exact hb
      · exact at_ne e hc exo_own
/-- self.f = y in __init__, a further one -/
theorem xs_more (T : XC X.K C B nw it bm) (I : Inv X pins σ H s) (e : H a = some (exo a C (some dx))) (ed : H dx = some (exd dx fs)) (hl : fs.length ≤ 900) (hno : PySem.W.findIn X.K (.ref C) f = some none) (ry : RelV y u)
    (h : ∀ s', Inv X pins σ (upd H dx (exd dx ((f, y) :: fs))) s' → Q () s') : wpAny (model X.prog X.w) A (setAttr (.ref a) f u) Q E s := by
  obtain ⟨t1, ho⟩ := exo_at I.hok e
  obtain ⟨mA, hns, rel⟩ := exd_at I.hok ed
  have hw := within_of rel
  obtain ⟨hp, g, d, t, os⟩ := s
  obtain ⟨oD, _, _, hoD, _, _⟩ := hns.count hw
  refine PySem.W.set_plain I.kIn (ox := { cls := .ref C, dict := some dx, data := .fields #[.ref t1, .none, .none, .none, .bool false, .none] }) (od := some oD) ⟨ho, rfl, rfl, hoD⟩ T.sa ?_
  refine osa_more T I.kIn ho hns hw (by rw [List.length_map]; omega) hno (fun h' tk' k hn => ?_)
  obtain ⟨oN, _, _, eN, _⟩ := id hn
  exact h _ (I.write (t' := tk') (x := dx) (e := dx) (o := exd dx ((f, y) :: fs)) (by rw [ed]; exact True.intro) (.inl rfl) k ⟨oN, eN⟩ (exd_ok hn (relO_put ry rel)))
end

/-- self.f = e of an error that is being made -/
def tXs (K : PySem.W.Frag) (f : Str) (to te : TE) : TS := fun D σ H => te σ H fun y H1 => to σ H1 fun x H2 => ∃ (a C : Addr) (B nw it : String) (bm : List Value), x = .ref a ∧ XC K C B nw it bm ∧ PySem.W.findIn K (.ref C) f = some none ∧
  ((H2 a = some (exo a C none) ∧ ∀ dx, H2 dx = none → dx ≠ a → D.nx σ (upd (upd H2 dx (exd dx [(f, y)])) a (exo a C (some dx)))) ∨
    ∃ (dx : Addr) (fs : List (Str × V)), H2 a = some (exo a C (some dx)) ∧ H2 dx = some (exd dx fs) ∧ fs.length ≤ 900 ∧ D.nx σ (upd H2 dx (exd dx ((f, y) :: fs))))
section
variable {X : Cx} {o e : Expr} {es : List Expr} {to te : TE} {ta : TA} {f : Str} {p p' p1 p2 pos : Pos}
theorem ps_xs (ho : PE X o to) (he : PE X e te) (hs : swapsWith e (some (.Attribute o f p')) pos.line X.env = pure false := by rfl) : PS X (.Assign [.Attribute o f p'] e pos) (tXs X.K f to te) := by
  refine ⟨fun pins s σ H D I h => ?_⟩
  refine plainObj_wpAny_Assign_Attribute (thn (he.run pins s σ H _ I h) fun v s1 ⟨y, H1, I1, r1, q1⟩ => thn (ho.run pins s1 σ H1 _ I1 q1) fun u s2 ⟨x, H2, I2, r2, a, C, B, nw, it, bm, ex, T, hno, q⟩ => ?_) hs
  subst ex
  obtain rfl : u = Value.ref a := r2
  rcases q with ⟨ea, q⟩ | ⟨dx, fs, ea, ed, hl, q⟩
  · exact xs_first T I2 ea hno r1 fun dx s' n ne J => ⟨σ, _, J, q dx n ne⟩
  · exact xs_more T I2 ea ed hl hno r1 fun s' J => ⟨σ, _, J, q⟩
variable {CX : CXT} {x : Str} {C fI : Addr} {k : Nat} {fd : FuncData} {ps : List Str} {sp : Sp} {B nw it : String} {bm : List Value}
theorem xm_run (T : XC X.K C B nw it bm) (iC : PySem.W.findIn X.K (.ref C) "__init__" = some (some (.ref fI))) (tI : PySem.W.typeIn X.K (.ref fI) = some (.type "function"))
    (F1 : FnOk X.prog X.w X.K X.mg X.base CX k fI fd ps sp) (hr : Room (k + 1) X.A) (hb : Binds X.K fd ps []) (hx : Passes CX X (fun _ _ _ => False)) {pins : List (Addr × Obj)} {σ : L2.St} {H1 : Hp} {s1 : Shared} {us : List Value} {vs : List V} {Q : XK}
    (I1 : Inv X pins σ H1 s1) (r1 : Vals vs us) (hz : vs.length ≤ 1000)
    (q1 : ∀ a, H1 a = none → sp (.ref a :: vs) (upd H1 a (exo a C none)) (fun v H2 => v = .non ∧ ∃ (d : Addr) (fs : List (Str × V)), H2 a = some (exo a C (some d)) ∧ H2 d = some (exd d fs) ∧ H1 d = none ∧ Q (.ref C) (some d) (upd (del H2 a) d (.xd fs))) (fun _ _ _ => False)) :
    wpAny (model X.prog X.w) X.A (call (.ref C) us) (MkP X pins σ Q) X.xe s1 := by
  obtain ⟨hp, g, dr, tk, os⟩ := s1
  obtain ⟨nm, N, q, bs, bl, hdct, sn, sub, ab, col, dd, k0, k1, k2, k3, k5, hC, hT⟩ := PySem.W.excInit_of I1.kIn T.ini
  have hsz : hp.objs.size ≤ hp.objs.size + 1 := Nat.le_succ _
  have hn : H1 (hp.objs.size + 1) = none := I1.hok.fresh hsz
  have hq := q1 (hp.objs.size + 1) hn
  have kk : ∀ b o, hp.get? b = some o → ((hp.push (PySem.W.kdv_tup us)).push (PySem.HandSPX.excO C hp.objs.size)).get? b = some o := fun b o e => Heap.get?_push_of_some _ (Heap.get?_push_of_some _ e)
  have hget : ((hp.push (PySem.W.kdv_tup us)).push (PySem.HandSPX.excO C hp.objs.size)).get? (hp.objs.size + 1) = some (PySem.HandSPX.excO C hp.objs.size) := by heap_get
  have I2 := I1.laid (t' := tk) (a := hp.objs.size + 1) (o := exo (hp.objs.size + 1) C none) kk hsz (exo_ok hget)
  have r2 : Vals (V.ref (hp.objs.size + 1) :: vs) (Value.ref (hp.objs.size + 1) :: us) := .cons rfl r1
  have hl : (Value.ref (hp.objs.size + 1) :: us).length = ps.length := by
    have e := r2.length
    rw [F1.len _ _ _ _ hq] at e
    exact e.symm
  have hus : us.length ≤ sizeLine := by
    rw [← Paired.length r1, sizeLine_eq]
    omega
  have bnd := hb ⟨(hp.push (PySem.W.kdv_tup us)).push (PySem.HandSPX.excO C hp.objs.size), g, dr, tk, os⟩ (Value.ref (hp.objs.size + 1) :: us) I2.kIn (by rw [List.append_nil]; exact hl)
  rw [List.append_nil] at bnd
  refine wpAny_call (PySem.HandSPX.call_own T.bf hT hC (PySem.W.looks_findIn I1.kIn iC) (fun self => PySem.W.bind_fn I1.kIn self tI) hus
    (codeAny_mono (F1.run _ X.stack _ _ ⟨Value.ref (hp.objs.size + 1) :: us, []⟩ _ _ _ (fun _ _ _ => False) (hr.make C us []) (I2.env0.make C us []) bnd r2 hq) fun r s' hq' => ?_))
  cases r with
  | error er => exact hx pins σ _ _ er s' I2 hq'
  | ok fl =>
    cases fl with
    | ret u =>
      obtain ⟨v, H2, os2, bare2, un2, hok2, rv, ev, d, fs, ea, ed, hd1, q2⟩ := hq'
      subst ev
      obtain ⟨h2, g2, d2, t2, os'⟩ := s'
      exact ⟨rv, mk_end (raises_own T.exC T.tyC) I1 hsz kk un2 hok2 os2 bare2 ea ed hd1 q2⟩
    | next => exact False.elim hq'
    | brk => exact False.elim hq'
    | cont => exact False.elim hq'
end
end Wn
/-! repr of data, defs that are called where no repr runs, the law's end for such a def -/
namespace Wn
open PySem PySem.Spec PyProof.Rows L2 LamX

/-! ### repr -/
/-! ### a def that is called where no repr runs -/
structure FnG (P : Program) (w : World) (K : PySem.W.Frag) (mg : Str → Option Value) (base : Heap) (CX : CXT) (k : Nat) (f : Addr) (fd : FuncData) (ps : List Str) (sp : Sp) : Prop where
  len : ∀ vs H Q E, sp vs H Q E → vs.length = ps.length
  run : ∀ (A : Around) (outer : List Env) (s : Shared) (H : Hp) (args : Args) (us : List Value) (vs : List V) (Q : VK) (E : XK), A.guards = some [] → Room k A → Env0 P w K mg base A outer s H →
    BindsTo s fd args (ps.zip us) → Vals vs us → sp vs H Q E → codeAny (model P w) A (.call (.ref f) args) (CR CX outer P w H s Q E) s
theorem FnG.of {P : Program} {w : World} {K : PySem.W.Frag} {mg : Str → Option Value} {base : Heap} {CX : CXT} {k : Nat} {f : Addr} {fd : FuncData} {ps : List Str} {sp : Sp} (F : FnOk P w K mg base CX k f fd ps sp) : FnG P w K mg base CX k f fd ps sp :=
  ⟨F.len, fun A outer s H args us vs Q E _ => F.run A outer s H args us vs Q E⟩
section
variable {P : Program} {w : World} {K : PySem.W.Frag} {mg : Str → Option Value} {base : Heap} {x qual : Str} {params : Arguments} {body : List Stmt} {scope : Scope} {dvs : List V} {kws : List (Str × V)} {f : Addr} {fd : FuncData}
theorem okG {CX : CXT} {N ps : List Str} {k : Nat} {sp : Sp} (F : FunD K x qual params body scope dvs kws f fd) (S : FnScope N ps scope) (len : ∀ vs H Q E, sp vs H Q E → vs.length = ps.length)
    (hbody : ∀ (cdv : Value) (A : Around) (outer : List Env) (s : Shared) (H : Hp) (vs : List V) (Q : VK) (E : XK), A.guards = some [] → Room k (A.deeper (envOfC qual scope s.heap.objs.size f cdv)) → sp vs H Q E →
      ∃ t, PSs (cxOf CX P w K mg base N qual scope f cdv A outer s H E) body t ∧ t { nx := fun _ H' => Q .non H', rt := Q } (L2.start N vs) H) : FnG P w K mg base CX (k + 1) f fd ps sp := by
  obtain ⟨oc, od, dV, kV, doc, pm, an, cdv, ct, osl, rfl, lk, hcd, _, _⟩ := F.ex
  refine ⟨len, fun A outer s H args us vs Q E hg hr e0 hb r hsp => ?_⟩
  exact run_ofS lk hcd S hr e0 hb r (len _ _ _ _ hsp) fun hr' => hbody cdv A outer s H vs Q E hg hr' hsp
end
section
variable {X : Cx} {CX : CXT} {k : Nat} {f C : Addr} {fd : FuncData} {ps : List Str} {sp : Sp} {dvs : List V} {ds : List Value} {E : XK} {x m : Str} {p pos apos : Pos} {e o : Expr} {es : List Expr} {ta : TE} {t : TA}
theorem run_g {pins : List (Addr × Obj)} {σ : L2.St} {H : Hp} {s : Shared} {Q : VK} {us : List Value} {vs : List V} (F : FnG X.prog X.w X.K X.mg X.base CX k f fd ps sp) (hgd : X.A.guards = some []) (hr : Room k X.A) (hb : Binds X.K fd ps ds) (hd : Vals dvs ds) (hx : Passes CX X E)
    (I : Inv X pins σ H s) (r : Vals vs us) (h : sp (vs ++ dvs) H Q E) : wpAny (model X.prog X.w) X.A (call (.ref f) us) (EP X pins σ Q) X.xe s := by
  have r2 : Vals (vs ++ dvs) (us ++ ds) := r.append hd
  have hl : (us ++ ds).length = ps.length := r2.length.symm.trans (F.len _ _ _ _ h)
  refine wpAny_call (codeAny_mono (F.run X.A X.stack s H ⟨us, []⟩ _ _ Q E hgd hr I.env0 (hb s us I.kIn hl) r2 h) fun r s' hq => ?_)
  cases r with
  | error z => exact hx pins σ H s z s' I hq
  | ok fl =>
    cases fl with
    | ret u => exact I.after hq
    | next => exact False.elim hq
    | brk => exact False.elim hq
    | cont => exact False.elim hq
/-- f(e, ..) of such a def -/
theorem pe_callG (F : FnG X.prog X.w X.K X.mg X.base CX k f fd ps sp) (hgd : X.A.guards = some []) (hr : Room k X.A) (hg : Gl X x) (hm : X.mg x = some (.ref f)) (hk : PySem.W.keepIn X.K (.ref f) = true) (hb : Binds X.K fd ps ds) (hd : Vals dvs ds) (hx : Passes CX X E)
    (ha : PA X (e :: es) t) (hdb : (x == ("__debug__" : Str)) = false := by decide) (he : starEach (e :: es) X.env = (false, eval e X.env) :: starEach es X.env := by rfl) (hpl : (backTo pos (starEach es X.env)).any (·.1) = false := by rfl) :
    PE X (.Call (.Name x p) (e :: es) [] pos) (tCall sp dvs E t) := by
  refine ⟨fun pins s σ H Q I h => wpAny_Call_Name_kw (ld_glob I hg hm ?_ hdb)⟩
  exact PySem.W.callWith_K (h₀ := X.base) I.ok.mod.kin hk (thn (ha.run pos pins s σ H _ I h) fun us s1 ⟨vs, H1, I1, r, q⟩ => ⟨I1.kIn, run_g F hgd hr hb hd hx I1 r q⟩) he hpl
end

/-! ### the law's end -/
section
variable {P : Program} {w : World} {K : PySem.W.Frag} {mg mb : Str → Option Value} {CX : CXT} {k : Nat} {fa a : Addr} {cs : List (Addr × Addr)} {fd : FuncData} {x : Str} {sp : Sp} {s1 : Shared} {vs : List Value} {ns : List Int}
/-- what is tracked at the law's entry: the tables, the script -/
def Ent (cs : List (Addr × Addr)) (a : Addr) (o : Obj) (ns : List Int) (H : Hp) : Prop :=
  ∀ b u, H b = some u → (b ∈ cs.map (·.2) ∧ u = .tbl #[]) ∨ (b = a ∧ u = .frz o (.lst (ns.map V.int)))
theorem law_core {H : Hp} (KX : K.In s1.heap) (hns : s1.heap.Ns mainGlobals mg) (hb : s1.heap.Ns builtinsNs mb) (hbb : ∀ x : Str, x ≠ "__name__" → mb x = bootBuiltins x) (hlim : s1.heap.NoLimit) (hg : s1.gens = #[])
    (hT : ∀ p ∈ cs, s1.heap.get? p.2 = some { cls := .none, data := .fields #[] }) (nT : ∀ p ∈ cs, K.lookup p.2 = none) (C : ∀ p ∈ cs, PySem.W.CodeHd s1.heap p.1 p.2)
    (hbm : ∃ (bm : Addr) (ob : Obj), mg "__builtins__" = some (.ref bm) ∧ bm ≠ builtinsNs ∧ s1.heap.get? bm = some ob ∧ ob.cls = .type "module" ∧ ob.dict = some builtinsNs ∧ ob.data = .plain)
    (ha : s1.heap.get? a = some { cls := .type "list", data := .seq vs.toArray }) (rv : Vals (ns.map V.int) vs) (hl : ns.length ≤ sizeLine) (hr : Room k callerA)
    (F : ∀ base : Heap, K.In base → base.Ns mainGlobals mg → (∀ p ∈ cs, TabB base mg p.1 p.2) → FnG P w K mg base CX k fa fd [x] sp) (hbind : ∀ (s : Shared) (u : Value), BindsTo s fd ⟨[u], []⟩ [(x, u)])
    (hH : ∀ p ∈ cs, H p.2 = some (.tbl #[])) (ent : Ent cs a { cls := .type "list", data := .seq vs.toArray } ns H) (hKa : H a ≠ none → K.lookup a = none)
    (hsp : sp [.ref a] H (fun v _ => v = .bl true) fun _ _ _ => False) (hCX : ∀ H e s', CX [] H s1 (fun _ _ _ => False) e s' → False) :
    codeAny (model P w) callerA (.call (.ref fa) ⟨[.ref a], []⟩) (fun r s' => r = .ok (.ret (.bool true)) ∧ OldK s1.heap s'.heap ∧ s'.os = s1.os ∧ AllBare s'.gens) s1 := by
  have tabAt : ∀ {b : Addr}, b ∈ cs.map (·.2) → s1.heap.get? b = some { cls := .none, data := .fields #[] } := fun {b} m => by
    obtain ⟨p, hp, rfl⟩ := List.mem_map.mp m
    exact hT p hp
  have hok : HOk P w H s1.heap := fun b u e => by
    rcases ent b u e with ⟨m, rfl⟩ | ⟨rfl, rfl⟩
    · exact tabAt m
    · exact ⟨ha, by rw [List.length_map]; exact hl, vs, _, rv, ha⟩
  -- what is neither a list nor an empty table is not tracked
  have unt : ∀ {b : Addr} {o : Obj}, s1.heap.get? b = some o → o.data ≠ .seq vs.toArray → o.data ≠ .fields #[] → H b = none := fun {b o} e n1 n2 => by
    cases q : H b with
    | none => rfl
    | some u =>
      rcases ent b u q with ⟨m, _⟩ | ⟨z, _⟩
      · rw [tabAt m] at e
        cases e
        exact (n2 rfl).elim
      · rw [z, ha] at e
        cases e
        exact (n1 rfl).elim
  have bs : ∀ {b : Addr} {o : Obj}, s1.heap.get? b = some o → o.data ≠ .seq vs.toArray → o.data ≠ .fields #[] → (hidT s1.heap H).get? b = some o := fun e n1 n2 => hidT_get e (unt e n1 n2)
  have nsB : ∀ {b : Addr} {m : Str → Option Value}, s1.heap.Ns b m → (hidT s1.heap H).Ns b m := fun {b m} ⟨o, es, ep, e, d, r⟩ => ⟨o, es, ep, bs e (by rw [d]; exact fun z => nomatch z) (by rw [d]; exact fun z => nomatch z), d, r⟩
  have hKb : K.In (hidT s1.heap H) := fun b o e => hidT_get (KX b o e) (by
    cases q : H b with
    | none => rfl
    | some u =>
      rcases ent b u q with ⟨m, _⟩ | ⟨z, _⟩
      · obtain ⟨p, hp, rfl⟩ := List.mem_map.mp m
        rw [nT p hp] at e
        cases e
      · subst z
        rw [hKa (by rw [q]; exact fun z => nomatch z)] at e
        cases e)
  have hM : L2.Mod K mg (hidT s1.heap H) := ⟨hKb, nsB hns, ⟨mb, nsB hb, hbb⟩, let ⟨mc, h1, h2⟩ := hlim; ⟨mc, nsB h1, h2⟩⟩
  have TB : ∀ p ∈ cs, TabB (hidT s1.heap H) mg p.1 p.2 := fun p hp => by
    refine ⟨?_, ?_, fun z => ?_⟩
    · obtain ⟨o, us, file, tf, flags, tg, inF, text, tt, e1, r1, r2, r3, rest⟩ := C p hp
      refine ⟨o, us, file, tf, flags, tg, inF, text, tt, bs e1 (by rw [r2]; exact fun z => nomatch z) (fun z => ?_), r1, r2, r3, rest⟩
      rw [r2] at z
      cases z
      simp at r3
    · obtain ⟨bm, ob, b1, b2, b3, b4, b5, b6⟩ := hbm
      refine ⟨bm, ob, b1, b2, fun q => ?_, fun q => ?_, bs b3 (by rw [b6]; exact fun z => nomatch z) (by rw [b6]; exact fun z => nomatch z), b4, b5, b6⟩
      · obtain ⟨o, es, ep, e, hd, _⟩ := hns
        rw [q, e] at b3
        cases b3
        rw [hd] at b6
        cases b6
      · rw [q, hT p hp] at b3
        cases b3
        cases b6
    · obtain ⟨o, es, ep, e, hd, _⟩ := hns
      rw [z, hT p hp] at e
      cases e
      cases hd
  have e0 : Env0 P w K mg (hidT s1.heap H) callerA [] s1 H := ⟨rfl, hM, fun b o e => of_hidT e, Nat.le_of_eq (hidT_size _ _), trivial, (fun b hb => absurd (show b ∈ ([] : List Addr) from hb) List.not_mem_nil), hok, .of_eq hg⟩
  refine codeAny_mono ((F _ hKb (nsB hns) TB).run callerA [] s1 H ⟨[.ref a], []⟩ [.ref a] [.ref a] _ _ rfl hr e0 (hbind s1 (.ref a)) (.cons rfl .nil) hsp) fun r s' h => ?_
  cases r with
  | error z => exact (hCX H z s' h).elim
  | ok fl =>
   cases fl with
   | next => exact False.elim h
   | brk => exact False.elim h
   | cont => exact False.elim h
   | ret u =>
    obtain ⟨v, H', os, bare, un, hok', r', q⟩ := h
    obtain rfl : v = .bl true := q
    obtain rfl : u = Value.bool true := r'
    have kept : ∀ b o, b ∉ cs.map (·.2) → s1.heap.get? b = some o → s'.heap.get? b = some o := fun b o nb e => by
      cases q : H b with
      | none => exact un.keep b o e q (fun z => absurd (show b ∈ ([] : List Addr) from z) List.not_mem_nil) List.not_mem_nil
      | some u =>
        rcases ent b u q with ⟨m, _⟩ | ⟨z, zu⟩
        · exact absurd m nb
        · subst zu
          have e1 := (hok b _ q).1
          have e2 := (hok' b _ (un.frzs b _ _ q)).1
          rw [e] at e1
          rw [e1]
          exact e2
    have tabN : ∀ b, b ∈ cs.map (·.2) → ∃ more : Array Value, s'.heap.get? b = some { cls := .none, data := .fields more } := fun b m => by
      obtain ⟨p, hp, rfl⟩ := List.mem_map.mp m
      obtain ⟨more, z⟩ := un.tbls p.2 #[] (hH p hp)
      exact ⟨_, hok' p.2 _ z⟩
    refine ⟨rfl, ⟨fun b o e => ?_, fun b o e => ?_⟩, os, bare⟩
    · by_cases m : b ∈ cs.map (·.2)
      · obtain ⟨more, hm⟩ := tabN b m
        obtain ⟨p, hp, rfl⟩ := List.mem_map.mp m
        rw [hT p hp] at e
        cases e
        exact .inr (.inl ⟨((C p hp).tab (hT p hp)).isCodeTable, rfl, #[], more, rfl, by rw [Array.empty_append]; exact hm⟩)
      · exact .inl (kept b o m e)
    · by_cases m : b ∈ cs.map (·.2)
      · obtain ⟨more, hm⟩ := tabN b m
        exact ⟨_, hm⟩
      · exact ⟨o, kept b o m e⟩
end
/-- what the law's def must keep, for the end below -/
def LawG (l : PySem.W.OpenLaw) (w : World) (K : PySem.W.Frag) (CX : CXT) (k n : Nat) (x : Str) (mg : Str → Option Value) (fa : Addr) (h : Heap) : Prop :=
  ∃ (fd : FuncData) (cs : List (Addr × Addr)) (sp : Sp), (∀ p ∈ cs, h.get? p.2 = some { cls := .none, data := .fields #[] }) ∧ (∀ p ∈ cs, K.lookup p.2 = none) ∧ (∀ p ∈ cs, PySem.W.CodeHd h p.1 p.2) ∧
    (∀ (s : Shared) (u : Value), BindsTo s fd ⟨[u], []⟩ [(x, u)]) ∧
    (∀ (H : Hp) (a : Addr) (ns : List Int), ns.length ≤ n → (∀ p ∈ cs, H p.2 = some (.tbl #[])) → SqL K H a (ns.map V.int) → sp [.ref a] H (fun v _ => v = .bl true) fun _ _ _ => False) ∧
    ∀ base : Heap, K.In base → base.Ns mainGlobals mg → (∀ p ∈ cs, TabB base mg p.1 p.2) → FnG l.prog w K mg base CX k fa fd [x] sp
theorem walk_g {l : PySem.W.OpenLaw} {n k : Nat} {q : Program} {loose : List Str} {XP : (Str → Option Value) → Heap → Prop} {YP : World → Heap → Prop} {d : DefRec} {CX : World → CXT} {x : Str}
    (hn : l.most = some n) (hn2 : n ≤ sizeLine) (hdf : d.params.defaults = []) (hr : Room k callerA)
    (F : ∀ (w : World) (mg : Str → Option Value) (fa : Addr) (h : Heap), YP w h → h.Ns mainGlobals mg → mg d.name = some (.ref fa) → ∃ K : PySem.W.Frag, K.In h ∧ LawG l w K (CX w) k n x mg fa h)
    (hCX : ∀ (w : World) (H : Hp) (s : Shared) (e : Value) (s' : Shared), CX w [] H s (fun _ _ _ => False) e s' → False) :
    PySem.W.WalkO q loose XP YP l.row.toRowW d [] (fun f vs => PySem.call f vs) := by
  refine Att.attach_callB hn hdf fun w s0 s1 mg mb fa o pm cd doc a vs ns G Y ho hd hcd hmg hobj hints hlen hbits hg => ?_
  obtain ⟨K, KX, fd, cs, sp, hT, nT, C, hb, hsp, hF⟩ := F w mg fa _ Y G.T.g hmg
  have rv := vals_ints hints
  have hl : ns.length ≤ sizeLine := Nat.le_trans hlen hn2
  have nm : ∀ {b : Addr}, b ∈ cs.map (·.2) → b ≠ a := fun {b} m z => by
    obtain ⟨p, hp, rfl⟩ := List.mem_map.mp m
    have e := hT p hp
    rw [z, hobj] at e
    cases e
  cases hk : K.lookup a with
  | some o =>
    have e := KX a o hk
    rw [hobj] at e
    cases e
    let HA : Hp := fun b => if b ∈ cs.map (·.2) then some (.tbl #[]) else none
    have hH : ∀ p ∈ cs, HA p.2 = some (.tbl #[]) := fun p hp => if_pos (List.mem_map.mpr ⟨p, hp, rfl⟩)
    refine law_core (H := HA) KX G.T.g G.T.b G.T.builtins G.T.nolimit hg hT nT C G.T.bmain hobj rv hl hr hF hb hH (fun b u z => ?_) (fun z => absurd (if_neg fun m => nm m rfl) z) (hsp HA a ns hlen hH (.inr ⟨_, vs.toArray, _, hk, rfl, rfl, rfl, by rw [List.size_toArray, hints.length]; exact hl, by simpa using rv⟩)) fun H e s' => hCX w H s1 e s'
    by_cases m : b ∈ cs.map (·.2)
    · exact .inl ⟨m, (Option.some.inj ((if_pos m).symm.trans z)).symm⟩
    · cases (if_neg m).symm.trans z
  | none =>
    let HB : Hp := fun b => if b = a then some (.frz { cls := .type "list", data := .seq vs.toArray } (.lst (ns.map V.int))) else if b ∈ cs.map (·.2) then some (.tbl #[]) else none
    have hH : ∀ p ∈ cs, HB p.2 = some (.tbl #[]) := fun p hp =>
      (if_neg (nm (List.mem_map.mpr ⟨p, hp, rfl⟩))).trans (if_pos (List.mem_map.mpr ⟨p, hp, rfl⟩))
    refine law_core (H := HB) KX G.T.g G.T.b G.T.builtins G.T.nolimit hg hT nT C G.T.bmain hobj rv hl hr hF hb hH (fun b u z => ?_) (fun _ => hk) (hsp HB a ns hlen hH (.inl (.inr ⟨{ cls := .type "list", data := .seq vs.toArray }, if_pos rfl⟩))) fun H e s' => hCX w H s1 e s'
    by_cases e : b = a
    · exact .inr ⟨e, (Option.some.inj ((if_pos e).symm.trans z)).symm⟩
    · have z2 := (if_neg e).symm.trans z
      by_cases m : b ∈ cs.map (·.2)
      · exact .inl ⟨m, (Option.some.inj ((if_pos m).symm.trans z2)).symm⟩
      · cases (if_neg m).symm.trans z2
end Wn
/-! the head's facts, by a Hook of one's own -/
namespace Wn
open PySem PySem.Spec PyProof.Rows L2 LamX He

/-! ### defs wherever they stand -/
def fnO (K : PySem.W.Frag) (a : Addr) : FnW := match K.lookup a with
  | some ⟨_, _, .func fd, _⟩ => some (fd.name, fd.qualname, fd.params, fd.body, fd.scope, fd.globals, fd.closure, fd.builtins)
  | _ => none
/-- one def, by a function that finds it -/
structure DefW where
  find : PySem.W.Frag → Addr
  name : Str
  qual : Str
  st : Stmt
  dfl : List Dv := []
  kwd : List (Str × Dv) := []
def DefW.val (d : DefW) : FnW := some (d.name, d.qual, defArgs d.st, .stmts (defBody d.st), defScope d.st, mainGlobals, [], builtinsNs)
def DefW.dvs (K : PySem.W.Frag) (d : DefW) : List V := d.dfl.map (Dv.v K)
def DefW.kws (K : PySem.W.Frag) (d : DefW) : List (Str × V) := d.kwd.map fun q => (q.1, q.2.v K)
def DefW.ok (K : PySem.W.Frag) (d : DefW) : Bool := PySem.W.keepIn K (.ref (d.find K)) && (match K.lookup (d.find K) with
  | some ⟨_, _, .func fd, _⟩ => PySem.W.codeIn K fd.code d.qual && (dflB K fd.defaults (d.dvs K) && kwdB K fd.kwdefaults (d.kws K))
  | _ => false)
/-- the function object at an address -/
def fdAt (K : PySem.W.Frag) (a : Addr) : FuncData := match K.lookup a with
  | some ⟨_, _, .func fd, _⟩ => fd
  | _ => PySem.W.fnOf "" "" ⟨[], [], none, [], [], none, []⟩ [] ⟨.function, [], false, false, []⟩ .none .none .none .none none .none .none
/-- the def of the statement st stands at a -/
abbrev FD (K : PySem.W.Frag) (x qual : Str) (st : Stmt) (dvs : List V) (kws : List (Str × V)) (a : Addr) : Prop := FunD K x qual (defArgs st) (defBody st) (defScope st) dvs kws a (fdAt K a)
theorem DefW.fd {K : PySem.W.Frag} {d : DefW} (e : fnO K (d.find K) = d.val) (c : d.ok K = true) : FD K d.name d.qual d.st (d.dvs K) (d.kws K) (d.find K) := by
  obtain ⟨kp, c2⟩ := ba c
  unfold fnO at e
  unfold FD fdAt
  cases q : K.lookup (d.find K) with
  | none =>
    rw [q] at c2
    cases c2
  | some o =>
    obtain ⟨oc, od, dt, osl⟩ := o
    rw [q] at c2 e
    cases dt with
    | func fd =>
      obtain ⟨n1, n2, n3, n4, n5, n6, n7, n8, n9, n10, n11, n12, n13, n14, n15⟩ := fd
      have e2 : (some (n1, n2, n3, n4, n5, n6, n7, n15) : FnW) = some (d.name, d.qual, defArgs d.st, .stmts (defBody d.st), defScope d.st, mainGlobals, [], builtinsNs) := e
      simp only [Option.some.injEq, Prod.mk.injEq] at e2
      obtain ⟨h1, h2, h3, h4, h5, h6, h7, h8⟩ := e2
      subst h1 h2 h3 h4 h5 h6 h7 h8
      obtain ⟨k1, k2⟩ := ba (show (PySem.W.codeIn K n13 d.qual && (dflB K n8 (d.dvs K) && kwdB K n9 (d.kws K))) = true from c2)
      obtain ⟨k3, k4⟩ := ba k2
      exact ⟨⟨oc, od, n8, n9, n10, n11, n12, n13, n14, osl, rfl, q, k1, dflB_ok k3, kwdB_ok k4⟩, kp⟩
    | _ => cases c2

/-! ### where things stand -/
/-- a method's def; a property's getter; a classmethod's def -/
def mA (C m : Str) (K : PySem.W.Frag) : Addr := ma K (ga K C) m
def pA (C m : Str) (K : PySem.W.Frag) : Addr := match PySem.W.recIn K (mA C m K) "property" with
  | some (.ref g :: _) => g
  | _ => 0
def kA (C m : Str) (K : PySem.W.Frag) : Addr := match PySem.W.recIn K (mA C m K) "classmethod" with
  | some (.ref g :: _) => g
  | _ => 0
def gA (x : Str) (K : PySem.W.Frag) : Addr := ga K x

/-! ### facts -/
inductive Fc where
  | fa (f : Fa)
  | prop (C f : Str)
  | exc (C : Str) (bm : List Value) (nw : String) (fs : List Str)
  | cval (C f : Str) (v : Dv)
  | isc (C T : Str) (b : Bool)
  | mro (C : Str)
  | ins (C : Str)
  | sub (C : Str) (T : String) (b : Bool)
  | tup (x : Str) (vs : List Dv)
  | bmt (C m : Str)
def clsRd (K : PySem.W.Frag) (C : Addr) : Bool := PySem.W.readsIn K C (.type "type") && eqO (PySem.W.specialIn K (.ref C) "__getattribute__") (some (some (.builtin "type.__getattribute__")))
def cvalB (K : PySem.W.Frag) (C : Addr) (f : Str) (v : V) : Bool := match PySem.W.findCls K (.ref C) (.type "type") f with
  | some (.val u) => relB v u
  | _ => false
/-- an instance of C is asked for its class in the plain way -/
def insB (K : PySem.W.Frag) (C : Addr) : Bool := eqO (PySem.W.findIn K (.ref C) "__class__") (some (some (.builtin "object.__class__")))
def Fc.ok (K : PySem.W.Frag) : Fc → Bool
  | .fa f => f.ok K
  | .prop C f => eqO (PySem.W.findIn K (.ref (ga K C)) f) (some (some (.ref (mA C f K)))) && (eqO (PySem.W.specialIn K (.ref (mA C f K)) "__get__") (some (some (.builtin "property.__get__"))) &&
      (decide (PySem.W.takesIn K (.ref (mA C f K)) = some true) && (match PySem.W.recIn K (mA C f K) "property" with
        | some (.ref _ :: _) => true
        | _ => false)))
  | .exc C bm nw fs => PySem.W.excInitIn K (ga K C) bm nw && (PySem.W.excOver K (ga K C) bm && (PySem.W.hasDictIn K (ga K C) && (eqO (PySem.W.findIn K (.ref (ga K C)) "__setattr__") (some (some (.builtin "object.__setattr__"))) &&
      (decide (PySem.W.subIn K (.ref (ga K C)) (.type "BaseException") = some true) && (decide (PySem.W.typeIn K (.ref (ga K C)) = some (.type "type")) && (PySem.W.keepIn K (.ref (ga K C)) &&
      (eqO (PySem.W.findIn K (.ref (ga K C)) "__init__") (some (some (.ref (mA C "__init__" K)))) && (decide (PySem.W.typeIn K (.ref (mA C "__init__" K)) = some (.type "function")) && (xfB K (ga K C) &&
      (fs.all (fun f => eqO (PySem.W.findIn K (.ref (ga K C)) f) (some none)) && eqO (PySem.W.findIn K (.ref (ga K C)) "__class__") (some (some (.builtin "object.__class__")))))))))))))
  | .cval C f v => clsRd K (ga K C) && cvalB K (ga K C) f (v.v K)
  | .isc C T b => decide (PySem.W.kitOne K (.ref (ga K C)) (.ref (ga K T)) = some b)
  | .mro C => decide (PySem.W.mroIn K (ga K C) (.type "object") = some true)
  | .ins C => insB K (ga K C)
  | .sub C T b => decide (PySem.W.kitOne K (.ref (ga K C)) (.type T) = some b)
  | .tup x vs => tupB K x vs
  | .bmt C m => eqO (PySem.W.specialIn K (.ref (mA C m K)) "__get__") (some (some (.builtin "function.__get__"))) && (decide (PySem.W.takesIn K (.ref (mA C m K)) = some false) && PySem.W.fnIn K (mA C m K))

/-! ### the Hook -/
/-- what is looked at: what the module's names reach in n steps, and the statics -/
def refsB (g : Addr → Option Obj) (a : Addr) : List Addr := match g a with
  | some o => refsD o
  | none => []
/-- what is new among them, told by the bits of m -/
def seeB : List Addr → Nat → List Addr → (Nat → List Addr → List Addr) → List Addr
  | [], m, l, k => k m l
  | a :: r, m, l, k => match Nat.beq (Nat.land (Nat.shiftRight m a) 1) 1 with
    | true => seeB r m l k
    | false => HandSHeadRun.frNat (Nat.lor m (Nat.shiftLeft 1 a)) fun m => seeB r m (a :: l) k
def growB (g : Addr → Option Obj) : Nat → Nat → List Addr → List Addr → List Addr
  | 0, _, _, all => all
  | n + 1, m, front, all => seeB (front.flatMap (refsB g)) m [] fun m new => growB g n m new (all ++ new)
def asW (g : Addr → Option Obj) (n : Nat) : List Addr := growB g n (Nat.lor (Nat.shiftLeft 1 mainGlobals) (Nat.shiftLeft 1 cStatics)) [mainGlobals] [mainGlobals, cStatics]
structure SaysW (fc : List Fc) (fw : List DefW) (ts : List Tab) (tf : List Defn) (w : World) (h : Heap) (K : PySem.W.Frag) : Prop where
  x : SaysX [] [] ts tf (fun K => fc.all fun f => f.ok K) w h K
  d : ∀ d ∈ fw, FD K d.name d.qual d.st (d.dvs K) (d.kws K) (d.find K)
theorem SaysW.fact {fc : List Fc} {fw : List DefW} {ts : List Tab} {tf : List Defn} {w : World} {h : Heap} {K : PySem.W.Frag} (c : SaysW fc fw ts tf w h K) (i : Nat) {f : Fc} (e : fc[i]? = some f := by rfl) : f.ok K = true :=
  List.all_eq_true.mp c.x.more f (List.mem_of_getElem? e)
theorem SaysW.def_ {fc : List Fc} {fw : List DefW} {ts : List Tab} {tf : List Defn} {w : World} {h : Heap} {K : PySem.W.Frag} (c : SaysW fc fw ts tf w h K) (i : Nat) {d : DefW} (e : fw[i]? = some d := by rfl) :
    FD K d.name d.qual d.st (d.dvs K) (d.kws K) (d.find K) := c.d d (List.mem_of_getElem? e)
abbrev AlW : Type := AlX × (Bool × List FnW)
def obsK (fc : List Fc) (fw : List DefW) (ts : List Tab) (tf : List Defn) (g : Addr → Option Obj) (K : PySem.W.Frag) : AlW :=
  ((obsT [] [] ts K, (fc.all fun f => f.ok K) && tabsB g tf K), (fw.all fun d => d.ok K, fw.map fun d => fnO K (d.find K)))
def obsW (n : Nat) (fc : List Fc) (fw : List DefW) (ts : List Tab) (tf : List Defn) (g : Addr → Option Obj) : AlW := obsK fc fw ts tf g (frT g (asW g n))
def valW (fw : List DefW) (ts : List Tab) (w : World) : AlW := (valX [] ts w, (true, fw.map DefW.val))
theorem saysW_of {n : Nat} {fc : List Fc} {fw : List DefW} {ts : List Tab} {tf : List Defn} {w : World} {h : Heap} (e : obsW n fc fw ts tf h.get? = valW fw ts w) : SaysW fc fw ts tf w h (frT h.get? (asW h.get? n)) := by
  unfold obsW at e
  generalize eK : frT h.get? (asW h.get? n) = K at e
  have out : ∀ {a : Addr} {o : Obj}, h.get? a = some o → emptyTab o = true → K.lookup a = none := fun {a o} q z => by rw [← eK]; exact frT_none q z
  have t1 : obsT [] [] ts K = valT [] ts w := congrArg (fun z : AlW => z.1.1) e
  have t2 : ((fc.all fun f => f.ok K) && tabsB h.get? tf K) = true := congrArg (fun z : AlW => z.1.2) e
  have e1 : (fw.all fun d => d.ok K) = true := congrArg (fun z : AlW => z.2.1) e
  have e2 : (fw.map fun d => fnO K (d.find K)) = fw.map DefW.val := congrArg (fun z : AlW => z.2.2) e
  obtain ⟨t3, t4⟩ := ba t2
  have key : ∀ p ∈ tf, PySem.W.codeHdIn K (cT K p).1 (cT K p).2 = true ∧ ∃ o, h.get? (cT K p).2 = some o ∧ emptyTab o = true := fun p hp => by
    obtain ⟨y1, y2⟩ := ba (List.all_eq_true.mp t4 p hp)
    refine ⟨y1, ?_⟩
    cases q : h.get? (cT K p).2 with
    | none =>
      rw [q] at y2
      cases y2
    | some o =>
      rw [q] at y2
      exact ⟨o, rfl, y2⟩
  refine ⟨⟨t1, t3, fun p hp => (key p hp).1, fun p hp => ?_, fun p hp => ?_⟩, fun d hd => ?_⟩
  · obtain ⟨_, o, q, z⟩ := key p hp
    exact out q z
  · obtain ⟨_, o, q, z⟩ := key p hp
    rw [q, emptyTab_eq z]
  · obtain ⟨i, hi, ei⟩ := List.mem_iff_getElem.mp hd
    have h3 : fw[i]? = some d := by rw [List.getElem?_eq_getElem hi, ei]
    have e3 : (fw.map fun d => fnO K (d.find K))[i]? = (fw.map DefW.val)[i]? := by rw [e2]
    rw [List.getElem?_map, List.getElem?_map, h3] at e3
    exact DefW.fd (Option.some.inj e3) (List.all_eq_true.mp e1 d hd)
def hookW (n : Nat) (fc : List Fc) (fw : List DefW) (ts : List Tab) (tf : List Defn) : PySem.W.Hook where
  α := AlW
  obs := fun s => obsW n fc fw ts tf s.heap.get?
  val := fun w => valW fw ts w
  says := fun w h => ∃ K : PySem.W.Frag, K.In h ∧ SaysW fc fw ts tf w h K
  of := fun _ _ e => ⟨_, frT_in, saysW_of e⟩
  keeps := fun _ _ _ ⟨K, hK, c⟩ k => ⟨K, PySem.W.Frag.In.keeps hK k, ⟨⟨c.x.t, c.x.more, c.x.hd, c.x.out, fun p hp => k _ _ (c.x.empty p hp)⟩, c.d⟩⟩
theorem obsW_eq {n : Nat} {fc : List Fc} {fw : List DefW} {ts : List Tab} {tf : List Defn} {g : Addr → Option Obj} {s : Shared} (h : ∀ a, g a = s.heap.get? a) : obsW n fc fw ts tf g = (hookW n fc fw ts tf).obs s := by
  have e : g = s.heap.get? := funext h
  rw [e] <;> rfl

/-! ### what the facts say -/
section
variable {K : PySem.W.Frag} {h : Heap} {mg : Str → Option Value}
theorem bm_ok {C f : Str} (c : (Fc.bmt C f).ok K = true) : PySem.W.specialIn K (.ref (mA C f K)) "__get__" = some (some (.builtin "function.__get__")) ∧ PySem.W.takesIn K (.ref (mA C f K)) = some false ∧ PySem.W.fnIn K (mA C f K) = true := by
  obtain ⟨h1, c⟩ := ba c
  obtain ⟨h2, h3⟩ := ba c
  exact ⟨eqO_ok h1, of_decide_eq_true h2, h3⟩
theorem prop_ok {C f : Str} (c : (Fc.prop C f).ok K = true) : PropOf K (ga K C) f (mA C f K) (pA C f K) := by
  obtain ⟨h1, c⟩ := ba c
  obtain ⟨h2, c⟩ := ba c
  obtain ⟨h3, h4⟩ := ba c
  refine ⟨eqO_ok h1, eqO_ok h2, of_decide_eq_true h3, ?_⟩
  unfold pA
  cases q : PySem.W.recIn K (mA C f K) "property" with
  | none =>
    rw [q] at h4
    cases h4
  | some l =>
    rw [q] at h4
    cases l with
    | nil => cases h4
    | cons v r =>
      cases v with
      | ref g => exact ⟨r, rfl⟩
      | _ => cases h4
/-- an own error class: what is raised, what its fields need -/
structure XT (K : PySem.W.Frag) (C : Str) (B nw it : String) (bm : List Value) (fs : List Str) : Prop where
  xc : XC K (ga K C) B nw it bm
  ini : PySem.W.findIn K (.ref (ga K C)) "__init__" = some (some (.ref (mA C "__init__" K)))
  fn : PySem.W.typeIn K (.ref (mA C "__init__" K)) = some (.type "function")
  xf : XfC K (ga K C)
  no : ∀ f ∈ fs, PySem.W.findIn K (.ref (ga K C)) f = some none
  cl : PySem.W.findIn K (.ref (ga K C)) "__class__" = some (some (.builtin "object.__class__"))
theorem exc_okW {C : Str} {B nw it : String} {bm : List Value} {fs : List Str} (bf : ExcBaseFacts B nw it bm) (sf : StoreFacts B bm "object.__setattr__" "object") (c : (Fc.exc C bm nw fs).ok K = true) : XT K C B nw it bm fs := by
  obtain ⟨h1, c⟩ := ba c
  obtain ⟨h2, c⟩ := ba c
  obtain ⟨h3, c⟩ := ba c
  obtain ⟨h4, c⟩ := ba c
  obtain ⟨h5, c⟩ := ba c
  obtain ⟨h6, c⟩ := ba c
  obtain ⟨h7, c⟩ := ba c
  obtain ⟨h8, c⟩ := ba c
  obtain ⟨h9, c⟩ := ba c
  obtain ⟨h10, c⟩ := ba c
  obtain ⟨h11, h12⟩ := ba c
  exact ⟨⟨bf, sf, h1, h2, h3, eqO_ok h4, of_decide_eq_true h5, of_decide_eq_true h6, h7⟩, eqO_ok h8, of_decide_eq_true h9, xfB_ok h10, fun f hf => eqO_ok (List.all_eq_true.mp h11 f hf), eqO_ok h12⟩
theorem cval_ok {C f : Str} {v : Dv} (c : (Fc.cval C f v).ok K = true) : ClX.CRead K (ga K C) (.type "type") ∧ ∃ u, ClX.CVal K (ga K C) (.type "type") f (v.v K) u := by
  obtain ⟨h1, h2⟩ := ba c
  obtain ⟨h3, h4⟩ := ba h1
  refine ⟨⟨h3, eqO_ok h4⟩, ?_⟩
  unfold cvalB at h2
  cases q : PySem.W.findCls K (.ref (ga K C)) (.type "type") f with
  | none =>
    rw [q] at h2
    cases h2
  | some r =>
    rw [q] at h2
    cases r with
    | val u => exact ⟨u, q, relB_ok h2⟩
    | _ => cases h2
end
end Wn
/-! isinstance of a caught error that has a dict of its own -/
namespace Wn
open PySem PySem.Spec PyProof.Rows L2 LamX He
theorem cls_get (K : PySem.W.Frag) : PySem.W.specialIn K (.builtin "object.__class__") "__get__" = some (some (.builtin "getset_descriptor.__get__")) := by
  first | rfl | kernel_rfl
theorem cls_tak (K : PySem.W.Frag) : PySem.W.takesIn K (.builtin "object.__class__") = some true := by
  first | rfl | kernel_rfl
end Wn
/-! the head's run in parts: each part is a theorem of its own, so that the kernel lets go of one ahead of the next -/
namespace Wn
open PySem PySem.Spec PyProof.Rows L2 LamX He
noncomputable section
/-- the state behind the top -/
def runA (r : PySem.W.OpenRow) (M : Nat) (w : World) (os : OsState) : Option PySem.W.SharedT := HandSHeadRun.endF (HandSHeadRun.stepQ (HandSHeadRun.denQ HandSHeadRun.tabQ) r.prog w) M r.prog w os
def RunP (r : PySem.W.OpenRow) (M : Nat) {α : Type} (f : World → PySem.W.SharedT → α) (v : World → α) : Prop := ∀ (w : World) (os : OsState), (runA r M w os).map (f w) = some (v w)
def lookP (r : PySem.W.OpenRow) (w : World) (s : PySem.W.SharedT) : Bool := HandSHeadRun.looksF r.prog (PySem.W.boot_heap w.params) s.abs
def seenP (r : PySem.W.OpenRow) (q : Program) (loose : List PySem.Str) (_ : World) (s : PySem.W.SharedT) := HandSHeadRun.seenQ q loose (PySem.importedModules r.prog.main.body) (fun s => PySem.W.xlAt q [] s && PySem.W.recOk r.toRowW.records s) s.abs
section
variable {r : PySem.W.OpenRow} {M : Nat} {α β : Type} {f : World → PySem.W.SharedT → α} {v : World → α} {g : World → PySem.W.SharedT → β} {u : World → β}
theorem RunP.pair (h1 : RunP r M f v) (h2 : RunP r M g u) : RunP r M (fun w s => (f w s, g w s)) (fun w => (v w, u w)) := fun w os => by
  have a := h1 w os
  have b := h2 w os
  cases e : runA r M w os with
  | none => rw [e] at a; cases a
  | some s =>
    rw [e] at a b
    have a := Option.some.inj a
    have b := Option.some.inj b
    exact congrArg some (Prod.ext a b)
theorem RunP.map (h : RunP r M f v) (k : World → α → β) : RunP r M (fun w s => k w (f w s)) (fun w => k w (v w)) := fun w os => by
  have a := h w os
  cases e : runA r M w os with
  | none => rw [e] at a; cases a
  | some s =>
    rw [e] at a
    exact congrArg some (congrArg (k w) (Option.some.inj a))
theorem RunP.and {f g : World → PySem.W.SharedT → Bool} (h1 : RunP r M f fun _ => true) (h2 : RunP r M g fun _ => true) : RunP r M (fun w s => f w s && g w s) fun _ => true := (h1.pair h2).map fun _ p => p.1 && p.2
theorem RunP.congr {f' : World → PySem.W.SharedT → α} {v' : World → α} (h : RunP r M f v) (e : ∀ w s, f w s = f' w s) (e2 : ∀ w, v w = v' w) : RunP r M f' v' := by
  have : f = f' := funext fun w => funext fun s => e w s
  have z : v = v' := funext e2
  rw [← this, ← z]
  exact h
theorem run_of {q : Program} {H : PySem.W.Hook} {ob : PySem.W.SharedT → H.α} {loose : List PySem.Str} (h1 : RunP r M (lookP r) fun _ => true) (h2 : RunP r M (seenP r q loose) fun _ => PySem.W.openGood q loose) (h3 : RunP r M (fun _ s => ob s) H.val) (w : World) : HandSHeadRun.RunEq r q H ob M loose w := fun os => (h1.pair (h2.pair h3)) w os
end
/-! the Hook in parts -/
/-- what is known of the heap -/
def obK (n : Nat) (s : PySem.W.SharedT) : PySem.W.Frag := frT (HandSHeadRun.getT s) (asW (HandSHeadRun.getT s) n)
def fcP (n : Nat) (fc : List Fc) (_ : World) (s : PySem.W.SharedT) : Bool := fc.all fun f => f.ok (obK n s)
def fwP (n : Nat) (fw : List DefW) (_ : World) (s : PySem.W.SharedT) : Bool × List FnW := (fw.all fun d => d.ok (obK n s), fw.map fun d => fnO (obK n s) (d.find (obK n s)))
def tbP (n : Nat) (ts : List Tab) (tf : List Defn) (_ : World) (s : PySem.W.SharedT) := (obsT [] [] ts (obK n s), tabsB (HandSHeadRun.getT s) tf (obK n s))
section
variable {r : PySem.W.OpenRow} {M n : Nat} {fc : List Fc} {fw : List DefW} {ts : List Tab} {tf : List Defn}
theorem all_cut {α : Type} (p : α → Bool) (k : Nat) (l : List α) : ((l.take k).all p && (l.drop k).all p) = l.all p := by
  rw [← List.all_append, List.take_append_drop]
theorem fc_cut (k : Nat) (h1 : RunP r M (fcP n (fc.take k)) fun _ => true) (h2 : RunP r M (fcP n (fc.drop k)) fun _ => true) : RunP r M (fcP n fc) fun _ => true := (h1.and h2).congr (fun _ _ => all_cut _ k fc) fun _ => rfl
theorem fw_cut (k : Nat) (h1 : RunP r M (fwP n (fw.take k)) fun _ => (true, (fw.take k).map DefW.val)) (h2 : RunP r M (fwP n (fw.drop k)) fun _ => (true, (fw.drop k).map DefW.val)) : RunP r M (fwP n fw) fun _ => (true, fw.map DefW.val) :=
  ((h1.pair h2).map fun _ p => (p.1.1 && p.2.1, p.1.2 ++ p.2.2)).congr (fun _ s => Prod.ext (all_cut _ k fw) (by
    show (fw.take k).map _ ++ (fw.drop k).map _ = fw.map _
    rw [← List.map_append, List.take_append_drop])) fun _ => Prod.ext rfl (by
    show (fw.take k).map _ ++ (fw.drop k).map _ = fw.map _
    rw [← List.map_append, List.take_append_drop])
theorem ob_of (h1 : RunP r M (tbP n ts tf) fun w => (valT [] ts w, true)) (h2 : RunP r M (fcP n fc) fun _ => true) (h3 : RunP r M (fwP n fw) fun _ => (true, fw.map DefW.val)) : RunP r M (fun _ s => obsW n fc fw ts tf (HandSHeadRun.getT s)) (hookW n fc fw ts tf).val :=
  ((h1.pair (h2.pair h3)).map fun _ p => ((p.1.1, p.2.1 && p.1.2), p.2.2)).congr (fun _ _ => rfl) fun _ => rfl
end
end
end Wn
/-! several clauses 'except x as n' of one name -/
namespace Wn
open PySem PySem.Spec PyProof.Rows L2 LamX He
/-- the ends, with the clause's name gone -/
def gone (i : Nat) (D : Ends) : Ends := { nx := fun σ H => D.nx (σ.set i none) H, rt := D.rt, bk := fun σ H => D.bk (σ.set i none) H, ct := fun σ H => D.ct (σ.set i none) H }
section
variable {X : Cx} {body : List Stmt} {h₀ : ExceptHandler} {hds : List ExceptHandler} {l : List Clause} {pos : Pos} {tb : WX → TS} {Wout : WX} {i : Nat} {n : Str}
end
end Wn
/-! raise C(e) where C's __init__ stores a caption and one field -/
namespace Wn
open PySem PySem.Spec PyProof.Rows L2 LamX He

def spErr (C : Addr) (f cap : Str) : Sp := fun vs H Q _ => ∃ (a : Addr) (v : V), vs = [.ref a, v] ∧ H a = some (exo a C none) ∧ ∀ dx, H dx = none → dx ≠ a →
  Q .non (upd (upd (upd H dx (exd dx [("caption", .str cap)])) a (exo a C (some dx))) dx (exd dx [(f, v), ("caption", .str cap)]))
def spErr0 (C : Addr) (cap : Str) : Sp := fun vs H Q _ => ∃ (a : Addr), vs = [.ref a] ∧ H a = some (exo a C none) ∧ ∀ dx, H dx = none → dx ≠ a →
  Q .non (upd (upd H dx (exd dx [("caption", .str cap)])) a (exo a C (some dx)))
/-- raise C(e): for every new d the way out, d the error's own dict -/
def tErr (C : Addr) (f cap : Str) (te : TE) : L2.St → Hp → XK → Prop := fun σ H Q => te σ H fun v H1 => ∀ d, H1 d = none → Q (.ref C) (some d) (upd H1 d (.xd [(f, v), ("caption", .str cap)]))
def tErr0 (C : Addr) (cap : Str) : L2.St → Hp → XK → Prop := fun _ H Q => ∀ d, H d = none → Q (.ref C) (some d) (upd H d (.xd [("caption", .str cap)]))
theorem err_heap {H : Hp} {a d C : Addr} {f1 f2 fs : List (Str × V)} (ha : H a = none) (ne : d ≠ a) :
    upd (del (upd (upd (upd (upd H a (exo a C none)) d (exd d f1)) a (exo a C (some d))) d (exd d f2)) a) d (.xd fs) = upd H d (.xd fs) := by
  funext b
  by_cases h1 : b = d
  · subst h1
    rw [upd_same, upd_same]
  · rw [upd_ne h1, upd_ne h1]
    by_cases h2 : b = a
    · subst h2
      rw [del_same, ha]
    · rw [del_ne h2, upd_ne h1, upd_ne h2, upd_ne h1, upd_ne h2]
theorem err_heap0 {H : Hp} {a d C : Addr} {f1 fs : List (Str × V)} (ha : H a = none) (ne : d ≠ a) :
    upd (del (upd (upd (upd H a (exo a C none)) d (exd d f1)) a (exo a C (some d))) a) d (.xd fs) = upd H d (.xd fs) := by
  funext b
  by_cases h1 : b = d
  · subst h1
    rw [upd_same, upd_same]
  · rw [upd_ne h1, upd_ne h1]
    by_cases h2 : b = a
    · subst h2
      rw [del_same, ha]
    · rw [del_ne h2, upd_ne h2, upd_ne h1, upd_ne h2]
section
variable {X : Cx} {e : Expr} {te : TE} {f cap : Str} {p pos : Pos} {CX : CXT} {x C : Str} {k : Nat} {fd : FuncData} {B nw it : String} {bm : List Value} {fs : List Str}
/-- what is wanted behind one argument -/
def one1 (R : V → Hp → Prop) : List V → Hp → Prop := fun vs H => match vs with
  | [v] => R v H
  | _ => False
theorem pmk_err (T : XT X.K C B nw it bm fs) (F1 : FnOk X.prog X.w X.K X.mg X.base CX k (mA C "__init__" X.K) fd ["self", f] (spErr (ga X.K C) f cap)) (hr : Room (k + 1) X.A) (hb : Binds X.K fd ["self", f] []) (hx : Passes CX X (fun _ _ _ => False))
    (hg : Gl X x) (hm : X.mg x = some (.ref (ga X.K C))) (he : PE X e te) (hdb : (x == ("__debug__" : Str)) = false := by decide) (hst : starEach [e] X.env = [(false, eval e X.env)] := by rfl) :
    PMk X (.Call (.Name x p) [e] [] pos) (tErr (ga X.K C) f cap te) := by
  intro pins s σ H Q I h
  refine wpAny_Call_Name_kw (ld_glob I hg hm ?_ hdb)
  refine PySem.W.callWith_K (h₀ := X.base) I.ok.mod.kin T.xc.kC (thn ((pa_cons he pa_nil hst).run pos pins s σ H (one1 fun v H1 => ∀ d, H1 d = none → Q (.ref (ga X.K C)) (some d) (upd H1 d (.xd [(f, v), ("caption", .str cap)]))) I h) fun us s1 ⟨vs, H1, I1, r1, q1⟩ => ⟨I1.kIn, ?_⟩) hst rfl
  match vs, r1, q1 with
  | [v], r1, q1 =>
    refine xm_run T.xc T.ini T.fn F1 hr hb hx I1 r1 (by show 1 ≤ 1000; decide) fun a ha => ⟨a, v, rfl, upd_same, fun dx hd ne => ⟨rfl, dx, [(f, v), ("caption", .str cap)], ?_, upd_same, ?_, ?_⟩⟩
    · rw [upd_ne (Ne.symm ne), upd_same]
    · rw [upd_ne ne] at hd
      exact hd
    · rw [err_heap ha ne]
      rw [upd_ne ne] at hd
      exact q1 dx hd
theorem pmk_err0 (T : XT X.K C B nw it bm fs) (F1 : FnOk X.prog X.w X.K X.mg X.base CX k (mA C "__init__" X.K) fd ["self"] (spErr0 (ga X.K C) cap)) (hr : Room (k + 1) X.A) (hb : Binds X.K fd ["self"] []) (hx : Passes CX X (fun _ _ _ => False))
    (hg : Gl X x) (hm : X.mg x = some (.ref (ga X.K C))) (hdb : (x == ("__debug__" : Str)) = false := by decide) : PMk X (.Call (.Name x p) [] [] pos) (tErr0 (ga X.K C) cap) := by
  intro pins s σ H Q I h
  refine wpAny_Call_Name_kw (ld_glob I hg hm ?_ hdb)
  refine PySem.W.callWith_K0 I.kIn T.xc.kC ?_
  refine xm_run (us := []) (vs := []) T.xc T.ini T.fn F1 hr hb hx I .nil (by decide) fun a ha => ⟨a, rfl, upd_same, fun dx hd ne => ⟨rfl, dx, [("caption", .str cap)], upd_same, ?_, ?_, ?_⟩⟩
  · rw [upd_ne ne, upd_same]
  · rw [upd_ne ne] at hd
    exact hd
  · rw [err_heap0 ha ne]
    rw [upd_ne ne] at hd
    exact h dx hd
/-- an error's __init__ keeps its promise -/
theorem err_init {P : Program} {w : World} {K : PySem.W.Frag} {mg : Str → Option Value} {base : Heap} {st : Stmt} {p1 p2 p3 p4 p5 p6 p7 p8 : Pos} {j : Nat} (T : XT K C B nw it bm fs) (F : FD K "__init__" cap st [] [] (mA C "__init__" K)) (S : FnScope ["self", f] ["self", f] (defScope st))
    (hbd : defBody st = [.Assign [.Attribute (.Name "self" p1) "caption" p2] (.Constant (.str x) j p3) p4, .Assign [.Attribute (.Name "self" p5) f p6] (.Name f p7) p8])
    (h1 : (("caption" : Str) ∈ fs) ∧ f ∈ fs) (hn : (f == ("__debug__" : Str)) = false ∧ (f == ("__classdict__" : Str)) = false)
    (hs : ∀ env : Env, swapsWith (.Constant (.str x) j p3) (some (.Attribute (.Name "self" p1) "caption" p2)) p4.line env = pure false ∧ swapsWith (.Name f p7) (some (.Attribute (.Name "self" p5) f p6)) p8.line env = pure false)
    (hv : Vis (defScope st) "self" ∧ Vis (defScope st) f) :
    FnOk P w K mg base CX0 1 (mA C "__init__" K) (fdAt K (mA C "__init__" K)) ["self", f] (spErr (ga K C) f x) := by
  refine FunD.ok F S (fun vs H Q E h => ?_) (fun cdv A outer s H vs Q E hr h => ?_)
  · obtain ⟨a, v, rfl, _⟩ := h
    rfl
  · obtain ⟨a, v, rfl, ha, k⟩ := h
    rw [hbd]
    refine ⟨_, pss_cons (ps_xs (pe_var (i := 0) rfl hv.1) pe_str (hs _).1) (pss_one (ps_xs (pe_var (i := 0) rfl hv.1) (pe_var (i := 1) rfl hv.2 hn.1 hn.2) (hs _).2)), ?_⟩
    refine ⟨_, rfl, a, ga K C, B, nw, it, bm, rfl, T.xc, T.no _ h1.1, .inl ⟨ha, fun dx hd ne => ?_⟩⟩
    refine ⟨_, rfl, _, rfl, a, ga K C, B, nw, it, bm, rfl, T.xc, T.no _ h1.2, .inr ⟨dx, [("caption", .str x)], upd_same, ?_, (by show 1 ≤ 900; decide), ?_⟩⟩
    · rw [upd_ne ne, upd_same]
    · exact k dx hd ne
theorem err_init0 {P : Program} {w : World} {K : PySem.W.Frag} {mg : Str → Option Value} {base : Heap} {st : Stmt} {p1 p2 p3 p4 : Pos} {j : Nat} (T : XT K C B nw it bm fs) (F : FD K "__init__" cap st [] [] (mA C "__init__" K)) (S : FnScope ["self"] ["self"] (defScope st))
    (hbd : defBody st = [.Assign [.Attribute (.Name "self" p1) "caption" p2] (.Constant (.str x) j p3) p4])
    (h1 : ("caption" : Str) ∈ fs)
    (hs : ∀ env : Env, swapsWith (.Constant (.str x) j p3) (some (.Attribute (.Name "self" p1) "caption" p2)) p4.line env = pure false)
    (hv : Vis (defScope st) "self") :
    FnOk P w K mg base CX0 1 (mA C "__init__" K) (fdAt K (mA C "__init__" K)) ["self"] (spErr0 (ga K C) x) := by
  refine FunD.ok F S (fun vs H Q E h => ?_) (fun cdv A outer s H vs Q E hr h => ?_)
  · obtain ⟨a, rfl, _⟩ := h
    rfl
  · obtain ⟨a, rfl, ha, k⟩ := h
    rw [hbd]
    refine ⟨_, pss_one (ps_xs (pe_var (i := 0) rfl hv) pe_str (hs _)), ?_⟩
    exact ⟨_, rfl, a, ga K C, B, nw, it, bm, rfl, T.xc, T.no _ h1, .inl ⟨ha, fun dx hd ne => k dx hd ne⟩⟩
end
end Wn
/-! sorted(xs, key=f): f is called as a def of the text is -/
namespace Wn
open PySem PySem.Spec PyProof.Rows L2 LamX PySem.W

theorem Same.sqt {K : PySem.W.Frag} {H H' : Hp} {a : Addr} {xs : List V} (e : Same H H') (h : SqT K H a xs) : SqT K H' a xs := by
  rcases h with (h | ⟨o, h⟩) | h
  · exact .inl (.inl (e _ _ h))
  · exact .inl (.inr ⟨o, e _ _ h⟩)
  · exact .inr h
mutual
theorem Dp.same {K : PySem.W.Frag} {H H' : Hp} (e : Same H H') : ∀ (d : PyData) (v : V), Dp K H v d → Dp K H' v d
  | .none, _, h => by cases h; exact .non
  | .bool b, _, h => by cases h; exact .bl b
  | .int i, _, h => by cases h; exact .int i
  | .str x, _, h => by cases h; exact .str x
  | .list ds, _, h => by cases h with | lst hs ha => exact .lst (e.seq hs) (DpAll.same e ds _ ha)
  | .tuple ds, _, h => by cases h with | tup hs ha => exact .tup (Same.sqt e hs) (DpAll.same e ds _ ha)
  | .dict kvs, _, h => by cases h
theorem DpAll.same {K : PySem.W.Frag} {H H' : Hp} (e : Same H H') : ∀ (ds : List PyData) (vs : List V), DpAll K H vs ds → DpAll K H' vs ds
  | [], _, h => by cases h; exact .nil
  | d :: ds, _, h => by cases h with | cons h1 h2 => exact .cons (Dp.same e d _ h1) (DpAll.same e ds _ h2)
end

theorem dpLen {K : PySem.W.Frag} {H : Hp} : ∀ {vs : List V} {ds : List PyData}, DpAll K H vs ds → vs.length = ds.length
  | _, _, .nil => rfl
  | _, _, .cons _ t => congrArg Nat.succ (dpLen t)
theorem dpApp {K : PySem.W.Frag} {H : Hp} : ∀ {vs ws : List V} {ds es : List PyData}, DpAll K H vs ds → DpAll K H ws es → DpAll K H (vs ++ ws) (ds ++ es)
  | _, _, _, _, .nil, h => h
  | _, _, _, _, .cons a t, h => .cons a (dpApp t h)
theorem eachVals : ∀ {xs : List V} {us : List Value}, Vals xs us → EachIs (fun v x => RelV x v) us xs
  | _, _, .nil => .nil
  | _, _, .cons r t => .cons r (eachVals t)
theorem valsEach : ∀ {xs : List V} {us : List Value}, EachIs (fun v x => RelV x v) us xs → Vals xs us
  | _, _, .nil => .nil
  | _, _, .cons r t => .cons r (valsEach t)
theorem eachReads {X : Cx} {pins : List (Addr × Obj)} {σ : L2.St} {H : Hp} {s : Shared} (I : Inv X pins σ H s) : ∀ {ks : List V} {us : List Value} {ds : List PyData}, Vals ks us → DpAll X.K H ks ds → EachIs (fun v k => ∃ as, Reads s.heap v k as) us ds
  | _, _, _, .nil, .nil => .nil
  | _, _, _, .cons r t, .cons d ds => .cons (Dp.reads I _ _ _ d r) (eachReads I t ds)
section
variable {X : Cx} {pins : List (Addr × Obj)} {σ : L2.St} {H : Hp} {s : Shared}
/-- addresses behind the heap of an invariant are nobody's -/
structure Own (X : Cx) (pins : List (Addr × Obj)) (a : Addr) : Prop where
  loc : a ≠ X.env.locals
  old : X.s_0.heap.objs.size ≤ a
  cel : ∀ x c, X.env.cells.lookup x = some c → c ≠ a
  pin : ∀ p ∈ X.pn ++ pins, p.1 ≠ a
  fs : a ∉ X.fs
theorem own_of (I : Inv X pins σ H s) {a : Addr} (h : s.heap.objs.size ≤ a) : Own X pins a :=
  ⟨Nat.ne_of_gt (Nat.lt_of_lt_of_le I.lt h), Nat.le_trans I.sz h, fun x c e z => by
    obtain ⟨v, o, ho, _⟩ := I.cell x c e
    exact absurd (Nat.lt_of_lt_of_le (Heap.lt_size ho) h) (by rw [z]; exact Nat.lt_irrefl _),
   fun p hp z => absurd (Nat.lt_of_lt_of_le (Heap.lt_size (I.pin p hp).1) h) (by rw [z]; exact Nat.lt_irrefl _), I.nofs h⟩
/-- what is pinned and one's own is tracked from now on, another one is forgotten -/
theorem track {h' : Heap} {t' : Nat} {a b : Addr} {xs : List V} (I : Inv X pins σ H s) (oa : Own X pins a) (ob : Own X pins b) (na : H a = none) (nb : H b = none)
    (k : ∀ c o, c ≠ a → c ≠ b → s.heap.get? c = some o → h'.get? c = some o) (ha : ObjOk X.prog X.w (upd H a (.lst xs)) h' a (.lst xs)) :
    Inv X pins σ (upd H a (.lst xs)) { s with heap := h', toks := t' } := by
  have nt : ∀ {c : Addr} {u : HO}, H c = some u → c ≠ a ∧ c ≠ b := fun {c u} e => ⟨ne_of_none e na, ne_of_none e nb⟩
  have up : ∀ {c : Addr} {u : HO}, H c = some u → upd H a (.lst xs) c = some u := fun {c u} e => by rw [upd_ne (nt e).1]; exact e
  have nin : ∀ {c : Addr}, c ∉ [a, b] → c ≠ a ∧ c ≠ b := fun {c} h => ⟨fun z => h (by simp [z]), fun z => h (by simp [z])⟩
  refine I.step (g' := s.gens) (d' := s.drawn) (ch := [a, b]) (fun c hc => ?_) (fun c o _ _ hc e _ => k c o (nin hc).1 (nin hc).2 e) (fun c o _ _ hc e _ => ⟨o.slots, k c o (nin hc).1 (nin hc).2 e⟩)
    (fun c o hc _ n => by rw [upd_ne (nin hc).1]; exact n) (fun c o hc e => ⟨o, k c o (nin hc).1 (nin hc).2 e⟩) (fun c xs q => up q) (fun c o u q => up q) (fun c ps q => ⟨#[], by rw [up q]; simp⟩) (fun m hm => ?_) (fun c u q => ?_) I.bare
  · rcases List.mem_cons.mp hc with z | z
    · subst z; exact ⟨.inr oa.old, oa.loc, oa.cel, oa.pin⟩
    · cases List.mem_singleton.mp z
      exact ⟨.inr ob.old, ob.loc, ob.cel, ob.pin⟩
  · obtain ⟨o, es, ep, e, r⟩ := hm
    exact ⟨o, es, ep, k _ _ (Ne.symm oa.loc) (Ne.symm ob.loc) e, r⟩
  · by_cases z : c = a
    · subst z
      rw [upd_same] at q
      cases q
      exact ha
    · rw [upd_ne z] at q
      exact (I.hok c u q).stay (fun d v hd y => by
          have hn : d ≠ a ∧ d ≠ b := by
            rcases hd with hd | hd
            · subst hd
              exact nt q
            · exact nt hd
          exact k d v hn.1 hn.2 y) (fun d hd => up hd) fun d ys hd => up hd

variable {Q : VK} {l q : Addr} {xs : List V} {kd : V → PyData}
theorem sorted_key_run (I : Inv X pins σ H s) (hS : SqL X.K H l xs) (hal : AllAlike (xs.map kd)) (hsk : Sortable (xs.map kd)) (hdp : ∀ x ∈ xs, (kd x).depth ≤ 50) (hu : X.A.units + 100 < cLine)
    (hcall : ∀ (pins' : List (Addr × Obj)) (H1 : Hp) (s1 : Shared) (x : V) (u : Value), Inv X pins' σ H1 s1 → Same H H1 → x ∈ xs → RelV x u →
      wpAny (model X.prog X.w) X.A.in1.in1 (call (.ref q) [u]) (EP X pins' σ fun v H2 => Same H1 H2 ∧ Dp X.K H2 v (kd x)) (fun _ _ => False) s1)
    (hfin : ∀ H2 p, Same H H2 → H2 p = none → Q (.ref p) (upd H2 p (.lst (xs.mergeSort (dataLe false kd))))) :
    wpAny (model X.prog X.w) X.A (call (.builtin "sorted") [.ref l] [(Str.ofString "key", .ref q)]) (EP X pins σ Q) X.xe s := by
  obtain ⟨its, rv, pl, hz⟩ := I.list hS
  have hlen : its.length = xs.length := (Vals.length rv).symm
  have hIL : s.heap.IsList l its.toArray := by
    obtain ⟨o, n, ho, hc, _, hd⟩ := pl
    exact ⟨o, ho, hc, n, hd⟩
  refine sorted_of_sort hIL (by rw [hlen]; exact hz) (ksk_s1 _ _) (fun x => ksk_l1 _ _) fun E' => ?_
  rw [ksk_t1]
  -- the copy at D
  have oD : Own X pins (s.heap.objs.size + 1) := own_of I (Nat.le_succ s.heap.objs.size)
  generalize hDe : s.heap.objs.size + 1 = D at oD ⊢
  have hoD : (copyHeap s.heap its).get? D = some (seqObj "list" its.toArray 0) := by rw [← hDe]; exact copyHeap_at s.heap its
  have ltD : D < (copyHeap s.heap its).objs.size := Heap.lt_size hoD
  obtain ⟨e1, ho1⟩ : ∃ e1, ((copyHeap s.heap its).update D (Obj.mapSeq fun _ => (#[] : Array Value))).get? D = some (seqObj "list" #[] e1) := ⟨_, get?_update_seq hoD fun _ => #[]⟩
  unfold ksk_tree
  refine wpAny_bind (listItems_at hoD rfl ?_)
  refine wpAny_bind (listUpdate_at hoD rfl ?_ (by rw [List.size_toArray, hlen]; exact hz) (Nat.zero_le _))
  refine wpAny_bind (seqEpoch_at ho1 rfl ?_)
  refine wpAny_bind (wpAny_newTuple ?_ (by show its.length ≤ _; rw [hlen]; exact hz))
  refine wpAny_bind (wpAny_newList ?_ (Nat.zero_le _))
  refine wpAny_holding ?_
  have nD : ∀ {b : Addr} {o : Obj}, s.heap.get? b = some o → b ≠ D := fun {b o} e => by rw [← hDe]; exact Nat.ne_of_lt (Nat.lt_succ_of_lt (Heap.lt_size e))
  have kp : ∀ b o, s.heap.get? b = some o → (sortingHeap (copyHeap s.heap its) D its).get? b = some o := fun b o e => sortingHeap_old (nD e) (copyHeap_old e)
  have I2 : Inv X pins σ H { s with heap := sortingHeap (copyHeap s.heap its) D its } := I.kept kp
  -- the keys' list at S
  have hSe : ((((copyHeap s.heap its).update D (Obj.mapSeq fun _ => (#[] : Array Value))).push (seqObj "tuple" its.toArray 0)).objs.size) = (copyHeap s.heap its).objs.size + 1 := by rw [size_push', Heap.size_update]
  have szc : s.heap.objs.size ≤ (copyHeap s.heap its).objs.size := by omega
  have oS : Own X pins ((copyHeap s.heap its).objs.size + 1) := own_of I (Nat.le_succ_of_le szc)
  have nS0 : H ((copyHeap s.heap its).objs.size + 1) = none := I.hok.fresh (Nat.le_succ_of_le szc)
  have hSD : (copyHeap s.heap its).objs.size + 1 ≠ D := by omega
  have gD : (sortingHeap (copyHeap s.heap its) D its).get? D = some (seqObj "list" #[] e1) := Heap.get?_push_of_some _ (Heap.get?_push_of_some _ ho1)
  have gS : (sortingHeap (copyHeap s.heap its) D its).get? ((copyHeap s.heap its).objs.size + 1) = some (seqObj "list" #[] 0) := by
    unfold sortingHeap
    rw [← hSe]
    exact Heap.get?_push_size _ rfl
  show wpAny _ _ (ksk_rest D (.ref q) false its.toArray e1 (.ref ((((copyHeap s.heap its).update D (Obj.mapSeq fun _ => (#[] : Array Value))).push (seqObj "tuple" its.toArray 0)).objs.size))) _ _ { s with heap := sortingHeap (copyHeap s.heap its) D its }
  rw [hSe]
  generalize (copyHeap s.heap its).objs.size + 1 = S at oS hSD gS nS0 ⊢
  generalize sortingHeap (copyHeap s.heap its) D its = hp2 at I2 gD gS ⊢
  have nH : ∀ {a : Addr}, s.heap.objs.size ≤ a → H a = none := fun h => I.hok.fresh h
  have mkp : ∀ {H1 : Hp} {s1 : Shared} {kA : Array Value} {e : Nat}, Inv X pins σ H1 s1 → s1.heap.get? D = some (seqObj "list" #[] e1) → s1.heap.get? S = some (seqObj "list" kA e) → H1 D = none → H1 S = none →
      Inv X ((D, seqObj "list" #[] e1) :: (S, seqObj "list" kA e) :: pins) σ H1 s1 := fun {H1 s1 kA e} J g1 g2 n1 n2 => by
    refine J.pins_of fun p hp => ?_
    rcases List.mem_cons.mp hp with z | hp
    · subst z
      exact ⟨g1, n1, oD.loc, oD.fs, fun v z => nomatch z⟩
    · rcases List.mem_cons.mp hp with z | hp
      · subst z
        exact ⟨g2, n2, oS.loc, oS.fs, fun v z => nomatch z⟩
      · exact J.pin p (List.mem_append_right _ hp)
  have nD0 : H D = none := nH (by omega)
  unfold ksk_rest
  refine wpAny_bind (wpAny_rule ?_)
  first
    | rw [List.forIn_toArray]
    | (rw [← Array.forIn_toList]; simp only [List.toList_toArray])
    | rw [← Array.forIn_toList]
  refine wpAny_bind (ksk_fold (fun i s' => ∃ H' kA e ks, Same H H' ∧ Inv X ((D, seqObj "list" #[] e1) :: (S, seqObj "list" kA e) :: pins) σ H' s' ∧ Vals ks kA.toList ∧ DpAll X.K H' ks ((xs.take i).map kd)) its 0 { s with heap := hp2 }
    ⟨H, #[], 0, [], Same.refl H, ?_, .nil, ?_⟩ ?step ?done)
  · exact mkp I2 gD gS nD0 nS0
  · rw [List.take_zero]
    exact .nil
  case step =>
    rintro j u s' hj ⟨H', kA, e, ks, sm, J, rk, dk⟩
    simp only [Nat.zero_add] at dk ⊢
    obtain ⟨x, hx, rx⟩ : ∃ x, xs[j]? = some x ∧ RelV x u := by
      have hjl : j < xs.length := by rw [← hlen]; exact (List.getElem?_eq_some_iff.mp hj).1
      obtain ⟨u', hu', rx⟩ := rv.get (List.getElem?_eq_getElem hjl)
      rw [hj] at hu'
      cases hu'
      exact ⟨_, List.getElem?_eq_getElem hjl, rx⟩
    have hjl : j < xs.length := (List.getElem?_eq_some_iff.mp hx).1
    refine wpAny_bind (wpAny_attempt (wpAny_mono (hcall _ H' s' x u J sm (List.mem_of_getElem? hx) rx) (fun v s'' he => ?_) fun _ _ hF => hF.elim))
    obtain ⟨v', H2, J2, rv', sm2, dv⟩ := he
    dsimp only
    have pD := J2.pin (D, seqObj "list" #[] e1) (List.mem_append_right _ List.mem_cons_self)
    have pS := J2.pin (S, seqObj "list" kA e) (List.mem_append_right _ (List.mem_cons_of_mem _ List.mem_cons_self))
    have J3 : Inv X pins σ H2 s'' := J2.pins_of fun p hp => J2.pin p (List.mem_append_right _ (List.mem_cons_of_mem _ (List.mem_cons_of_mem _ hp)))
    obtain ⟨c2, hc2⟩ : ∃ c2, (s''.heap.update S (Obj.mapSeq (·.push v))).get? S = some (seqObj "list" (kA.push v) c2) := ⟨_, get?_update_seq pS.1 (·.push v)⟩
    have sb := Heap.SameBut.update s''.heap S (Obj.mapSeq (·.push v))
    have lk : kA.size = j := by
      have h1 := Vals.length rk
      have h2 : ks.length = ((xs.take j).map kd).length := dpLen dk
      rw [List.length_map, List.length_take, Nat.min_eq_left (Nat.le_of_lt hjl)] at h2
      have h3 : kA.toList.length = kA.size := Array.length_toList
      rw [← h1, h2] at h3
      exact h3.symm
    refine wpAny_bind (listUpdate_at pS.1 rfl ?_ (by rw [lk]; omega) (by rw [Array.size_push, lk]; omega))
    have J4 : Inv X pins σ H2 { s'' with heap := s''.heap.update S (Obj.mapSeq (·.push v)), toks := s''.toks } :=
      J3.turned (it := S) (fun b o hb eo => (sb.2 b hb).trans eo) pS.2.1 oS.loc (.inr oS.old) oS.cel oS.pin
    refine wpAny_pure ⟨rfl, H2, kA.push v, c2, ks ++ [v'], sm.trans sm2, mkp J4 ((sb.2 D (Ne.symm hSD)).trans pD.1) hc2 pD.2.1 pS.2.1, ?_, ?_⟩
    · rw [Array.toList_push]
      exact rk.append (.cons rv' .nil)
    · rw [List.take_add_one, hx, List.map_append]
      exact dpApp (DpAll.same sm2 _ _ dk) (.cons dv .nil)
  case done =>
    rintro s' ⟨H', kA, e, ks, sm, J, rk, dk⟩
    have dk' : DpAll X.K H' ks (xs.map kd) := by
      rw [Nat.zero_add, hlen, List.take_length] at dk
      exact dk
    have pD := J.pin (D, seqObj "list" #[] e1) (List.mem_append_right _ List.mem_cons_self)
    have pS := J.pin (S, seqObj "list" kA e) (List.mem_append_right _ (List.mem_cons_of_mem _ List.mem_cons_self))
    have J3 : Inv X pins σ H' s' := J.pins_of fun p hp => J.pin p (List.mem_append_right _ (List.mem_cons_of_mem _ (List.mem_cons_of_mem _ hp)))
    have rd : EachIs (fun v k => ∃ as, Reads s'.heap v k as) kA.toList (xs.map kd) := eachReads J3 rk dk'
    have hsz : kA.size = its.length := by
      have h1 := rd.length
      rw [Array.length_toList, List.length_map] at h1
      omega
    obtain ⟨G, g1, g2⟩ := L2.restrict s'.heap fun b => decide (b ≠ S)
    have gk : ∀ b, b ≠ S → G.get? b = s'.heap.get? b := fun b hb => g1 b (decide_eq_true hb)
    have kpG : KeepsBut D G s'.heap := fun b o hb eo => by
      by_cases z : b = S
      · rw [z, g2 S (by simp)] at eo
        cases eo
      · rw [← gk b z]
        exact eo
    (try dsimp only)
    refine wpAny_bind (listItems_at pS.1 rfl ?_)
    refine keyH_end (κ := dataKind s'.heap (xs.map kd)) (h₁ := G) kpG (g2 S (by simp)) pS.1 pD.1 hSD (SortsAt.data (s := s') rd hal hsk (fun d hd => ?_)) hsz (by rw [hlen]; exact hz) fun h' tk c kpD hD => ⟨rfl, ?_⟩
    · obtain ⟨x, hx, rfl⟩ := List.mem_map.mp hd
      have := hdp x hx
      show X.A.units + 1 + 1 + (kd x).depth < cLine
      omega
    · have ko : KeyedOut false (xs.map kd) its (sortVals (dataKind s'.heap (xs.map kd)) false kA.toList its) := ⟨s'.heap, kA.toList, hal, rfl, rd⟩
      have eo := keyedOut_each (R := fun v x => RelV x v) kd ko (eachVals rv)
      have ov : Vals (xs.mergeSort (dataLe false kd)) (sortVals (dataKind s'.heap (xs.map kd)) false kA.toList its) := valsEach eo
      refine ⟨.ref D, upd H' D (.lst (xs.mergeSort (dataLe false kd))), ?_, rfl, hfin H' D sm pD.2.1⟩
      refine track J3 oD oS pD.2.1 pS.2.1 (fun b o h1 h2 eb => kpD b o h1 ((gk b h2).trans eb)) ⟨?_, _, c, ov, hD⟩
      rw [List.length_mergeSort]
      exact hz
/-- sorted(xs, key=x.m): the bound method at q, its def g keeps sp -/
def rSortMet (K : PySem.W.Frag) (g : Addr) (sp : Sp) : List V → List V → Hp → VK → Prop := fun vs zs H Q => ∃ (l q a : Addr) (xs : List V) (kd : V → PyData), vs = [.ref l] ∧ zs = [.ref q] ∧ SqL K H l xs ∧ H q = some (.met g a) ∧
  AllAlike (xs.map kd) ∧ Sortable (xs.map kd) ∧ (∀ x ∈ xs, (kd x).depth ≤ 50) ∧ (∀ H1 x, Same H H1 → x ∈ xs → sp [.ref a, x] H1 (fun v H2 => Same H1 H2 ∧ Dp K H2 v (kd x)) E0) ∧
  ∀ H2 p, Same H H2 → H2 p = none → Q (.ref p) (upd H2 p (.lst (xs.mergeSort (dataLe false kd))))
theorem cr_sortMet {CX : CXT} {k : Nat} {g : Addr} {fd : FuncData} {ps : List Str} {sp : Sp} (F : FnOk X.prog X.w X.K X.mg X.base CX k g fd ps sp) (hr : Room (k + 2) X.A) (hb : Binds X.K fd ps [])
    (hx : ∀ (H : Hp) (s : Shared) (e : Value) (s' : Shared), CX X.stack H s E0 e s' → False) : CallRK X (.builtin "sorted") [Str.ofString "key"] (rSortMet X.K g sp) := by
  intro pins s σ H xs0 zs us ws Q I r1 r2 h
  obtain ⟨l, q, a, xs, kd, rfl, rfl, hS, hq, hal, hsk, hdp, hkey, hfin⟩ := h
  obtain ⟨u1, rfl, e1⟩ := vals1 r1
  obtain ⟨u2, rfl, e2⟩ := vals1 r2
  cases (show u1 = Value.ref l from e1)
  cases (show u2 = Value.ref q from e2)
  refine sorted_key_run I hS hal hsk hdp (by have := hr.un; omega) (fun pins' H1 s1 x u J sm hm rx => ?_) hfin
  have hsp := hkey H1 x sm hm
  have r3 : Vals [V.ref a, x] [Value.ref a, u] := .cons rfl (.cons rx .nil)
  have hl : ([Value.ref a, u] ++ []).length = ps.length := by
    rw [← F.len _ _ _ _ hsp]
    rfl
  refine wpAny_call (call_met J (sm _ _ hq) (codeAny_mono (F.run X.A.in1.in1 X.stack s1 H1 ⟨[.ref a, u], []⟩ _ _ _ E0 (hr.in1).in1 J.env0.in1.in1 (hb s1 [.ref a, u] J.kIn hl) r3 hsp) fun r s' hq' => ?_))
  cases r with
  | error e => exact (hx H1 s1 e s' hq').elim
  | ok fl =>
    cases fl with
    | ret v => exact J.after hq'
    | next => exact False.elim hq'
    | brk => exact False.elim hq'
    | cont => exact False.elim hq'
/-- x.m as a value -/
def tMet (C g : Addr) (m : Str) (ta : TE) : TE := fun σ H Q => ta σ H fun x H1 => ∃ a dx fs, x = .ref a ∧ H1 a = some (.ins C dx fs) ∧ fs.lookup m = none ∧ ∀ q, H1 q = none → Q (.ref q) (upd H1 q (.met g a))
theorem pe_met {C g : Addr} {m : Str} {e : Expr} {pos : Pos} {ta : TE} (he : PE X e ta) (c : Cls X.K C) (k : BMeth X.K C m g) (hab : attributeBase e m X.env (eval e X.env) = eval e X.env := by rfl) : PE X (.Attribute e m pos) (tMet C g m ta) := by
  refine ⟨fun pins s σ H Q I h => ?_⟩
  refine attr_of hab (thn (he.run pins s σ H _ I h) fun u s1 ⟨x, H1, I1, rx, a, dx, fs, ex, ea, hl, q⟩ => ?_)
  subst ex
  exact op_getbound I1 ea c k hl rx q
end
end Wn
/-! systems: what stands in the heap, and its plain picture -/
namespace Wn
open PySem PySem.Spec PyProof.Rows L2 LamX He

/-! ### lists of pairs with whole numbers as keys -/
section
variable {α β : Type}
def lk : List (Int × α) → Int → Option α
  | [], _ => none
  | r :: l, n => if r.1 = n then some r.2 else lk l n
def pt : List (Int × α) → Int → α → List (Int × α)
  | [], n, x => [(n, x)]
  | r :: l, n, x => if r.1 = n then (n, x) :: l else r :: pt l n x
def dr (l : List (Int × α)) (n : Int) : List (Int × α) := l.filter fun r => decide (r.1 ≠ n)
def kv (g : α → V) (l : List (Int × α)) : List (Key × V) := l.map fun r => (Sum.inl r.1, g r.2)
theorem kv_len (g : α → V) (l : List (Int × α)) : (kv g l).length = l.length := List.length_map ..
theorem lk_pos {r : Int × α} {l : List (Int × α)} {n : Int} (e : r.1 = n) : lk (r :: l) n = some r.2 := if_pos e
theorem lk_neg {r : Int × α} {l : List (Int × α)} {n : Int} (e : ¬ r.1 = n) : lk (r :: l) n = lk l n := if_neg e
theorem val_kv (g : α → V) (n : Int) : ∀ l : List (Int × α), valV (kv g l) (Sum.inl n : Key) = (lk l n).map g
  | [] => rfl
  | r :: l => by
    show valV (((Sum.inl r.1 : Key), g r.2) :: kv g l) (Sum.inl n) = _
    by_cases e : r.1 = n
    · rw [valV_pos (show (Sum.inl r.1 : Key) = Sum.inl n by rw [e]), lk_pos e]
      rfl
    · rw [valV_neg (fun z => e (Sum.inl.inj z)), lk_neg e, val_kv g n l]
theorem lk_mem {n : Int} {x : α} : ∀ {l : List (Int × α)}, lk l n = some x → (n, x) ∈ l
  | [], h => nomatch h
  | r :: l, h => by
    by_cases e : r.1 = n
    · rw [lk_pos e] at h
      cases h
      subst e
      exact List.mem_cons_self
    · rw [lk_neg e] at h
      exact List.mem_cons_of_mem _ (lk_mem h)
theorem lk_none {n : Int} : ∀ {l : List (Int × α)}, lk l n = none ↔ n ∉ l.map (·.1)
  | [] => ⟨fun _ => List.not_mem_nil, fun _ => rfl⟩
  | r :: l => by
    by_cases e : r.1 = n
    · rw [lk_pos e]
      exact ⟨fun z => (nomatch z), fun z => (z (by simp [e])).elim⟩
    · rw [lk_neg e, lk_none]
      simp only [List.map_cons, List.mem_cons, not_or]
      exact ⟨fun z => ⟨fun q => e q.symm, z⟩, fun z => z.2⟩
theorem lk_some_of {n : Int} {l : List (Int × α)} (h : n ∈ l.map (·.1)) : ∃ x, lk l n = some x := by
  cases e : lk l n with
  | none => exact absurd h (lk_none.mp e)
  | some x => exact ⟨x, rfl⟩
theorem lk_of_mem {n : Int} {x : α} : ∀ {l : List (Int × α)}, (l.map (·.1)).Nodup → (n, x) ∈ l → lk l n = some x
  | [], _, h => nomatch h
  | r :: l, nd, h => by
    obtain ⟨h1, h2⟩ := List.nodup_cons.mp (show (r.1 :: l.map (·.1)).Nodup from nd)
    rcases List.mem_cons.mp h with z | z
    · subst z
      exact lk_pos rfl
    · rw [lk_neg fun e => h1 (e ▸ List.mem_map.mpr ⟨_, z, rfl⟩)]
      exact lk_of_mem h2 z
theorem put_kv (g : α → V) (n : Int) (x : α) {l : List (Int × α)} (h : lk l n = none) : putK (kv g l) (Sum.inl n : Key) (g x) = kv g (l ++ [(n, x)]) := by
  rw [putK_new _ (by rw [val_kv, h]; rfl)]
  unfold kv
  rw [List.map_append]
  rfl
theorem drop_kv (g : α → V) (n : Int) (l : List (Int × α)) : dropK (kv g l) (Sum.inl n : Key) = kv g (dr l n) := by
  unfold dropK kv dr
  rw [List.filter_map]
  congr 1
  refine List.filter_congr fun r _ => ?_
  refine decide_eq_decide.mpr ?_
  exact ⟨fun h z => h (congrArg Sum.inl z), fun h z => h (Sum.inl.inj z)⟩
theorem lk_app {n : Int} {l m : List (Int × α)} : lk (l ++ m) n = (lk l n).or (lk m n) := by
  induction l with
  | nil => rfl
  | cons r l ih =>
    show lk (r :: (l ++ m)) n = _
    by_cases e : r.1 = n
    · rw [lk_pos e, lk_pos e]
      rfl
    · rw [lk_neg e, lk_neg e, ih]
theorem lk_dr {n k : Int} (l : List (Int × α)) : lk (dr l n) k = if k = n then none else lk l k := by
  induction l with
  | nil =>
    unfold dr
    split <;> rfl
  | cons r l ih =>
    unfold dr at ih ⊢
    rw [List.filter_cons]
    by_cases e : r.1 = n
    · rw [if_neg (by simp [e]), ih]
      by_cases q : k = n
      · rw [if_pos q, if_pos q]
      · rw [if_neg q, if_neg q, lk_neg (fun z => q (z.symm.trans e))]
    · rw [if_pos (by simp [e])]
      by_cases q : r.1 = k
      · rw [lk_pos q, if_neg (fun z => e (q.trans z)), lk_pos q]
      · rw [lk_neg q, ih, lk_neg q]
end

/-! ### what stands in the heap -/
structure En where
  ad : Addr
  dx : Addr
  num : Int
  ser : Int
  lab : Int
  wrd : Str
  arm : Bool
inductive Tg where
  | src (dx : Addr) (u : Int) (f : Bool)
  | set (dx L R : Addr) (es : List En) (row : List Int)
structure Th where
  ad : Addr
  tg : Tg
structure Tb where
  ad : Addr
  rows : List (Int × Int)
structure Sy where
  p : Addr
  dx : Addr
  T : Addr
  G : Addr
  P : Int
  N : Int
  made : Int
  tabs : List (Int × Tb)
  ths : List (Int × Th)
def sysF (P N : Int) (T G : Addr) (m : Int) : List (Str × V) := [("process_limit", .int P), ("number_limit", .int N), ("tables", .ref T), ("things", .ref G), ("serials_made", .int m)]
def srcF (u : Int) (f : Bool) : List (Str × V) := [("unread", .int u), ("finished", .bl f)]
def setF (L R : Addr) : List (Str × V) := [("entries", .ref L), ("row", .ref R)]
def entF (e : En) : List (Str × V) := [("number", .int e.num), ("serial", .int e.ser), ("label", .int e.lab), ("word", .str e.wrd), ("armed", .bl e.arm)]
def tbV (t : Tb) : V := .ref t.ad
def thV (t : Th) : V := .ref t.ad
def TgAt (K : PySem.W.Frag) (H : Hp) (a : Addr) : Tg → Prop
  | .src dx u f => H a = some (.ins (ga K "Source") dx (srcF u f))
  | .set dx L R es row => H a = some (.ins (ga K "WaitSet") dx (setF L R)) ∧ H L = some (.lst (es.map fun e => .ref e.ad)) ∧ H R = some (.lst (row.map V.int)) ∧ ∀ e ∈ es, H e.ad = some (.ins (ga K "Entry") e.dx (entF e))
/-- the lists and the registrations of a thing -/
def Tg.lsts : Tg → List Addr
  | .src _ _ _ => []
  | .set _ L R _ _ => [L, R]
def Tg.ents : Tg → List Addr
  | .src _ _ _ => []
  | .set _ _ _ es _ => es.map (·.ad)
def Sy.dcs (s : Sy) : List Addr := s.T :: s.G :: s.tabs.map (·.2.ad)
def Sy.ths' (s : Sy) : List Addr := s.ths.map (·.2.ad)
def Sy.lsts (s : Sy) : List Addr := s.ths.flatMap (·.2.tg.lsts)
def Sy.ents (s : Sy) : List Addr := s.ths.flatMap (·.2.tg.ents)
/-- all that a system owns -/
def Sy.foot (s : Sy) : List Addr := s.p :: (s.dcs ++ (s.ths' ++ (s.lsts ++ s.ents)))
structure SyAt (K : PySem.W.Frag) (H : Hp) (s : Sy) : Prop where
  ob : H s.p = some (.ins (ga K "System") s.dx (sysF s.P s.N s.T s.G s.made))
  tb : H s.T = some (.dK (kv tbV s.tabs))
  tt : ∀ t ∈ s.tabs, H t.2.ad = some (.dK (kv V.int t.2.rows))
  gb : H s.G = some (.dK (kv thV s.ths))
  gt : ∀ t ∈ s.ths, TgAt K H t.2.ad t.2.tg
  nd : s.dcs.Nodup
  nt : s.ths'.Nodup
  nl : s.lsts.Nodup
  ne : s.ents.Nodup
/-! ### the plain picture -/
structure Ev where
  num : Int
  ser : Int
  lab : Int
  wrd : Str
  arm : Bool
  deriving DecidableEq
inductive Tv where
  | src (u : Int) (f : Bool)
  | set (es : List Ev) (row : List Int)
  deriving DecidableEq
structure Sv where
  P : Int
  N : Int
  made : Int
  tabs : List (Int × List (Int × Int))
  ths : List (Int × Tv)
def En.v (e : En) : Ev := ⟨e.num, e.ser, e.lab, e.wrd, e.arm⟩
def Tg.v : Tg → Tv
  | .src _ u f => .src u f
  | .set _ _ _ es row => .set (es.map En.v) row
def Sy.v (s : Sy) : Sv := ⟨s.P, s.N, s.made, s.tabs.map fun t => (t.1, t.2.rows), s.ths.map fun t => (t.1, t.2.tg.v)⟩
/-- behind a call: what is not the system's stands, what is the system's was or is new -/
structure Fr' (s s' : Sy) (H H' : Hp) : Prop where
  keep : ∀ b o, H b = some o → b ∉ s.foot → H' b = some o
  foot : ∀ b ∈ s'.foot, b ∈ s.foot ∨ H b = none
  same : s'.p = s.p
theorem Fr'.refl (s : Sy) (H : Hp) : Fr' s s H H := ⟨fun _ _ e _ => e, fun _ h => .inl h, rfl⟩
theorem Fr'.more {s s' : Sy} {H H' H'' : Hp} (f : Fr' s s' H H') (e : Same H' H'') : Fr' s s' H H'' := ⟨fun b o h n => e _ _ (f.keep b o h n), f.foot, f.same⟩
theorem Fr'.out {s s' : Sy} {H H' : Hp} (f : Fr' s s' H H') {b : Addr} {o : HO} (h : H b = some o) (n : b ∉ s.foot) : b ∉ s'.foot := fun m => by
  rcases f.foot b m with z | z
  · exact n z
  · rw [h] at z
    cases z
theorem Fr'.trans {s s1 s2 : Sy} {H H1 H2 : Hp} (f : Fr' s s1 H H1) (g : Fr' s1 s2 H1 H2) : Fr' s s2 H H2 := by
  refine ⟨fun b o h n => g.keep b o (f.keep b o h n) (f.out h n), fun b m => ?_, g.same.trans f.same⟩
  rcases g.foot b m with z | z
  · exact f.foot b z
  · by_cases n : b ∈ s.foot
    · exact .inl n
    · cases e : H b with
      | none => exact .inr rfl
      | some o =>
        rw [f.keep b o e n] at z
        cases z
theorem SyAt.same {K : PySem.W.Frag} {H H' : Hp} {s : Sy} (S : SyAt K H s) (e : ∀ b o, H b = some o → b ∈ s.foot → H' b = some o) : SyAt K H' s := by
  have fT : ∀ {b}, b ∈ s.dcs → b ∈ s.foot := fun h => List.mem_cons_of_mem _ (List.mem_append_left _ h)
  have fH : ∀ {b}, b ∈ s.ths' → b ∈ s.foot := fun h => List.mem_cons_of_mem _ (List.mem_append_right _ (List.mem_append_left _ h))
  have fL : ∀ {b}, b ∈ s.lsts → b ∈ s.foot := fun h => List.mem_cons_of_mem _ (List.mem_append_right _ (List.mem_append_right _ (List.mem_append_left _ h)))
  have fE : ∀ {b}, b ∈ s.ents → b ∈ s.foot := fun h => List.mem_cons_of_mem _ (List.mem_append_right _ (List.mem_append_right _ (List.mem_append_right _ h)))
  refine ⟨e _ _ S.ob List.mem_cons_self, e _ _ S.tb (fT List.mem_cons_self), fun t h => e _ _ (S.tt t h) (fT (List.mem_cons_of_mem _ (List.mem_cons_of_mem _ (List.mem_map.mpr ⟨t, h, rfl⟩)))), e _ _ S.gb (fT (List.mem_cons_of_mem _ List.mem_cons_self)),
    fun t h => ?_, S.nd, S.nt, S.nl, S.ne⟩
  have ha : t.2.ad ∈ s.foot := fH (List.mem_map.mpr ⟨t, h, rfl⟩)
  have q := S.gt t h
  cases ht : t.2.tg with
  | src dx u f =>
    rw [ht] at q
    exact e _ _ q ha
  | set dx L R es row =>
    rw [ht] at q
    obtain ⟨q1, q2, q3, q4⟩ := q
    have mL : ∀ b ∈ [L, R], b ∈ s.foot := fun b hb => fL (List.mem_flatMap.mpr ⟨t, h, by rw [ht]; exact hb⟩)
    exact ⟨e _ _ q1 ha, e _ _ q2 (mL L (by simp)), e _ _ q3 (mL R (by simp)), fun x hx => e _ _ (q4 x hx) (fE (List.mem_flatMap.mpr ⟨t, h, by rw [ht]; exact List.mem_map.mpr ⟨x, hx, rfl⟩⟩))⟩
theorem SyAt.ext {K : PySem.W.Frag} {H H' : Hp} {s : Sy} (S : SyAt K H s) (e : Same H H') : SyAt K H' s := S.same fun b o h _ => e b o h
end Wn
/-! plain facts of systems -/
namespace Wn
open PySem PySem.Spec PyProof.Rows L2 LamX He

/-! ### sorted lists of whole numbers -/
def srtI (l : List Int) : List Int := l.mergeSort fun a b => decide (a ≤ b)
theorem perm_eq : ∀ {l m : List Int}, l.Perm m → l.Pairwise (· ≤ ·) → m.Pairwise (· ≤ ·) → l = m
  | [], m, h, _, _ => by
    have := h.length_eq
    cases m with
    | nil => rfl
    | cons a m => cases this
  | a :: l, [], h, _, _ => by
    have := h.length_eq
    cases this
  | a :: l, b :: m, h, h1, h2 => by
    obtain ⟨a1, a2⟩ := List.pairwise_cons.mp h1
    obtain ⟨b1, b2⟩ := List.pairwise_cons.mp h2
    have ab : a = b := by
      have x1 : a ∈ b :: m := h.subset List.mem_cons_self
      have x2 : b ∈ a :: l := h.symm.subset List.mem_cons_self
      rcases List.mem_cons.mp x1 with z | z
      · exact z
      · rcases List.mem_cons.mp x2 with y | y
        · exact y.symm
        · exact Int.le_antisymm (a1 b y) (b1 a z)
    subst ab
    rw [perm_eq (List.Perm.cons_inv h) a2 b2]
theorem srtI_perm (l : List Int) : (srtI l).Perm l := List.mergeSort_perm _ _
theorem srtI_pw (l : List Int) : (srtI l).Pairwise (· ≤ ·) := by
  have h := List.pairwise_mergeSort (le := fun a b : Int => decide (a ≤ b)) (fun a b c h1 h2 => decide_eq_true (Int.le_trans (of_decide_eq_true h1) (of_decide_eq_true h2))) (fun a b => by
    rcases Int.le_total a b with h | h
    · simp [h]
    · simp [h]) l
  exact h.imp fun z => of_decide_eq_true z
theorem srtI_eq {l m : List Int} (h : m.Perm l) (hs : m.Pairwise (· ≤ ·)) : m = srtI l := perm_eq (h.trans (srtI_perm l).symm) hs (srtI_pw l)
theorem srtI_mem {l : List Int} {x : Int} : x ∈ srtI l ↔ x ∈ l := (srtI_perm l).mem_iff
theorem srtI_len (l : List Int) : (srtI l).length = l.length := (srtI_perm l).length_eq
/-- numbers below n, none twice, are at most n -/
theorem few : ∀ (n : Nat) {l : List Int}, l.Nodup → (∀ x ∈ l, 0 ≤ x ∧ x < (n : Int)) → l.length ≤ n
  | 0, l, _, h => by
    cases l with
    | nil => exact Nat.le_refl _
    | cons a l =>
      have := h a List.mem_cons_self
      omega
  | n + 1, l, nd, h => by
    have h1 := few n (l := l.filter fun x => decide (x ≠ (n : Int))) (nd.filter _) (fun x hx => by
      obtain ⟨h1, h2⟩ := List.mem_filter.mp hx
      have h3 := h x h1
      have h4 : x ≠ (n : Int) := of_decide_eq_true h2
      omega)
    have h2 : l.length ≤ (l.filter fun x => decide (x ≠ (n : Int))).length + 1 := by
      clear h h1
      induction l with
      | nil => exact Nat.zero_le _
      | cons a l ih =>
        obtain ⟨n1, n2⟩ := List.nodup_cons.mp nd
        by_cases e : a = (n : Int)
        · have : l.filter (fun x => decide (x ≠ (n : Int))) = l := List.filter_eq_self.mpr fun x hx => decide_eq_true fun z => n1 (by rw [e, ← z]; exact hx)
          rw [List.filter_cons, if_neg (by simp [e]), this]
          exact Nat.le_refl _
        · rw [List.filter_cons, if_pos (by simp [e])]
          have := ih n2
          simp only [List.length_cons]
          omega
    omega

/-! ### well formed systems -/
def SetOk (v : Sv) (es : List Ev) (row : List Int) : Prop :=
  (es.map (·.lab)).Nodup ∧ (es.map fun e => (e.num, e.ser)).Nodup ∧ row.Nodup ∧ (∀ x ∈ row, ∃ e ∈ es, e.lab = x ∧ e.arm = true) ∧ (∀ e ∈ es, ∃ u f, lk v.ths e.ser = some (.src u f)) ∧ es.length ≤ mostE
theorem mostE_le : mostE ≤ 1000000 := by decide
/-- what is known of the class of registrations -/
structure EntF (K : PySem.W.Frag) : Prop where
  c : Cls K (ga K "Entry")
  number : NoAttr K (ga K "Entry") "number"
  serial : NoAttr K (ga K "Entry") "serial"
  label : NoAttr K (ga K "Entry") "label"
  word : NoAttr K (ga K "Entry") "word"
  armed : NoAttr K (ga K "Entry") "armed"
structure WF (v : Sv) : Prop where
  p : 2 ≤ v.P ∧ v.P ≤ 6
  n : 3 ≤ v.N ∧ v.N ≤ 8
  ndp : (v.tabs.map (·.1)).Nodup
  rp : ∀ t ∈ v.tabs, 0 ≤ t.1 ∧ t.1 < v.P
  ndn : ∀ t ∈ v.tabs, (t.2.map (·.1)).Nodup
  rn : ∀ t ∈ v.tabs, ∀ r ∈ t.2, 0 ≤ r.1 ∧ r.1 < v.N
  th : ∀ t ∈ v.tabs, ∀ r ∈ t.2, r.2 ∈ v.ths.map (·.1)
  nds : (v.ths.map (·.1)).Nodup
  rs : ∀ t ∈ v.ths, 0 ≤ t.1 ∧ t.1 < v.made
  held : ∀ t ∈ v.ths, ∃ u ∈ v.tabs, ∃ r ∈ u.2, r.2 = t.1
  ok : ∀ t ∈ v.ths, ∀ es row, t.2 = .set es row → SetOk v es row
/-- what the tables and serials alone say -/
structure WF0 (v : Sv) : Prop where
  p : 2 ≤ v.P ∧ v.P ≤ 6
  n : 3 ≤ v.N ∧ v.N ≤ 8
  ndp : (v.tabs.map (·.1)).Nodup
  rp : ∀ t ∈ v.tabs, 0 ≤ t.1 ∧ t.1 < v.P
  ndn : ∀ t ∈ v.tabs, (t.2.map (·.1)).Nodup
  rn : ∀ t ∈ v.tabs, ∀ r ∈ t.2, 0 ≤ r.1 ∧ r.1 < v.N
  nds : (v.ths.map (·.1)).Nodup
  rs : ∀ t ∈ v.ths, 0 ≤ t.1 ∧ t.1 < v.made
theorem WF.w0 {v : Sv} (h : WF v) : WF0 v := ⟨h.p, h.n, h.ndp, h.rp, h.ndn, h.rn, h.nds, h.rs⟩
theorem WF0.tabs6 {v : Sv} (h : WF0 v) : v.tabs.length ≤ 6 := by
  have h1 := few v.P.toNat (l := v.tabs.map (·.1)) h.ndp (fun x hx => by
    obtain ⟨t, ht, rfl⟩ := List.mem_map.mp hx
    have := h.rp t ht
    omega)
  rw [List.length_map] at h1
  have := h.p
  omega
theorem WF0.rows8 {v : Sv} (h : WF0 v) {t : Int × List (Int × Int)} (ht : t ∈ v.tabs) : t.2.length ≤ 8 := by
  have h1 := few v.N.toNat (l := t.2.map (·.1)) (h.ndn t ht) (fun x hx => by
    obtain ⟨r, hr, rfl⟩ := List.mem_map.mp hx
    have := h.rn t ht r hr
    omega)
  rw [List.length_map] at h1
  have := h.n
  omega
theorem WF0.thsM {v : Sv} (h : WF0 v) : v.ths.length ≤ v.made.toNat := by
  have h1 := few v.made.toNat (l := v.ths.map (·.1)) h.nds (fun x hx => by
    obtain ⟨t, ht, rfl⟩ := List.mem_map.mp hx
    have := h.rs t ht
    omega)
  rw [List.length_map] at h1
  exact h1
theorem WF.tabs6 {v : Sv} (h : WF v) : v.tabs.length ≤ 6 := h.w0.tabs6
theorem WF.rows8 {v : Sv} (h : WF v) {t : Int × List (Int × Int)} (ht : t ∈ v.tabs) : t.2.length ≤ 8 := h.w0.rows8 ht
theorem WF.thsM {v : Sv} (h : WF v) : v.ths.length ≤ v.made.toNat := h.w0.thsM
theorem WF.new {P N : Int} (h1 : 2 ≤ P ∧ P ≤ 6) (h2 : 3 ≤ N ∧ N ≤ 8) : WF ⟨P, N, 0, [(0, [])], []⟩ where
  p := h1
  n := h2
  ndp := by simp
  rp := fun t ht => by
    cases List.mem_singleton.mp ht
    show (0 : Int) ≤ 0 ∧ (0 : Int) < P
    omega
  ndn := fun t ht => by
    cases List.mem_singleton.mp ht
    exact List.nodup_nil
  rn := fun t ht r hr => by
    cases List.mem_singleton.mp ht
    cases hr
  th := fun t ht r hr => by
    cases List.mem_singleton.mp ht
    cases hr
  nds := List.nodup_nil
  rs := fun t ht => nomatch ht
  held := fun t ht => nomatch ht
  ok := fun t ht => nomatch ht
/-- the picture of the tables and of the things -/
theorem lk_map {α β : Type} (f : α → β) (n : Int) : ∀ l : List (Int × α), lk (l.map fun r => (r.1, f r.2)) n = (lk l n).map f
  | [] => rfl
  | r :: l => by
    show lk ((r.1, f r.2) :: l.map fun r => (r.1, f r.2)) n = _
    by_cases e : r.1 = n
    · rw [lk_pos (r := (r.1, f r.2)) e, lk_pos e]
      rfl
    · rw [lk_neg (r := (r.1, f r.2)) e, lk_neg e, lk_map f n l]
theorem Sy.tabs_v (s : Sy) (n : Int) : lk s.v.tabs n = (lk s.tabs n).map (·.rows) := lk_map (fun t : Tb => t.rows) n s.tabs
theorem Sy.ths_v (s : Sy) (n : Int) : lk s.v.ths n = (lk s.ths n).map (·.tg.v) := lk_map (fun t : Th => t.tg.v) n s.ths
theorem Sy.pids (s : Sy) : s.v.tabs.map (·.1) = s.tabs.map (·.1) := by
  show (s.tabs.map fun t => (t.1, t.2.rows)).map (·.1) = _
  rw [List.map_map]
  rfl
theorem Sy.sers (s : Sy) : s.v.ths.map (·.1) = s.ths.map (·.1) := by
  show (s.ths.map fun t => (t.1, t.2.tg.v)).map (·.1) = _
  rw [List.map_map]
  rfl
/-- the lowest free number -/
def lowFree (used : List Int) (n : Int) : Option Int := ((List.range n.toNat).map fun (k : Nat) => (k : Int)).find? fun k => decide (k ∉ used)
/-- the numbers that mean a thing -/
def holdsIn (ser p : Int) (rows : List (Int × Int)) : List (Int × Int) := ((srtI (rows.map (·.1))).filter fun n => decide (lk rows n = some ser)).map fun n => (p, n)
def holds (tabs : List (Int × List (Int × Int))) (ser : Int) : List (Int × Int) := (srtI (tabs.map (·.1))).flatMap fun p => match lk tabs p with
  | none => []
  | some rows => holdsIn ser p rows
end Wn
namespace Wn
open PySem PySem.Spec PyProof.Rows L2 LamX He
/-! ### things are placed -/
section
variable {α β : Type}
def upAt (l : List (Int × α)) (i : Int) (f : α → α) : List (Int × α) := l.map fun t => if t.1 = i then (t.1, f t.2) else t
theorem upAt_keys (l : List (Int × α)) (i : Int) (f : α → α) : (upAt l i f).map (·.1) = l.map (·.1) := by
  unfold upAt
  rw [List.map_map]
  refine List.map_congr_left fun t _ => ?_
  show (if t.1 = i then (t.1, f t.2) else t).1 = t.1
  split <;> rfl
theorem upAt_mem {l : List (Int × α)} {i : Int} {f : α → α} {t : Int × α} (h : t ∈ upAt l i f) : (t.1 ≠ i ∧ t ∈ l) ∨ ∃ x, (i, x) ∈ l ∧ t = (i, f x) := by
  obtain ⟨u, hu, rfl⟩ := List.mem_map.mp h
  by_cases e : u.1 = i
  · right
    refine ⟨u.2, ?_, ?_⟩
    · rw [← e]; exact hu
    · rw [if_pos e, e]
  · left
    rw [if_neg e]
    exact ⟨e, hu⟩
theorem upAt_lk (l : List (Int × α)) (i n : Int) (f : α → α) : lk (upAt l i f) n = if n = i then (lk l n).map f else lk l n := by
  induction l with
  | nil =>
    show none = _
    split <;> rfl
  | cons r l ih =>
    show lk ((if r.1 = i then (r.1, f r.2) else r) :: upAt l i f) n = _
    by_cases e : r.1 = n
    · by_cases q : r.1 = i
      · rw [if_pos q, lk_pos (r := (r.1, f r.2)) e, lk_pos e, if_pos (e ▸ q)]
        rfl
      · rw [if_neg q, lk_pos e, lk_pos e, if_neg (fun z => q (e.trans z))]
    · rw [lk_neg (r := if r.1 = i then (r.1, f r.2) else r) (by split <;> exact e), ih, lk_neg e]
theorem upAt_map (g : α → β) (f : α → α) (f' : β → β) (h : ∀ x, g (f x) = f' (g x)) (l : List (Int × α)) (i : Int) : (upAt l i f).map (fun t => (t.1, g t.2)) = upAt (l.map fun t => (t.1, g t.2)) i f' := by
  unfold upAt
  rw [List.map_map, List.map_map]
  refine List.map_congr_left fun t _ => ?_
  show ((if t.1 = i then (t.1, f t.2) else t).1, g (if t.1 = i then (t.1, f t.2) else t).2) = if t.1 = i then (t.1, f' (g t.2)) else (t.1, g t.2)
  split
  · rw [h]
  · rfl
theorem upAt_kv (g : α → V) (f : α → α) (h : ∀ x, g (f x) = g x) (l : List (Int × α)) (i : Int) : kv g (upAt l i f) = kv g l := by
  unfold upAt kv
  rw [List.map_map]
  refine List.map_congr_left fun t _ => ?_
  show (Sum.inl (if t.1 = i then (t.1, f t.2) else t).1, g (if t.1 = i then (t.1, f t.2) else t).2) = ((Sum.inl t.1 : Key), g t.2)
  split
  · rw [h]
  · rfl
end
/-- the rows of one table are changed -/
def Tb.fn (f : List (Int × Int) → List (Int × Int)) (t : Tb) : Tb := ⟨t.ad, f t.rows⟩
theorem Sy.in_dcs {s : Sy} {b : Addr} (h : b ∈ s.dcs) : b ∈ s.foot := List.mem_cons_of_mem _ (List.mem_append_left _ h)
theorem Sy.in_ths {s : Sy} {b : Addr} (h : b ∈ s.ths') : b ∈ s.foot := List.mem_cons_of_mem _ (List.mem_append_right _ (List.mem_append_left _ h))
theorem Sy.in_lsts {s : Sy} {b : Addr} (h : b ∈ s.lsts) : b ∈ s.foot := List.mem_cons_of_mem _ (List.mem_append_right _ (List.mem_append_right _ (List.mem_append_left _ h)))
theorem Sy.in_ents {s : Sy} {b : Addr} (h : b ∈ s.ents) : b ∈ s.foot := List.mem_cons_of_mem _ (List.mem_append_right _ (List.mem_append_right _ (List.mem_append_right _ h)))
theorem Sy.foot_cases {s : Sy} {b : Addr} (h : b ∈ s.foot) : b = s.p ∨ b ∈ s.dcs ∨ b ∈ s.ths' ∨ b ∈ s.lsts ∨ b ∈ s.ents := by
  rcases List.mem_cons.mp h with h | h
  · exact .inl h
  · rcases List.mem_append.mp h with h | h
    · exact .inr (.inl h)
    · rcases List.mem_append.mp h with h | h
      · exact .inr (.inr (.inl h))
      · rcases List.mem_append.mp h with h | h
        · exact .inr (.inr (.inr (.inl h)))
        · exact .inr (.inr (.inr (.inr h)))
section
variable {K : PySem.W.Frag} {H : Hp} {s : Sy}
theorem SyAt.dc (S : SyAt K H s) {b : Addr} (h : b ∈ s.dcs) : ∃ kvs, H b = some (.dK kvs) := by
  rcases List.mem_cons.mp h with z | z
  · exact ⟨_, z ▸ S.tb⟩
  · rcases List.mem_cons.mp z with z | z
    · exact ⟨_, z ▸ S.gb⟩
    · obtain ⟨t, ht, rfl⟩ := List.mem_map.mp z
      exact ⟨_, S.tt t ht⟩
theorem SyAt.th' (S : SyAt K H s) {b : Addr} (h : b ∈ s.ths') : ∃ C dx fs, fs.lookup ("tables" : Str) = none ∧ fs.lookup ("label" : Str) = none ∧ H b = some (.ins C dx fs) := by
  obtain ⟨t, ht, rfl⟩ := List.mem_map.mp h
  have q := S.gt t ht
  cases e : t.2.tg with
  | src dx u f =>
    rw [e] at q
    exact ⟨_, _, _, rfl, rfl, q⟩
  | set dx L R es row =>
    rw [e] at q
    exact ⟨_, _, _, rfl, rfl, q.1⟩
theorem SyAt.ls (S : SyAt K H s) {b : Addr} (h : b ∈ s.lsts) : ∃ xs, H b = some (.lst xs) := by
  obtain ⟨t, ht, hb⟩ := List.mem_flatMap.mp h
  have q := S.gt t ht
  cases e : t.2.tg with
  | src dx u f =>
    rw [e] at hb
    cases hb
  | set dx L R es row =>
    rw [e] at q hb
    rcases List.mem_cons.mp hb with z | z
    · exact ⟨_, z ▸ q.2.1⟩
    · cases List.mem_singleton.mp z
      exact ⟨_, q.2.2.1⟩
theorem SyAt.en (S : SyAt K H s) {b : Addr} (h : b ∈ s.ents) : ∃ dx fs, fs.lookup ("tables" : Str) = none ∧ (fs.lookup ("label" : Str)).isSome = true ∧ H b = some (.ins (ga K "Entry") dx fs) := by
  obtain ⟨t, ht, hb⟩ := List.mem_flatMap.mp h
  have q := S.gt t ht
  cases e : t.2.tg with
  | src dx u f =>
    rw [e] at hb
    cases hb
  | set dx L R es row =>
    rw [e] at q hb
    obtain ⟨x, hx, rfl⟩ := List.mem_map.mp hb
    exact ⟨_, _, rfl, rfl, q.2.2.2 x hx⟩
theorem SyAt.some_of (S : SyAt K H s) {b : Addr} (h : b ∈ s.foot) : ∃ o, H b = some o := by
  rcases Sy.foot_cases h with z | z | z | z | z
  · exact ⟨_, z ▸ S.ob⟩
  · obtain ⟨_, q⟩ := S.dc z
    exact ⟨_, q⟩
  · obtain ⟨_, _, _, _, _, q⟩ := S.th' z
    exact ⟨_, q⟩
  · obtain ⟨_, q⟩ := S.ls z
    exact ⟨_, q⟩
  · obtain ⟨_, _, _, _, q⟩ := S.en z
    exact ⟨_, q⟩
/-- a table's rows are changed -/
theorem SyAt.rows (S : SyAt K H s) {i : Int} {t : Tb} {f : List (Int × Int) → List (Int × Int)} (hl : lk s.tabs i = some t) (nd : (s.tabs.map (·.1)).Nodup) :
    SyAt K (upd H t.ad (.dK (kv V.int (f t.rows)))) { s with tabs := upAt s.tabs i (Tb.fn f) } := by
  have hm := lk_mem hl
  have ht := S.tt _ hm
  have np : s.p ≠ t.ad := ne_of S.ob ht (fun z => nomatch z)
  obtain ⟨d1, d2⟩ := List.nodup_cons.mp S.nd
  obtain ⟨d3, d4⟩ := List.nodup_cons.mp d2
  have mA : t.ad ∈ s.tabs.map (·.2.ad) := List.mem_map.mpr ⟨_, hm, rfl⟩
  have nT : s.T ≠ t.ad := fun z => d1 (z ▸ List.mem_cons_of_mem _ mA)
  have nG : s.G ≠ t.ad := fun z => d3 (z ▸ mA)
  have ads : (upAt s.tabs i (Tb.fn f)).map (·.2.ad) = s.tabs.map (·.2.ad) := by
    unfold upAt
    rw [List.map_map]
    refine List.map_congr_left fun u _ => ?_
    show (if u.1 = i then (u.1, Tb.fn f u.2) else u).2.ad = u.2.ad
    split <;> rfl
  refine ⟨by rw [upd_ne np]; exact S.ob, ?_, fun u hu => ?_, by rw [upd_ne nG]; exact S.gb, fun u hu => ?_, ?_, S.nt, S.nl, S.ne⟩
  · rw [upd_ne nT]
    show H s.T = some (.dK (kv tbV (upAt s.tabs i (Tb.fn f))))
    rw [upAt_kv tbV (Tb.fn f) (fun _ => rfl)]
    exact S.tb
  · rcases upAt_mem hu with ⟨ni, hm'⟩ | ⟨x, hx, rfl⟩
    · have na : u.2.ad ≠ t.ad := fun z => by
        have e1 : u = (i, t) := inj_of_nodup d4 hm' hm z
        exact ni (by rw [e1])
      rw [upd_ne na]
      exact S.tt u hm'
    · have e : x = t := by
        have := lk_of_mem nd hx
        rw [hl] at this
        exact (Option.some.inj this).symm
      subst e
      exact upd_same
  · have q := S.gt u hu
    have hk : ∀ {b : Addr} {o : HO}, H b = some o → (∀ kvs, o ≠ .dK kvs) → upd H t.ad (.dK (kv V.int (f t.rows))) b = some o := fun {b o} e ne => by
      rw [upd_ne (ne_of e ht (ne _))]
      exact e
    cases e : u.2.tg with
    | src dx v fi =>
      rw [e] at q
      exact hk q fun _ z => nomatch z
    | set dx L R es row =>
      rw [e] at q
      exact ⟨hk q.1 fun _ z => (nomatch z), hk q.2.1 fun _ z => (nomatch z), hk q.2.2.1 fun _ z => (nomatch z), fun x hx => hk (q.2.2.2 x hx) fun _ z => (nomatch z)⟩
  · show (s.T :: s.G :: (upAt s.tabs i (Tb.fn f)).map (·.2.ad)).Nodup
    rw [ads]
    exact S.nd
where
  inj_of_nodup {l : List (Int × Tb)} (nd : (l.map (·.2.ad)).Nodup) {x y : Int × Tb} (hx : x ∈ l) (hy : y ∈ l) (e : x.2.ad = y.2.ad) : x = y := by
    induction l with
    | nil => cases hx
    | cons a l ih =>
      obtain ⟨n1, n2⟩ := List.nodup_cons.mp (show (a.2.ad :: l.map (·.2.ad)).Nodup from nd)
      rcases List.mem_cons.mp hx with zx | zx
      · rcases List.mem_cons.mp hy with zy | zy
        · rw [zx, zy]
        · subst zx
          exact (n1 (e ▸ List.mem_map.mpr ⟨_, zy, rfl⟩)).elim
      · rcases List.mem_cons.mp hy with zy | zy
        · subst zy
          exact (n1 (e ▸ List.mem_map.mpr ⟨_, zx, rfl⟩)).elim
        · exact ih n2 zx zy
end

section
variable {K : PySem.W.Frag} {H : Hp} {s : Sy}
/-- what the object at a is not: a change there keeps the things -/
theorem TgAt.keep {a b : Addr} {o : HO} {tg : Tg} (h : TgAt K H a tg) (ha : a ≠ b) (hl : ∀ x ∈ tg.lsts, x ≠ b) (he : ∀ x ∈ tg.ents, x ≠ b) : TgAt K (upd H b o) a tg := by
  cases tg with
  | src dx u f =>
    show upd H b o a = _
    rw [upd_ne ha]
    exact h
  | set dx L R es row =>
    obtain ⟨q1, q2, q3, q4⟩ := h
    refine ⟨by rw [upd_ne ha]; exact q1, by rw [upd_ne (hl L (by simp [Tg.lsts]))]; exact q2, by rw [upd_ne (hl R (by simp [Tg.lsts]))]; exact q3, fun e h => ?_⟩
    rw [upd_ne (he e.ad (List.mem_map.mpr ⟨e, h, rfl⟩))]
    exact q4 e h
/-- the parts of a system stand apart -/
theorem ins_ne {C C' dx dx' : Addr} {fs fs' : List (Str × V)} (f : Str) (h : fs.lookup f ≠ fs'.lookup f) : HO.ins C dx fs ≠ HO.ins C' dx' fs' := fun z => by
  cases z
  exact h rfl
theorem SyAt.np (S : SyAt K H s) {b : Addr} (h : b ∈ s.dcs ∨ b ∈ s.ths' ∨ b ∈ s.lsts ∨ b ∈ s.ents) : b ≠ s.p := by
  rcases h with z | z | z | z
  · obtain ⟨_, q⟩ := S.dc z
    exact ne_of q S.ob fun z => nomatch z
  · obtain ⟨_, _, _, e, _, q⟩ := S.th' z
    exact ne_of q S.ob (ins_ne "tables" (by rw [e]; exact fun z => nomatch z))
  · obtain ⟨_, q⟩ := S.ls z
    exact ne_of q S.ob fun z => nomatch z
  · obtain ⟨_, _, e, _, q⟩ := S.en z
    exact ne_of q S.ob (ins_ne "tables" (by rw [e]; exact fun z => nomatch z))
theorem Sy.th_in {s : Sy} {t : Int × Th} (h : t ∈ s.ths) : t.2.ad ∈ s.ths' := List.mem_map.mpr ⟨t, h, rfl⟩
theorem Sy.ls_in {s : Sy} {t : Int × Th} (h : t ∈ s.ths) {x : Addr} (hx : x ∈ t.2.tg.lsts) : x ∈ s.lsts := List.mem_flatMap.mpr ⟨t, h, hx⟩
theorem Sy.en_in {s : Sy} {t : Int × Th} (h : t ∈ s.ths) {x : Addr} (hx : x ∈ t.2.tg.ents) : x ∈ s.ents := List.mem_flatMap.mpr ⟨t, h, hx⟩
theorem SyAt.dc_th (S : SyAt K H s) {a b : Addr} (ha : a ∈ s.dcs) (hb : b ∈ s.ths' ∨ b ∈ s.lsts ∨ b ∈ s.ents) : b ≠ a := by
  obtain ⟨_, q⟩ := S.dc ha
  rcases hb with z | z | z
  · obtain ⟨_, _, _, _, _, q'⟩ := S.th' z
    exact ne_of q' q fun z => nomatch z
  · obtain ⟨_, q'⟩ := S.ls z
    exact ne_of q' q fun z => nomatch z
  · obtain ⟨_, _, _, _, q'⟩ := S.en z
    exact ne_of q' q fun z => nomatch z
/-- the counter -/
theorem SyAt.count (S : SyAt K H s) (m : Int) : SyAt K (upd H s.p (.ins (ga K "System") s.dx (sysF s.P s.N s.T s.G m))) { s with made := m } := by
  refine ⟨upd_same, by rw [upd_ne (S.np (.inl List.mem_cons_self))]; exact S.tb, fun t h => ?_, by rw [upd_ne (S.np (.inl (List.mem_cons_of_mem _ List.mem_cons_self)))]; exact S.gb, fun t h => ?_, S.nd, S.nt, S.nl, S.ne⟩
  · rw [upd_ne (S.np (.inl (List.mem_cons_of_mem _ (List.mem_cons_of_mem _ (List.mem_map.mpr ⟨t, h, rfl⟩)))))]
    exact S.tt t h
  · exact (S.gt t h).keep (S.np (.inr (.inl (Sy.th_in h)))) (fun x hx => S.np (.inr (.inr (.inl (Sy.ls_in h hx))))) (fun x hx => S.np (.inr (.inr (.inr (Sy.en_in h hx)))))
/-- a new thing, which stands apart, is kept under a new serial -/
theorem SyAt.thing (S : SyAt K H s) {n : Int} {t : Th} (ht : TgAt K H t.ad t.tg) (h1 : t.ad ∉ s.foot) (h2 : ∀ x ∈ t.tg.lsts, x ∉ s.foot) (h3 : ∀ x ∈ t.tg.ents, x ∉ s.foot) (n2 : t.tg.lsts.Nodup) (n3 : t.tg.ents.Nodup) :
    SyAt K (upd H s.G (.dK (kv thV (s.ths ++ [(n, t)])))) { s with ths := s.ths ++ [(n, t)] } := by
  have mG : s.G ∈ s.dcs := List.mem_cons_of_mem _ List.mem_cons_self
  obtain ⟨d1, d2⟩ := List.nodup_cons.mp S.nd
  obtain ⟨d3, d4⟩ := List.nodup_cons.mp d2
  have fG : s.G ∈ s.foot := Sy.in_dcs mG
  have nTG : s.T ≠ s.G := fun z => d1 (by rw [z]; exact List.mem_cons_self)
  have nG : ∀ {u : Int × Tb}, u ∈ s.tabs → u.2.ad ≠ s.G := fun {u} h z => d3 (by rw [← z]; exact List.mem_map.mpr ⟨u, h, rfl⟩)
  refine ⟨by rw [upd_ne (Ne.symm (S.np (.inl mG)))]; exact S.ob, by rw [upd_ne nTG]; exact S.tb, fun u h => ?_, upd_same, fun u h => ?_, S.nd, ?_, ?_, ?_⟩
  · rw [upd_ne (nG h)]
    exact S.tt u h
  · rcases List.mem_append.mp h with h | h
    · exact (S.gt u h).keep (S.dc_th mG (.inl (Sy.th_in h))) (fun x hx => S.dc_th mG (.inr (.inl (Sy.ls_in h hx)))) (fun x hx => S.dc_th mG (.inr (.inr (Sy.en_in h hx))))
    · cases List.mem_singleton.mp h
      exact ht.keep (fun z => h1 (z ▸ fG)) (fun x hx z => h2 x hx (z ▸ fG)) (fun x hx z => h3 x hx (z ▸ fG))
  · show ((s.ths ++ [(n, t)]).map (·.2.ad)).Nodup
    rw [List.map_append]
    exact List.nodup_append.mpr ⟨S.nt, by simp, fun a ha b hb z => by
      have z' : a = t.ad := z.trans (List.mem_singleton.mp hb)
      exact h1 (by rw [← z']; exact Sy.in_ths ha)⟩
  · show ((s.ths ++ [(n, t)]).flatMap (·.2.tg.lsts)).Nodup
    rw [List.flatMap_append]
    refine List.nodup_append.mpr ⟨S.nl, by simpa using n2, fun a ha b hb z => ?_⟩
    have hb' : b ∈ t.tg.lsts := by simpa using hb
    exact h2 b hb' (z ▸ Sy.in_lsts ha)
  · show ((s.ths ++ [(n, t)]).flatMap (·.2.tg.ents)).Nodup
    rw [List.flatMap_append]
    refine List.nodup_append.mpr ⟨S.ne, by simpa using n3, fun a ha b hb z => ?_⟩
    have hb' : b ∈ t.tg.ents := by simpa using hb
    exact h3 b hb' (z ▸ Sy.in_ents ha)
/-- a new process with a table of its own -/
theorem SyAt.proc (S : SyAt K H s) {n : Int} {t : Tb} (ht : H t.ad = some (.dK (kv V.int t.rows))) (h1 : t.ad ∉ s.foot) :
    SyAt K (upd H s.T (.dK (kv tbV (s.tabs ++ [(n, t)])))) { s with tabs := s.tabs ++ [(n, t)] } := by
  have mT : s.T ∈ s.dcs := List.mem_cons_self
  obtain ⟨d1, d2⟩ := List.nodup_cons.mp S.nd
  have fT : s.T ∈ s.foot := Sy.in_dcs mT
  have nGT : s.G ≠ s.T := fun z => d1 (by rw [← z]; exact List.mem_cons_self)
  have nT : ∀ {u : Int × Tb}, u ∈ s.tabs → u.2.ad ≠ s.T := fun {u} h z => d1 (by rw [← z]; exact List.mem_cons_of_mem _ (List.mem_map.mpr ⟨u, h, rfl⟩))
  have tT : t.ad ≠ s.T := fun z => h1 (by rw [z]; exact fT)
  refine ⟨by rw [upd_ne (Ne.symm (S.np (.inl mT)))]; exact S.ob, upd_same, fun u h => ?_, by rw [upd_ne nGT]; exact S.gb, fun u h => ?_, ?_, S.nt, S.nl, S.ne⟩
  · rcases List.mem_append.mp h with h | h
    · rw [upd_ne (nT h)]
      exact S.tt u h
    · cases List.mem_singleton.mp h
      rw [upd_ne tT]
      exact ht
  · exact (S.gt u h).keep (S.dc_th mT (.inl (Sy.th_in h))) (fun x hx => S.dc_th mT (.inr (.inl (Sy.ls_in h hx)))) (fun x hx => S.dc_th mT (.inr (.inr (Sy.en_in h hx))))
  · have e : (s.T :: s.G :: (s.tabs ++ [(n, t)]).map (·.2.ad)) = s.dcs ++ [t.ad] := by
      show s.T :: s.G :: (s.tabs ++ [(n, t)]).map (·.2.ad) = s.T :: s.G :: (s.tabs.map (·.2.ad)) ++ [t.ad]
      rw [List.map_append]
      rfl
    show (s.T :: s.G :: (s.tabs ++ [(n, t)]).map (·.2.ad)).Nodup
    rw [e]
    exact List.nodup_append.mpr ⟨S.nd, by simp, fun a ha b hb z => by
      have z' : a = t.ad := z.trans (List.mem_singleton.mp hb)
      exact h1 (by rw [← z']; exact Sy.in_dcs ha)⟩
end

/-! ### the pictures of these changes -/
def Sv.place (v : Sv) (i n : Int) (tv : Tv) : Sv := { v with made := v.made + 1, tabs := upAt v.tabs i (· ++ [(n, v.made)]), ths := v.ths ++ [(v.made, tv)] }
def Sv.fork (v : Sv) (c : Int) (rows : List (Int × Int)) : Sv := { v with tabs := v.tabs ++ [(c, rows)] }
def Tv.fresh : Tv → Prop
  | .src u f => 0 ≤ u
  | .set es row => es = [] ∧ row = []
theorem WF.place {v : Sv} (h : WF v) {i n : Int} {rows : List (Int × Int)} {tv : Tv} (hl : lk v.tabs i = some rows) (hn : 0 ≤ n ∧ n < v.N ∧ n ∉ rows.map (·.1)) (hf : tv.fresh) (hm : 0 ≤ v.made) : WF (v.place i n tv) := by
  have mem : (i, rows) ∈ v.tabs := lk_mem hl
  have one : ∀ {t : Int × List (Int × Int)}, t ∈ (v.place i n tv).tabs → t ∈ v.tabs ∨ t = (i, rows ++ [(n, v.made)]) := fun {t} ht => by
    rcases upAt_mem (show t ∈ upAt v.tabs i (· ++ [(n, v.made)]) from ht) with ⟨_, z⟩ | ⟨x, hx, rfl⟩
    · exact .inl z
    · have := lk_of_mem h.ndp hx
      rw [hl] at this
      cases this
      exact .inr rfl
  have old : ∀ {k : Int}, k ∈ v.ths.map (·.1) → k ∈ (v.place i n tv).ths.map (·.1) := fun {k} hk => by
    show k ∈ (v.ths ++ [(v.made, tv)]).map (·.1)
    rw [List.map_append]
    exact List.mem_append_left _ hk
  have nm : v.made ∉ v.ths.map (·.1) := fun z => by
    obtain ⟨t, ht, e⟩ := List.mem_map.mp z
    have := h.rs t ht
    omega
  refine ⟨h.p, h.n, ?_, fun t ht => ?_, fun t ht => ?_, fun t ht r hr => ?_, fun t ht r hr => ?_, ?_, fun t ht => ?_, fun t ht => ?_, fun t ht es row e => ?_⟩
  · show ((upAt v.tabs i (· ++ [(n, v.made)])).map (·.1)).Nodup
    rw [upAt_keys]
    exact h.ndp
  · rcases one ht with z | z
    · exact h.rp t z
    · subst z
      exact h.rp (i, rows) mem
  · rcases one ht with z | z
    · exact h.ndn t z
    · subst z
      show ((rows ++ [(n, v.made)]).map (·.1)).Nodup
      rw [List.map_append]
      exact nd_snoc (h.ndn (i, rows) mem) hn.2.2
  · rcases one ht with z | z
    · exact h.rn t z r hr
    · subst z
      rcases List.mem_append.mp hr with y | y
      · exact h.rn (i, rows) mem r y
      · cases List.mem_singleton.mp y
        exact ⟨hn.1, hn.2.1⟩
  · rcases one ht with z | z
    · exact old (h.th t z r hr)
    · subst z
      rcases List.mem_append.mp hr with y | y
      · exact old (h.th (i, rows) mem r y)
      · cases List.mem_singleton.mp y
        show v.made ∈ (v.ths ++ [(v.made, tv)]).map (·.1)
        simp
  · show ((v.ths ++ [(v.made, tv)]).map (·.1)).Nodup
    rw [List.map_append]
    exact nd_snoc h.nds nm
  · show 0 ≤ t.1 ∧ t.1 < v.made + 1
    rcases List.mem_append.mp ht with y | y
    · have := h.rs t y
      omega
    · cases List.mem_singleton.mp y
      show 0 ≤ v.made ∧ v.made < v.made + 1
      omega
  · have up : ∀ {u : Int × List (Int × Int)}, u ∈ v.tabs → ∃ u' ∈ (v.place i n tv).tabs, ∀ r ∈ u.2, r ∈ u'.2 := fun {u} hu => by
      refine ⟨_, List.mem_map.mpr ⟨u, hu, rfl⟩, fun r hr => ?_⟩
      show r ∈ (if u.1 = i then (u.1, u.2 ++ [(n, v.made)]) else u).2
      split
      · exact List.mem_append_left _ hr
      · exact hr
    rcases List.mem_append.mp ht with y | y
    · obtain ⟨u, hu, r, hr, e⟩ := h.held t y
      obtain ⟨u', hu', k⟩ := up hu
      exact ⟨u', hu', r, k r hr, e⟩
    · cases List.mem_singleton.mp y
      refine ⟨(i, rows ++ [(n, v.made)]), List.mem_map.mpr ⟨(i, rows), mem, if_pos rfl⟩, (n, v.made), List.mem_append_right _ (List.mem_singleton.mpr rfl), rfl⟩
  · have ext : ∀ {k : Int} {x : Tv}, lk v.ths k = some x → lk (v.ths ++ [(v.made, tv)]) k = some x := fun {k x} hk => by rw [lk_app, hk]; rfl
    rcases List.mem_append.mp ht with y | y
    · obtain ⟨h1, h2, h3, h4, h5, h6⟩ := h.ok t y es row e
      exact ⟨h1, h2, h3, h4, fun x hx => (h5 x hx).imp fun u ⟨f, q⟩ => ⟨f, ext q⟩, h6⟩
    · cases List.mem_singleton.mp y
      have e' : tv = .set es row := e
      subst e'
      obtain ⟨rfl, rfl⟩ := hf
      exact ⟨List.nodup_nil, List.nodup_nil, List.nodup_nil, fun x hx => (nomatch hx), fun x hx => (nomatch hx), Nat.zero_le _⟩
theorem WF.fork {v : Sv} (h : WF v) {i c : Int} {rows : List (Int × Int)} (hl : lk v.tabs i = some rows) (hc : 0 ≤ c ∧ c < v.P ∧ c ∉ v.tabs.map (·.1)) : WF (v.fork c rows) := by
  have mem : (i, rows) ∈ v.tabs := lk_mem hl
  have one : ∀ {t : Int × List (Int × Int)}, t ∈ v.tabs ++ [(c, rows)] → t ∈ v.tabs ∨ t = (c, rows) := fun {t} ht => by simpa using ht
  refine ⟨h.p, h.n, ?_, fun t ht => ?_, fun t ht => ?_, fun t ht r hr => ?_, fun t ht r hr => ?_, h.nds, h.rs, fun t ht => ?_, h.ok⟩
  · show ((v.tabs ++ [(c, rows)]).map (·.1)).Nodup
    rw [List.map_append]
    exact nd_snoc h.ndp hc.2.2
  · rcases one ht with z | z
    · exact h.rp t z
    · subst z
      exact ⟨hc.1, hc.2.1⟩
  · rcases one ht with z | z
    · exact h.ndn t z
    · subst z
      exact h.ndn (i, rows) mem
  · rcases one ht with z | z
    · exact h.rn t z r hr
    · subst z
      exact h.rn (i, rows) mem r hr
  · rcases one ht with z | z
    · exact h.th t z r hr
    · subst z
      exact h.th (i, rows) mem r hr
  · obtain ⟨u, hu, q⟩ := h.held t ht
    exact ⟨u, List.mem_append_left _ hu, q⟩

end Wn
namespace Wn
open PySem PySem.Spec PyProof.Rows L2 LamX He
theorem upd_comm {H : Hp} {a b : Addr} {o u : HO} (h : a ≠ b) : upd (upd H a o) b u = upd (upd H b u) a o := by
  funext c
  by_cases c1 : c = a
  · subst c1
    rw [upd_ne h, upd_same, upd_same]
  · rw [upd_ne c1]
    by_cases c2 : c = b
    · subst c2
      rw [upd_same, upd_same]
    · rw [upd_ne c2, upd_ne c2, upd_ne c1]
theorem upd_idem {H : Hp} {a : Addr} {o : HO} (h : H a = some o) : upd H a o = H := by
  funext c
  by_cases c1 : c = a
  · subst c1
    rw [upd_same, h]
  · rw [upd_ne c1]
/-! ### a dict made by a walk -/
theorem dc_it {J : It} {n : Nat} {G : Hp → Prop} {Y : Nat → Hp → V → Hp → Prop} (w : Walk J n G Y) {g : TG} {tt : TT} {tk tv : TE} {vs : List Nat} {σ : L2.St} {H1 : Hp} {D : Addr} {Qd : Hp → Prop} (Pv : Nat → Hp → Prop) (h0 : Pv 0 (upd H1 D (.dK []))) (hG : ∀ i H, i ≤ n → Pv i H → G H)
    (hs : ∀ i x H H', i < n → Pv i H → Y i H x H' → g x (wipe σ vs) H' fun σ2 H2 => wipe σ2 vs = wipe σ vs ∧ tt σ2 H2 fun b H3 =>
      if b = true then tk σ2 H3 fun y H4 => tv σ2 H4 fun z H5 => ∃ kvs k, y = kV k ∧ H5 D = some (.dK kvs) ∧ kvs.length < sizeLine ∧ Pv (i + 1) (upd H5 D (.dK (putK kvs k z))) else Pv (i + 1) H3) (hd : ∀ H, Pv n H → Qd H) :
    ∃ W : Nat → Nat → Hp → Prop, (∃ m, W 0 m (upd H1 D (.dK []))) ∧ ∀ i m H, W i m H →
      (J.stop i H ∧ Qd H) ∨ (J.go i H ∧ ∃ Nx : Hp → Prop, (∀ H', Nx H' → ∃ m', m' < m ∧ W (i + 1) m' H') ∧ ∀ x H', J.yld i H x H' → g x (wipe σ vs) H' fun σ2 H2 => wipe σ2 vs = wipe σ vs ∧ tt σ2 H2 fun b H3 =>
        if b = true then tk σ2 H3 fun y H4 => tv σ2 H4 fun z H5 => ∃ kvs k, y = kV k ∧ H5 D = some (.dK kvs) ∧ kvs.length < sizeLine ∧ Nx (upd H5 D (.dK (putK kvs k z))) else Nx H3) := by
  refine ⟨fun i m H => m = n - i ∧ i ≤ n ∧ Pv i H, ⟨n, by simp, Nat.zero_le _, h0⟩, ?_⟩
  rintro i m H ⟨rfl, hi, p⟩
  have q := hG i H hi p
  by_cases hlt : i < n
  · exact .inr ⟨w.goes i H hlt q, Pv (i + 1), fun H' p' => ⟨n - (i + 1), by omega, rfl, hlt, p'⟩, fun x H' y => hs i x H H' hlt p (w.yields i H x H' hlt q y)⟩
  · have e : i = n := by omega
    subst e
    exact .inl ⟨w.stops H q, hd H p⟩
theorem take_put {l : List (Int × Int)} (nd : (l.map (·.1)).Nodup) {i : Nat} {r : Int × Int} (h : l[i]? = some r) : putK (kv V.int (l.take i)) (Sum.inl r.1 : Key) (.int r.2) = kv V.int (l.take (i + 1)) := by
  have e : l.take (i + 1) = l.take i ++ [r] := by rw [List.take_succ, h]; rfl
  rw [e, put_kv V.int r.1 r.2 (l := l.take i)]
  rw [lk_none]
  intro z
  have hi : i < l.length := by
    rcases Nat.lt_or_ge i l.length with h' | h'
    · exact h'
    · rw [List.getElem?_eq_none h'] at h
      cases h
  have s1 : l.map (·.1) = (l.take i).map (·.1) ++ (l.drop i).map (·.1) := by rw [← List.map_append, List.take_append_drop]
  rw [s1] at nd
  refine (List.nodup_append.mp nd).2.2 r.1 z r.1 ?_ rfl
  refine List.mem_map.mpr ⟨r, ?_, rfl⟩
  rw [List.drop_eq_getElem_cons hi]
  have : l[i] = r := by
    rw [List.getElem?_eq_getElem hi] at h
    exact Option.some.inj h
  rw [this]
  exact List.mem_cons_self
theorem kv_get {α : Type} {g : α → V} {l : List (Int × α)} {i : Nat} {k : Key} {v : V} (h : (kv g l)[i]? = some (k, v)) : ∃ r, l[i]? = some r ∧ k = Sum.inl r.1 ∧ v = g r.2 := by
  unfold kv at h
  rw [List.getElem?_map] at h
  cases e : l[i]? with
  | none => rw [e] at h; cases h
  | some r =>
    rw [e] at h
    cases h
    exact ⟨r, rfl, rfl, rfl⟩
/-! ### data that is new -/
/-- what stands in H' and not in H -/
def frs (H H' : Hp) : Hp := fun a => match H a with
  | none => H' a
  | some _ => none
def off (D : Addr) (H : Hp) : Hp := fun a => if a = D then none else H a
theorem frs_le {H H' : Hp} : Same (frs H H') H' := fun b o h => by
  unfold frs at h
  split at h
  · exact h
  · cases h
theorem off_le {D : Addr} {H : Hp} : Same (off D H) H := fun b o h => by
  unfold off at h
  split at h
  · cases h
  · exact h
theorem frs_new {H H' : Hp} {p : Addr} (h : H p = none) : frs H H' p = H' p := by
  unfold frs
  rw [h]
theorem off_ne {D p : Addr} {H : Hp} (h : p ≠ D) : off D H p = H p := if_neg h
theorem frs_mono {H H1 H2 : Hp} (e : Same H1 H2) : Same (frs H H1) (frs H H2) := fun b o h => by
  unfold frs at h ⊢
  cases q : H b with
  | none => rw [q] at h; exact e b o h
  | some _ => rw [q] at h; cases h
/-- what is new since a later heap is new since an earlier one -/
theorem frs_old {H H1 H2 : Hp} (e : Same H H1) : Same (frs H1 H2) (frs H H2) := fun b o h => by
  unfold frs at h ⊢
  cases q : H1 b with
  | none => rw [q] at h; rw [e.free q]; exact h
  | some _ => rw [q] at h; cases h
theorem off_mono {D : Addr} {H1 H2 : Hp} (e : Same H1 H2) : Same (off D H1) (off D H2) := fun b o h => by
  unfold off at h ⊢
  split at h
  · cases h
  · rw [if_neg (by assumption)]; exact e b o h
theorem off_upd {D : Addr} {H : Hp} {o : HO} : off D (upd H D o) = off D H := by
  funext b
  unfold off
  split
  · rfl
  · rw [upd_ne (by assumption)]
/-- a list that is being made at D: what is in it is new, and not D -/
structure Gro (K : PySem.W.Frag) (H1 : Hp) (D : Addr) (H' : Hp) (ds : List PyData) : Prop where
  new : H1 D = none
  same : Same H1 H'
  has : ∃ xs, H' D = some (.lst xs) ∧ DpAll K (frs H1 (off D H')) xs ds
section
variable {K : PySem.W.Frag} {H1 H' H4 : Hp} {D : Addr} {ds : List PyData} {d : PyData} {y : V}
theorem Gro.start (h : H1 D = none) : Gro K H1 D (upd H1 D (.lst [])) [] := ⟨h, fun b o e => by rw [upd_ne (ne_of_none e h)]; exact e, [], upd_same, .nil⟩
theorem Gro.add (g : Gro K H1 D H' ds) (e : Same H' H4) (hy : Dp K (frs H1 (off D H4)) y d) : ∃ xs, H4 D = some (.lst xs) ∧ xs.length = ds.length ∧ Gro K H1 D (upd H4 D (.lst (xs ++ [y]))) (ds ++ [d]) := by
  obtain ⟨xs, h1, h2⟩ := g.has
  refine ⟨xs, e _ _ h1, dpLen h2, g.new, fun b o q => by rw [upd_ne (ne_of_none q g.new)]; exact e _ _ (g.same _ _ q), _, upd_same, ?_⟩
  rw [off_upd]
  exact dpApp (DpAll.same (frs_mono (off_mono e)) _ _ h2) (.cons hy .nil)
theorem Gro.fin (g : Gro K H1 D H' ds) : Dp K (frs H1 H') (.ref D) (.list ds) := by
  obtain ⟨xs, h1, h2⟩ := g.has
  exact .lst (SqL.of (by rw [frs_new g.new]; exact h1)) (DpAll.same (frs_mono off_le) _ _ h2)
theorem Gro.ext (g : Gro K H1 D H' ds) (e : Same H' H4) : Gro K H1 D H4 ds := by
  obtain ⟨xs, h1, h2⟩ := g.has
  exact ⟨g.new, g.same.trans e, xs, e _ _ h1, DpAll.same (frs_mono (off_mono e)) _ _ h2⟩
/-- a new tuple of data, made while D grows -/
theorem Gro.tup (g : Gro K H1 D H' ds) {p : Addr} {vs : List V} {es : List PyData} (e : Same H' H4) (hp : H4 p = none) (h : DpAll K (frs H1 (off D (upd H4 p (.tup vs)))) vs es) : Dp K (frs H1 (off D (upd H4 p (.tup vs)))) (.ref p) (.tuple es) := by
  obtain ⟨xs, h1, _⟩ := g.has
  have ne : p ≠ D := fun z => by
    subst z
    rw [e _ _ h1] at hp
    cases hp
  refine .tup (SqT.of ?_) h
  rw [frs_new ((g.same.trans e).free hp), off_ne ne, upd_same]
end
theorem frs_frs {H1 H' H4 : Hp} {D D2 : Addr} {o : HO} (e : Same H1 H') (hD : H' D = some o) : Same (frs H' (off D2 H4)) (frs H1 (off D H4)) := fun b u h => by
  have hb : H' b = none := by
    cases q : H' b with
    | none => rfl
    | some _ =>
      unfold frs at h
      rw [q] at h
      cases h
  rw [frs_new hb] at h
  rw [frs_new (e.free hb), off_ne (fun z => by rw [z, hD] at hb; cases hb)]
  exact off_le _ _ h
theorem Gro.addAll {K : PySem.W.Frag} {H1 H' H4 : Hp} {D D2 : Addr} {ds es : List PyData} (g : Gro K H1 D H' ds) (g2 : Gro K H' D2 H4 es) : ∃ xs zs, H4 D = some (.lst xs) ∧ H4 D2 = some (.lst zs) ∧ xs.length = ds.length ∧ zs.length = es.length ∧ Gro K H1 D (upd H4 D (.lst (xs ++ zs))) (ds ++ es) := by
  obtain ⟨xs, h1, h2⟩ := g.has
  obtain ⟨zs, h3, h4⟩ := g2.has
  refine ⟨xs, zs, g2.same _ _ h1, h3, dpLen h2, dpLen h4, g.new, fun b o q => by rw [upd_ne (ne_of_none q g.new)]; exact g2.same _ _ (g.same _ _ q), _, upd_same, ?_⟩
  rw [off_upd]
  exact dpApp (DpAll.same (frs_mono (off_mono g2.same)) _ _ h2) (DpAll.same (frs_frs g.same h1) _ _ h4)
theorem DpAll.get {K : PySem.W.Frag} {H : Hp} : ∀ {xs : List V} {ds : List PyData} {i : Nat} {d : PyData}, DpAll K H xs ds → ds[i]? = some d → ∃ v, xs[i]? = some v ∧ Dp K H v d
  | _, _, 0, _, .cons h _, e => by
    cases e
    exact ⟨_, rfl, h⟩
  | _, _, i + 1, _, .cons _ t, e => DpAll.get (i := i) t e
/-- e.f inside a comprehension: the known facts K are named -/
theorem pe_fldK {X : Cx} {e : Expr} {f : Str} {pos : Pos} {ta : TE} (K : PySem.W.Frag) (he : PE X e ta) (hb : attributeBase e f X.env (eval e X.env) = eval e X.env) (hK : X.K = K := by rfl) : PE X (.Attribute e f pos) (tFld K ta f) := by
  subst hK
  exact pe_fld he hb
theorem call_isiK {X : Cx} (K : PySem.W.Frag) (hK : X.K = K := by rfl) : CallR X (.builtin "isinstance") (rIsi K) := by
  subst hK
  exact call_isi
/-! ### a property of one of two classes -/
end Wn
namespace Wn
open PySem PySem.Spec PyProof.Rows L2 LamX He
/-! ### calls in the body of a try: the wish looks at the slots -/
section
variable {X : Cx} {CX : CXT} {k : Nat} {f C : Addr} {fd : FuncData} {ps ks : List Str} {sp : Sp} {dvs : List V} {ds : List Value} {E : L2.St → XK} {x m : Str} {p pos apos : Pos} {e o : Expr} {es : List Expr} {kws : List Keyword} {ta : TE} {t tk : TA} {g : List Value → List Value → List Value} {gV : List V → List V → List V}
end
end Wn
namespace Wn
open PySem PySem.Spec PyProof.Rows L2 LamX He
/-! ### list(range(..)) -/
def rngV (lo : Int) (n : Nat) : List V := (List.range n).map fun k => .int (lo + (k : Nat))
theorem vals_of : ∀ {xs : List V} {us : List Value}, xs.length = us.length → (∀ (k : Nat) v u, xs[k]? = some v → us[k]? = some u → L2.RelV v u) → Vals xs us
  | [], [], _, _ => .nil
  | _ :: _, [], h, _ => by cases h
  | [], _ :: _, h, _ => by cases h
  | x :: xs, u :: us, h, r => .cons (r 0 x u rfl rfl) (vals_of (Nat.succ.inj h) fun k v w e1 e2 => r (k + 1) v w e1 e2)
section
variable {X : Cx} {a b : Expr} {ta : TA} {p p2 pos pos2 : Pos}
end
end Wn
namespace Wn
open PySem PySem.Spec PyProof.Rows L2 LamX He
/-! ### len(o), o an instance of an own class -/
end Wn
namespace Wn
open PySem PySem.Spec PyProof.Rows L2 LamX He
/-! ### one thing of a system is another -/
section
variable {α : Type} {f : α → List Addr} {n : Int} {x y : α}
def allF (f : α → List Addr) (l : List (Int × α)) : List Addr := l.flatMap fun t => f t.2
theorem allF_cons (t : Int × α) (l : List (Int × α)) : allF f (t :: l) = f t.2 ++ allF f l := List.flatMap_cons
theorem allF_mem {l : List (Int × α)} {a : Addr} : a ∈ allF f l ↔ ∃ t ∈ l, a ∈ f t.2 := List.mem_flatMap
theorem upAt_cons (t : Int × α) (l : List (Int × α)) (g : α → α) : upAt (t :: l) n g = (if t.1 = n then (t.1, g t.2) else t) :: upAt l n g := rfl
theorem upAt_none : ∀ {l : List (Int × α)} {g : α → α}, lk l n = none → upAt l n g = l
  | [], _, _ => rfl
  | t :: l, g, h => by
    by_cases e : t.1 = n
    · rw [lk_pos e] at h
      cases h
    · rw [lk_neg e] at h
      rw [upAt_cons, if_neg e, upAt_none h]
/-- the others are apart from it -/
theorem apart_of : ∀ {l : List (Int × α)}, (l.map (·.1)).Nodup → lk l n = some x → (allF f l).Nodup → ∀ t ∈ l, t.1 ≠ n → ∀ a ∈ f t.2, a ∉ f x
  | [], _, h, _ => nomatch h
  | r :: l, nd, hl, h => by
    obtain ⟨n1, n2⟩ := List.nodup_cons.mp (show (r.1 :: l.map (·.1)).Nodup from nd)
    rw [allF_cons] at h
    obtain ⟨d1, d2, d3⟩ := List.nodup_append.mp h
    intro t ht ne a ha hx
    by_cases e : r.1 = n
    · rw [lk_pos e] at hl
      cases hl
      rcases List.mem_cons.mp ht with z | z
      · exact ne (z ▸ e)
      · exact d3 a hx a (allF_mem.mpr ⟨t, z, ha⟩) rfl
    · rw [lk_neg e] at hl
      rcases List.mem_cons.mp ht with z | z
      · subst z
        exact d3 a ha a (allF_mem.mpr ⟨_, lk_mem hl, hx⟩) rfl
      · exact apart_of n2 hl d2 t z ne a ha hx
theorem allF_up : ∀ {l : List (Int × α)} {a : Addr}, a ∈ allF f (upAt l n fun _ => y) → (∃ t ∈ l, t.1 ≠ n ∧ a ∈ f t.2) ∨ a ∈ f y := fun {l a} h => by
  obtain ⟨t, ht, ha⟩ := allF_mem.mp h
  rcases upAt_mem ht with ⟨ne, hm⟩ | ⟨z, _, rfl⟩
  · exact .inl ⟨t, hm, ne, ha⟩
  · exact .inr ha
theorem nodup_up : ∀ {l : List (Int × α)}, (l.map (·.1)).Nodup → lk l n = some x → (allF f l).Nodup → (f y).Nodup → (∀ a ∈ f y, a ∈ f x ∨ a ∉ allF f l) → (allF f (upAt l n fun _ => y)).Nodup
  | [], _, h, _, _, _ => nomatch h
  | r :: l, nd, hl, h, hy, hn => by
    obtain ⟨n1, n2⟩ := List.nodup_cons.mp (show (r.1 :: l.map (·.1)).Nodup from nd)
    have ap := apart_of nd hl h
    rw [allF_cons] at h hn
    obtain ⟨d1, d2, d3⟩ := List.nodup_append.mp h
    rw [upAt_cons, allF_cons]
    by_cases e : r.1 = n
    · rw [lk_pos e] at hl
      cases hl
      have nn : lk l n = none := lk_none.mpr (e ▸ n1)
      rw [upAt_none nn, if_pos e]
      refine List.nodup_append.mpr ⟨hy, d2, fun a ha b hb z => ?_⟩
      subst z
      rcases hn a ha with q | q
      · exact d3 a q a hb rfl
      · exact q (List.mem_append_right _ hb)
    · rw [lk_neg e] at hl
      rw [if_neg e]
      refine List.nodup_append.mpr ⟨d1, nodup_up n2 hl d2 hy (fun a ha => (hn a ha).imp id fun q z => q (List.mem_append_right _ z)), fun a ha b hb z => ?_⟩
      subst z
      rcases allF_up hb with ⟨t, ht, ne, hat⟩ | hay
      · exact d3 a ha a (allF_mem.mpr ⟨t, ht, hat⟩) rfl
      · rcases hn a hay with q | q
        · exact ap r List.mem_cons_self e a ha q
        · exact q (List.mem_append_left _ ha)
end
theorem allF_one : ∀ l : List (Int × Th), allF (fun t : Th => [t.ad]) l = l.map (·.2.ad)
  | [] => rfl
  | r :: l => by
    rw [allF_cons, allF_one l]
    rfl
def Sy.re (s : Sy) (n : Int) (a : Addr) (tg : Tg) : Sy := { s with ths := upAt s.ths n fun _ => ⟨a, tg⟩ }
def Sv.re (v : Sv) (n : Int) (tv : Tv) : Sv := { v with ths := upAt v.ths n fun _ => tv }
theorem Sy.re_v (s : Sy) (n : Int) (a : Addr) (tg : Tg) : (s.re n a tg).v = s.v.re n tg.v := by
  show (⟨s.P, s.N, s.made, _, (upAt s.ths n fun _ => (⟨a, tg⟩ : Th)).map fun t => (t.1, t.2.tg.v)⟩ : Sv) = _
  rw [upAt_map (fun t : Th => t.tg.v) (fun _ => (⟨a, tg⟩ : Th)) (fun _ => tg.v) (fun _ => rfl)]
  rfl
section
variable {K : PySem.W.Frag} {H H' : Hp} {s : Sy} {n : Int} {t : Th} {tg : Tg}
theorem Sy.re_ths' (hl : lk s.ths n = some t) (nd : (s.ths.map (·.1)).Nodup) : (s.re n t.ad tg).ths' = s.ths' := by
  unfold Sy.ths' Sy.re upAt
  rw [List.map_map]
  refine List.map_congr_left fun u hu => ?_
  show (if u.1 = n then (u.1, (⟨t.ad, tg⟩ : Th)) else u).2.ad = u.2.ad
  split
  · rename_i e
    have z := lk_of_mem nd (show (u.1, u.2) ∈ s.ths from hu)
    rw [e, hl] at z
    cases z
    rfl
  · rfl
theorem SyAt.re (S : SyAt K H s) (hl : lk s.ths n = some t) (nd : (s.ths.map (·.1)).Nodup) (keep : ∀ b ∈ s.foot, b ≠ t.ad → b ∉ t.tg.lsts → b ∉ t.tg.ents → H' b = H b) (ht : TgAt K H' t.ad tg)
    (hL : ∀ x ∈ tg.lsts, x ∈ t.tg.lsts ∨ x ∉ s.foot) (hE : ∀ x ∈ tg.ents, x ∈ t.tg.ents ∨ x ∉ s.foot) (nl : tg.lsts.Nodup) (ne : tg.ents.Nodup) : SyAt K H' (s.re n t.ad tg) := by
  have tm := lk_mem hl
  have hta : t.ad ∈ s.ths' := Sy.th_in tm
  have tl : ∀ {x : Addr}, x ∈ t.tg.lsts → x ∈ s.lsts := fun h => Sy.ls_in tm h
  have te : ∀ {x : Addr}, x ∈ t.tg.ents → x ∈ s.ents := fun h => Sy.en_in tm h
  have th_ls : ∀ {a b : Addr}, a ∈ s.ths' → b ∈ s.lsts → a ≠ b := fun {a b} ha hb => by
    obtain ⟨_, _, _, _, _, q⟩ := S.th' ha
    obtain ⟨_, q'⟩ := S.ls hb
    exact ne_of q q' fun z => nomatch z
  have th_en : ∀ {a b : Addr}, a ∈ s.ths' → b ∈ s.ents → a ≠ b := fun {a b} ha hb => by
    obtain ⟨_, _, _, _, e1, q⟩ := S.th' ha
    obtain ⟨_, _, _, e2, q'⟩ := S.en hb
    exact ne_of q q' (ins_ne "label" (by rw [e1]; intro z; rw [← z] at e2; cases e2))
  have ls_en : ∀ {a b : Addr}, a ∈ s.lsts → b ∈ s.ents → a ≠ b := fun {a b} ha hb => by
    obtain ⟨_, q⟩ := S.ls ha
    obtain ⟨_, _, _, _, q'⟩ := S.en hb
    exact ne_of q q' fun z => nomatch z
  have kdc : ∀ {b : Addr}, b ∈ s.dcs → H' b = H b := fun {b} hb => keep b (Sy.in_dcs hb) (Ne.symm (S.dc_th hb (.inl hta))) (fun z => S.dc_th hb (.inr (.inl (tl z))) rfl) (fun z => S.dc_th hb (.inr (.inr (te z))) rfl)
  have kp : H' s.p = H s.p := keep _ List.mem_cons_self (Ne.symm (S.np (.inr (.inl hta)))) (fun z => S.np (.inr (.inr (.inl (tl z)))) rfl) (fun z => S.np (.inr (.inr (.inr (te z)))) rfl)
  have apA : ∀ u ∈ s.ths, u.1 ≠ n → u.2.ad ≠ t.ad := fun u hu ne z => by
    have q := apart_of (f := fun t : Th => [t.ad]) nd hl (by
      rw [allF_one]
      exact S.nt) u hu ne u.2.ad (List.mem_singleton.mpr rfl)
    exact q (List.mem_singleton.mpr z)
  have apL := apart_of (f := fun t : Th => t.tg.lsts) nd hl S.nl
  have apE := apart_of (f := fun t : Th => t.tg.ents) nd hl S.ne
  refine ⟨kp.trans S.ob, (kdc List.mem_cons_self).trans S.tb, fun u hu => (kdc (List.mem_cons_of_mem _ (List.mem_cons_of_mem _ (List.mem_map.mpr ⟨u, hu, rfl⟩)))).trans (S.tt u hu), ?_, fun u hu => ?_, S.nd, ?_, ?_, ?_⟩
  · rw [show (s.re n t.ad tg).G = s.G from rfl, kdc (List.mem_cons_of_mem _ List.mem_cons_self), S.gb]
    congr 2
    unfold Sy.re
    show kv thV s.ths = kv thV (upAt s.ths n fun _ => (⟨t.ad, tg⟩ : Th))
    unfold kv upAt
    rw [List.map_map]
    refine List.map_congr_left fun u hu => ?_
    show ((Sum.inl u.1 : Key), thV u.2) = (Sum.inl (if u.1 = n then (u.1, (⟨t.ad, tg⟩ : Th)) else u).1, thV (if u.1 = n then (u.1, (⟨t.ad, tg⟩ : Th)) else u).2)
    split
    · rename_i e
      have z := lk_of_mem nd (show (u.1, u.2) ∈ s.ths from hu)
      rw [e, hl] at z
      cases z
      rfl
    · rfl
  · rcases upAt_mem (show u ∈ upAt s.ths n (fun _ => (⟨t.ad, tg⟩ : Th)) from hu) with ⟨ni, hm⟩ | ⟨z, _, rfl⟩
    · have q := S.gt u hm
      have ka : H' u.2.ad = H u.2.ad := keep _ (Sy.in_ths (Sy.th_in hm)) (apA u hm ni) (fun z => th_ls (Sy.th_in hm) (tl z) rfl) (fun z => th_en (Sy.th_in hm) (te z) rfl)
      have kl : ∀ x ∈ u.2.tg.lsts, H' x = H x := fun x hx => keep x (Sy.in_lsts (Sy.ls_in hm hx)) (Ne.symm (th_ls hta (Sy.ls_in hm hx))) (apL u hm ni x hx) (fun z => ls_en (Sy.ls_in hm hx) (te z) rfl)
      have ke : ∀ x ∈ u.2.tg.ents, H' x = H x := fun x hx => keep x (Sy.in_ents (Sy.en_in hm hx)) (Ne.symm (th_en hta (Sy.en_in hm hx))) (fun z => ls_en (tl z) (Sy.en_in hm hx) rfl) (apE u hm ni x hx)
      cases e : u.2.tg with
      | src dx v fi =>
        rw [e] at q
        exact ka.trans q
      | set dx L R es row =>
        rw [e] at q kl ke
        exact ⟨ka.trans q.1, (kl L (by simp [Tg.lsts])).trans q.2.1, (kl R (by simp [Tg.lsts])).trans q.2.2.1, fun x hx => (ke x.ad (List.mem_map.mpr ⟨x, hx, rfl⟩)).trans (q.2.2.2 x hx)⟩
    · exact ht
  · rw [Sy.re_ths' hl nd]
    exact S.nt
  · exact nodup_up (f := fun t : Th => t.tg.lsts) (y := ⟨t.ad, tg⟩) nd hl S.nl nl fun a ha => (hL a ha).imp id fun z q => z (Sy.in_lsts q)
  · exact nodup_up (f := fun t : Th => t.tg.ents) (y := ⟨t.ad, tg⟩) nd hl S.ne ne fun a ha => (hE a ha).imp id fun z q => z (Sy.in_ents q)
theorem Sy.re_foot (hl : lk s.ths n = some t) (nd : (s.ths.map (·.1)).Nodup) {b : Addr} (h : b ∈ (s.re n t.ad tg).foot) : b ∈ s.foot ∨ b ∈ tg.lsts ∨ b ∈ tg.ents := by
  rcases Sy.foot_cases h with z | z | z | z | z
  · exact .inl (z ▸ List.mem_cons_self)
  · exact .inl (Sy.in_dcs z)
  · rw [Sy.re_ths' hl nd] at z
    exact .inl (Sy.in_ths z)
  · rcases allF_up (f := fun t : Th => t.tg.lsts) z with ⟨u, hu, _, q⟩ | q
    · exact .inl (Sy.in_lsts (Sy.ls_in hu q))
    · exact .inr (.inl q)
  · rcases allF_up (f := fun t : Th => t.tg.ents) z with ⟨u, hu, _, q⟩ | q
    · exact .inl (Sy.in_ents (Sy.en_in hu q))
    · exact .inr (.inr q)
end
end Wn
namespace Wn
open PySem PySem.Spec PyProof.Rows L2 LamX He
def Tv.isSet : Tv → Bool
  | .src _ _ => false
  | .set _ _ => true
/-! ### the things of a system changed, their kinds kept -/
def Sv.mapT (v : Sv) (g : Int → Tv → Tv) : Sv := { v with ths := v.ths.map fun t => (t.1, g t.1 t.2) }
theorem mapT_keys (v : Sv) (g : Int → Tv → Tv) : (v.mapT g).ths.map (·.1) = v.ths.map (·.1) := by
  show (v.ths.map fun t => (t.1, g t.1 t.2)).map (·.1) = _
  rw [List.map_map]
  rfl
theorem lk_mapK {α β : Type} (f : Int → α → β) (n : Int) : ∀ l : List (Int × α), lk (l.map fun r => (r.1, f r.1 r.2)) n = (lk l n).map (f n)
  | [] => rfl
  | r :: l => by
    show lk ((r.1, f r.1 r.2) :: l.map fun r => (r.1, f r.1 r.2)) n = _
    by_cases e : r.1 = n
    · rw [lk_pos (r := (r.1, f r.1 r.2)) e, lk_pos e, e]
      rfl
    · rw [lk_neg (r := (r.1, f r.1 r.2)) e, lk_neg e, lk_mapK f n l]
theorem Sv.re_map (v : Sv) (n : Int) (tv : Tv) : v.re n tv = v.mapT fun k x => if k = n then tv else x := by
  unfold Sv.re Sv.mapT upAt
  congr 1
  refine List.map_congr_left fun t _ => ?_
  show (if t.1 = n then (t.1, tv) else t) = (t.1, if t.1 = n then tv else t.2)
  split <;> rfl
theorem WF.mapT {v : Sv} (h : WF v) {g : Int → Tv → Tv} (hk : ∀ t ∈ v.ths, (g t.1 t.2).isSet = t.2.isSet) (hs : ∀ t ∈ v.ths, ∀ es row, g t.1 t.2 = .set es row → SetOk v es row) : WF (v.mapT g) where
  p := h.p
  n := h.n
  ndp := h.ndp
  rp := h.rp
  ndn := h.ndn
  rn := h.rn
  th := fun t ht r hr => by rw [mapT_keys]; exact h.th t ht r hr
  nds := by rw [mapT_keys]; exact h.nds
  rs := fun t ht => by
    obtain ⟨u, hu, rfl⟩ := List.mem_map.mp ht
    exact h.rs u hu
  held := fun t ht => by
    obtain ⟨u, hu, rfl⟩ := List.mem_map.mp ht
    exact h.held u hu
  ok := fun t ht es row e => by
    obtain ⟨u, hu, rfl⟩ := List.mem_map.mp ht
    obtain ⟨k1, k2, k3, k4, k5, k6⟩ := hs u hu es row e
    refine ⟨k1, k2, k3, k4, fun x hx => ?_, k6⟩
    obtain ⟨un, fi, q⟩ := k5 x hx
    have z : lk (v.mapT g).ths x.ser = some (g x.ser (.src un fi)) := by
      show lk (v.ths.map fun t => (t.1, g t.1 t.2)) x.ser = _
      rw [lk_mapK g, q]
      rfl
    have y := hk _ (lk_mem q)
    cases c : g x.ser (.src un fi) with
    | src a b => exact ⟨a, b, by rw [z, c]⟩
    | set a b =>
      rw [show g (x.ser, Tv.src un fi).1 (x.ser, Tv.src un fi).2 = g x.ser (.src un fi) from rfl, c] at y
      cases y
/-! ### pending -/
def pendR (row : List Int) (lab : Int) (arm : Bool) : List Int := if arm = true ∧ lab ∉ row then row ++ [lab] else row
def RowOk (es : List Ev) (row : List Int) : Prop := row.Nodup ∧ ∀ x ∈ row, ∃ e ∈ es, e.lab = x ∧ e.arm = true
theorem pendR_ok {es : List Ev} {row : List Int} {e : Ev} (h : RowOk es row) (he : e ∈ es) : RowOk es (pendR row e.lab e.arm) := by
  unfold pendR
  split
  · rename_i c
    refine ⟨nd_snoc h.1 c.2, fun x hx => ?_⟩
    rcases List.mem_append.mp hx with z | z
    · exact h.2 x z
    · cases List.mem_singleton.mp z
      exact ⟨e, he, rfl, c.1⟩
  · exact h
theorem nodup_le : ∀ {l m : List Int}, l.Nodup → (∀ x ∈ l, x ∈ m) → l.length ≤ m.length
  | [], _, _, _ => Nat.zero_le _
  | a :: l, m, nd, h => by
    obtain ⟨n1, n2⟩ := List.nodup_cons.mp nd
    have hm := h a List.mem_cons_self
    have k := nodup_le (m := m.erase a) n2 fun x hx => (List.mem_erase_of_ne (show x ≠ a from fun z => n1 (z ▸ hx))).mpr (h x (List.mem_cons_of_mem _ hx))
    rw [List.length_erase_of_mem hm] at k
    have := List.length_pos_of_mem hm
    rw [List.length_cons]
    omega
theorem RowOk.len {es : List Ev} {row : List Int} (h : RowOk es row) : row.length ≤ es.length := by
  have := nodup_le (m := es.map (·.lab)) h.1 fun x hx => by
    obtain ⟨e, he, q, _⟩ := h.2 x hx
    exact List.mem_map.mpr ⟨e, he, q⟩
  rw [List.length_map] at this
  exact this
theorem SetOk.row {v : Sv} {es : List Ev} {row : List Int} (h : SetOk v es row) : RowOk es row := ⟨h.2.2.1, h.2.2.2.1⟩
end Wn
/-! the law's level: values, objects by places, what they stand for in the heap -/
namespace Wn
open PySem PySem.Spec PyProof.Rows L2 LamX He

inductive Val where
  | non | bl (b : Bool) | int (i : Int) | str (x : Str) | tup (vs : List Val) | loc (n : Nat)
inductive Ob where
  | lst (vs : List Val)
  | dct (kvs : List (Key × Val))
  | ro (vs : List Val)
  | rod (kvs : List (Key × Val))
  | sys (v : Sv)
structure Mu where
  nx : Nat
  ob : Nat → Option Ob
def Mu.put (μ : Mu) (n : Nat) (o : Ob) : Mu := ⟨μ.nx, fun m => if m = n then some o else μ.ob m⟩
def Mu.new (μ : Mu) (o : Ob) : Mu := ⟨μ.nx + 1, fun m => if m = μ.nx then some o else μ.ob m⟩
theorem Mu.put_nx (μ : Mu) (n : Nat) (o : Ob) : (μ.put n o).nx = μ.nx := rfl
theorem Mu.new_nx (μ : Mu) (o : Ob) : (μ.new o).nx = μ.nx + 1 := rfl
theorem Mu.put_same (μ : Mu) (n : Nat) (o : Ob) : (μ.put n o).ob n = some o := if_pos rfl
theorem Mu.put_ne (μ : Mu) {n m : Nat} (o : Ob) (h : m ≠ n) : (μ.put n o).ob m = μ.ob m := if_neg h
theorem Mu.new_same (μ : Mu) (o : Ob) : (μ.new o).ob μ.nx = some o := if_pos rfl
theorem Mu.new_ne (μ : Mu) {m : Nat} (o : Ob) (h : m ≠ μ.nx) : (μ.new o).ob m = μ.ob m := if_neg h
/-- the places' addresses, the systems' parts -/
structure Wt where
  ad : Nat → Addr
  sy : Nat → Sy
  /-- whose dict is locked at an address -/
  own : Addr → Nat

mutual
inductive VR (K : PySem.W.Frag) (ad : Nat → Addr) (b : Nat) (H : Hp) : Val → V → Prop
  | non : VR K ad b H .non .non
  | bl (x : Bool) : VR K ad b H (.bl x) (.bl x)
  | int (i : Int) : VR K ad b H (.int i) (.int i)
  | str (x : Str) : VR K ad b H (.str x) (.str x)
  | tup {a : Addr} {vs : List Val} {us : List V} : SqT K H a us → VRs K ad b H vs us → VR K ad b H (.tup vs) (.ref a)
  | loc {n : Nat} : n < b → VR K ad b H (.loc n) (.ref (ad n))
inductive VRs (K : PySem.W.Frag) (ad : Nat → Addr) (b : Nat) (H : Hp) : List Val → List V → Prop
  | nil : VRs K ad b H [] []
  | cons {v : Val} {vs : List Val} {u : V} {us : List V} : VR K ad b H v u → VRs K ad b H vs us → VRs K ad b H (v :: vs) (u :: us)
end
structure Grow0 (K : PySem.W.Frag) (w : Wt) (b : Nat) (H : Hp) (w' : Wt) (b' : Nat) (H' : Hp) : Prop where
  le : b ≤ b'
  ad : ∀ n, n < b → w'.ad n = w.ad n
  tp : ∀ a xs, SqT K H a xs → SqT K H' a xs
structure Grow (K : PySem.W.Frag) (w : Wt) (b : Nat) (H : Hp) (w' : Wt) (b' : Nat) (H' : Hp) : Prop extends Grow0 K w b H w' b' H' where
  fz : ∀ a o u, H a = some (.frz o u) → H' a = some (.frz o u)
theorem Grow.refl {K : PySem.W.Frag} {w : Wt} {b : Nat} {H : Hp} : Grow K w b H w b H := ⟨⟨Nat.le_refl _, fun _ _ => rfl, fun _ _ h => h⟩, fun _ _ _ h => h⟩
theorem Grow.trans {K : PySem.W.Frag} {w w1 w2 : Wt} {b b1 b2 : Nat} {H H1 H2 : Hp} (x : Grow K w b H w1 b1 H1) (y : Grow K w1 b1 H1 w2 b2 H2) : Grow K w b H w2 b2 H2 :=
  ⟨⟨Nat.le_trans x.le y.le, fun n h => (y.ad n (Nat.lt_of_lt_of_le h x.le)).trans (x.ad n h), fun a xs h => y.tp a xs (x.tp a xs h)⟩, fun a o u h => y.fz a o u (x.fz a o u h)⟩
mutual
theorem VR.grow0 {K : PySem.W.Frag} {w w' : Wt} {b b' : Nat} {H H' : Hp} (g : Grow0 K w b H w' b' H') : ∀ {v : Val} {u : V}, VR K w.ad b H v u → VR K w'.ad b' H' v u
  | _, _, .non => .non
  | _, _, .bl x => .bl x
  | _, _, .int x => .int x
  | _, _, .str x => .str x
  | _, _, .tup h r => .tup (g.tp _ _ h) (VRs.grow0 g r)
  | _, _, .loc (n := n) h => by
    have z := VR.loc (K := K) (ad := w'.ad) (H := H') (Nat.lt_of_lt_of_le h g.le)
    rw [g.ad n h] at z
    exact z
theorem VRs.grow0 {K : PySem.W.Frag} {w w' : Wt} {b b' : Nat} {H H' : Hp} (g : Grow0 K w b H w' b' H') : ∀ {v : List Val} {u : List V}, VRs K w.ad b H v u → VRs K w'.ad b' H' v u
  | _, _, .nil => .nil
  | _, _, .cons h r => .cons (VR.grow0 g h) (VRs.grow0 g r)
end
theorem VR.grow {K : PySem.W.Frag} {w w' : Wt} {b b' : Nat} {H H' : Hp} (g : Grow K w b H w' b' H') {v : Val} {u : V} (h : VR K w.ad b H v u) : VR K w'.ad b' H' v u := h.grow0 g.toGrow0
theorem VRs.grow {K : PySem.W.Frag} {w w' : Wt} {b b' : Nat} {H H' : Hp} (g : Grow K w b H w' b' H') {v : List Val} {u : List V} (h : VRs K w.ad b H v u) : VRs K w'.ad b' H' v u := h.grow0 g.toGrow0
section
variable {K : PySem.W.Frag} {ad : Nat → Addr} {b : Nat} {H : Hp}
theorem VRs.length : ∀ {vs : List Val} {us : List V}, VRs K ad b H vs us → us.length = vs.length
  | _, _, .nil => rfl
  | _, _, .cons _ r => by simp [r.length]
theorem VRs.get : ∀ {vs : List Val} {us : List V}, VRs K ad b H vs us → ∀ (i : Nat) (v : Val), vs[i]? = some v → ∃ u, us[i]? = some u ∧ VR K ad b H v u
  | _, _, .nil, _, _, h => by simp at h
  | _, _, .cons (u := u) h r, 0, v, e => by
    simp at e
    subst e
    exact ⟨u, by simp, h⟩
  | _, _, .cons _ r, i + 1, v, e => by
    obtain ⟨u, h1, h2⟩ := r.get i v (by simpa using e)
    exact ⟨u, by simpa using h1, h2⟩
theorem VRs.app : ∀ {vs vs' : List Val} {us us' : List V}, VRs K ad b H vs us → VRs K ad b H vs' us' → VRs K ad b H (vs ++ vs') (us ++ us')
  | _, _, _, _, .nil, s => s
  | _, _, _, _, .cons h r, s => .cons h (r.app s)
theorem VRs.one {v : Val} {u : V} (h : VR K ad b H v u) : VRs K ad b H [v] [u] := .cons h .nil
theorem VRs.take : ∀ {vs : List Val} {us : List V} (n : Nat), VRs K ad b H vs us → VRs K ad b H (vs.take n) (us.take n)
  | _, _, 0, _ => by simp; exact .nil
  | _, _, n + 1, .nil => by simp; exact .nil
  | _, _, n + 1, .cons h r => .cons h (r.take n)
theorem VRs.drop : ∀ {vs : List Val} {us : List V} (n : Nat), VRs K ad b H vs us → VRs K ad b H (vs.drop n) (us.drop n)
  | _, _, 0, r => r
  | _, _, n + 1, .nil => by simp; exact .nil
  | _, _, n + 1, .cons h r => r.drop n
theorem VRs.set : ∀ {vs : List Val} {us : List V} (n : Nat) {v : Val} {u : V}, VRs K ad b H vs us → VR K ad b H v u → VRs K ad b H (vs.set n v) (us.set n u)
  | _, _, _, _, _, .nil, _ => by simp; exact .nil
  | _, _, 0, _, _, .cons h r, q => .cons q r
  | _, _, n + 1, _, _, .cons h r, q => .cons h (r.set n q)
theorem VRs.erase : ∀ {vs : List Val} {us : List V} (n : Nat), VRs K ad b H vs us → VRs K ad b H (vs.eraseIdx n) (us.eraseIdx n)
  | _, _, _, .nil => by simp; exact .nil
  | _, _, 0, .cons h r => r
  | _, _, n + 1, .cons h r => .cons h (r.erase n)
theorem VRs.ints : ∀ (l : List Int), VRs K ad b H (l.map Val.int) (l.map V.int)
  | [] => .nil
  | _ :: l => .cons (.int _) (VRs.ints l)
theorem VRs.flat : ∀ (k : Nat) {vs : List Val} {us : List V}, VRs K ad b H vs us → VRs K ad b H (List.replicate k vs).flatten (List.replicate k us).flatten
  | 0, _, _, _ => .nil
  | k + 1, vs, us, h => by
    rw [List.replicate_succ, List.replicate_succ, List.flatten_cons, List.flatten_cons]
    exact h.app (VRs.flat k h)
end
/-- a list that is never written -/
def RoL (K : PySem.W.Frag) (H : Hp) (a : Addr) (us : List V) : Prop := (∃ o, H a = some (.frz o (.lst us))) ∨ ∃ (o : Obj) (its : Array Value) (n : Nat), K.lookup a = some o ∧ o.cls = .type "list" ∧ o.dict = none ∧ o.data = .seq its n ∧ its.size ≤ sizeLine ∧ Vals us its.toList
theorem RoL.sq {K : PySem.W.Frag} {H : Hp} {a : Addr} {us : List V} (h : RoL K H a us) : SqL K H a us := by
  rcases h with h | h
  · exact .inl (.inr h)
  · exact .inr h
def ObR (K : PySem.W.Frag) (w : Wt) (b : Nat) (H : Hp) (n : Nat) : Ob → Prop
  | .lst vs => ∃ us, H (w.ad n) = some (.lst us) ∧ VRs K w.ad b H vs us
  | .dct kvs => ∃ us, H (w.ad n) = some (.dK us) ∧ us.map (·.1) = kvs.map (·.1) ∧ VRs K w.ad b H (kvs.map (·.2)) (us.map (·.2))
  | .ro vs => ∃ us, RoL K H (w.ad n) us ∧ VRs K w.ad b H vs us
  | .rod kvs => w.own (w.ad n) = n ∧ ∃ o us, H (w.ad n) = some (.frz o (.dK us)) ∧ us.map (·.1) = kvs.map (·.1) ∧ VRs K w.ad b H (kvs.map (·.2)) (us.map (·.2))
  | .sys v => (w.sy n).p = w.ad n ∧ SyAt K H (w.sy n) ∧ (w.sy n).v = v ∧ WF v
def ft (w : Wt) (n : Nat) : Option Ob → List Addr
  | some (.lst _) => [w.ad n]
  | some (.dct _) => [w.ad n]
  | some (.sys _) => (w.sy n).foot
  | _ => []
/-- what may be written: a list, a dict, an instance -/
def isM : HO → Bool
  | .lst _ => true
  | .dK _ => true
  | .ins _ _ _ => true
  | _ => false
/-- the tables of code objects of the defs that make lambdas -/
def TbK (K : PySem.W.Frag) : List (Addr × Str) := lamL.map fun x => ((cT K (x, none)).2, x ++ ".<locals>." ++ "<lambda>")
theorem tabs_keep {K : PySem.W.Frag} {H H' : Hp} {T : List (Addr × Str)} (t : Tabs T H) (k : ∀ a o, H a = some o → isM o = false → H' a = some o) : Tabs T H' := fun p hp => by
  obtain ⟨ps, h1, h2, h3⟩ := t p hp
  refine ⟨ps, k _ _ h1 rfl, h2, fun pos cv hc => ?_⟩
  obtain ⟨c, e1, e2⟩ := h3 pos cv hc
  exact ⟨c, e1, k _ _ e2 rfl⟩
structure Sim (K : PySem.W.Frag) (w : Wt) (μ : Mu) (H : Hp) : Prop where
  bd : ∀ n, μ.nx ≤ n → μ.ob n = none
  ok : ∀ n o, μ.ob n = some o → ObR K w μ.nx H n o
  dj : ∀ n m, n ≠ m → ∀ a ∈ ft w n (μ.ob n), a ∉ ft w m (μ.ob m)
  tb : Tabs (TbK K) H
section
variable {K : PySem.W.Frag} {w w' : Wt} {μ : Mu} {H H' : Hp}
theorem Sim.lt (S : Sim K w μ H) {n : Nat} {o : Ob} (h : μ.ob n = some o) : n < μ.nx := by
  rcases Nat.lt_or_ge n μ.nx with z | z
  · exact z
  · rw [S.bd n z] at h
    cases h
theorem foot_m {s : Sy} (S : SyAt K H s) {a : Addr} (h : a ∈ s.foot) : ∃ o, H a = some o ∧ isM o = true := by
  rcases List.mem_cons.mp h with z | z
  · subst z
    exact ⟨_, S.ob, rfl⟩
  · rcases List.mem_append.mp z with z | z
    · obtain ⟨k, q⟩ := S.dc z
      exact ⟨_, q, rfl⟩
    · rcases List.mem_append.mp z with z | z
      · obtain ⟨C, dx, fs, _, _, q⟩ := S.th' z
        exact ⟨_, q, rfl⟩
      · rcases List.mem_append.mp z with z | z
        · obtain ⟨xs, q⟩ := S.ls z
          exact ⟨_, q, rfl⟩
        · obtain ⟨dx, fs, _, _, q⟩ := S.en z
          exact ⟨_, q, rfl⟩
theorem Sim.ftm (S : Sim K w μ H) {n : Nat} {a : Addr} (h : a ∈ ft w n (μ.ob n)) : ∃ o, H a = some o ∧ isM o = true := by
  cases e : μ.ob n with
  | none => rw [e] at h; cases h
  | some o =>
    have q := S.ok n o e
    rw [e] at h
    cases o with
    | lst vs =>
      obtain ⟨us, q, _⟩ := q
      cases List.mem_singleton.mp h
      exact ⟨_, q, rfl⟩
    | dct kvs =>
      obtain ⟨us, q, _⟩ := q
      cases List.mem_singleton.mp h
      exact ⟨_, q, rfl⟩
    | ro vs => cases h
    | rod kvs => cases h
    | sys v => exact foot_m q.2.1 h
theorem sqt_keep (k : ∀ a o, H a = some o → isM o = false → H' a = some o) {a : Addr} {xs : List V} (h : SqT K H a xs) : SqT K H' a xs := by
  rcases h with (h | ⟨o, h⟩) | h
  · exact .inl (.inl (k _ _ h rfl))
  · exact .inl (.inr ⟨o, k _ _ h rfl⟩)
  · exact .inr h
theorem rol_keep (k : ∀ a o, H a = some o → isM o = false → H' a = some o) {a : Addr} {xs : List V} (h : RoL K H a xs) : RoL K H' a xs := by
  rcases h with ⟨o, h⟩ | h
  · exact .inl ⟨o, k _ _ h rfl⟩
  · exact .inr h
/-- an object whose part of the heap stands as before -/
theorem ObR.keep {b b' : Nat} {n : Nat} {o : Ob} (h : ObR K w b H n o) (g : Grow K w b H w' b' H') (hn : n < b) (hs : w'.sy n = w.sy n) (ho : ∀ a, (∃ o u, H a = some (.frz o u)) → w'.own a = w.own a) (k : ∀ a o, H a = some o → isM o = false → H' a = some o) (kf : ∀ a u, a ∈ ft w n (some o) → H a = some u → H' a = some u) : ObR K w' b' H' n o := by
  have ea := g.ad n hn
  cases o with
  | lst vs =>
    obtain ⟨us, h1, h2⟩ := h
    refine ⟨us, ?_, h2.grow g⟩
    rw [ea]
    exact kf _ _ (by simp [ft]) h1
  | dct kvs =>
    obtain ⟨us, h1, h2, h3⟩ := h
    refine ⟨us, ?_, h2, h3.grow g⟩
    rw [ea]
    exact kf _ _ (by simp [ft]) h1
  | ro vs =>
    obtain ⟨us, h1, h2⟩ := h
    refine ⟨us, ?_, h2.grow g⟩
    rw [ea]
    exact rol_keep k h1
  | rod kvs =>
    obtain ⟨h0, o, us, h1, h2, h3⟩ := h
    refine ⟨?_, o, us, ?_, h2, h3.grow g⟩
    · rw [ea, ho _ ⟨_, _, h1⟩]
      exact h0
    · rw [ea]
      exact k _ _ h1 rfl
  | sys v =>
    obtain ⟨h1, h2, h3, h4⟩ := h
    refine ⟨by rw [ea, hs]; exact h1, by rw [hs]; exact h2.same fun b o e m => kf b o m e, by rw [hs]; exact h3, h4⟩
/-- the heap grows -/
theorem Sim.same (S : Sim K w μ H) (e : Same H H') : Sim K w μ H' ∧ Grow K w μ.nx H w μ.nx H' := by
  have g : Grow K w μ.nx H w μ.nx H' := ⟨⟨Nat.le_refl _, fun _ _ => rfl, fun a xs h => sqt_keep (fun a o h _ => e a o h) h⟩, fun a o u h => e _ _ h⟩
  exact ⟨⟨S.bd, fun n o h => (S.ok n o h).keep g (S.lt h) rfl (fun _ _ => rfl) (fun a o h _ => e a o h) (fun a u _ h => e a u h), S.dj, S.tb.ext e⟩, g⟩
/-- one object changes -/
theorem Sim.step (S : Sim K w μ H) {n : Nat} {o o' : Ob} (hn : μ.ob n = some o) (ha : w'.ad = w.ad) (hs : ∀ m, m ≠ n → w'.sy m = w.sy m) (k : ∀ a u, H a = some u → a ∉ ft w n (some o) → H' a = some u) (hf : ∀ a ∈ ft w' n (some o'), a ∈ ft w n (some o) ∨ H a = none)
    (hr : Grow K w μ.nx H w' μ.nx H' → ObR K w' μ.nx H' n o') (ho : ∀ a, (∃ o u, H a = some (.frz o u)) → w'.own a = w.own a := by exact fun _ _ => rfl) : Sim K w' (μ.put n o') H' ∧ Grow K w μ.nx H w' μ.nx H' := by
  have fm : ∀ a ∈ ft w n (some o), ∃ u, H a = some u ∧ isM u = true := fun a h => S.ftm (n := n) (by rw [hn]; exact h)
  have km : ∀ a u, H a = some u → isM u = false → H' a = some u := fun a u h z => k a u h fun m => by
    obtain ⟨u', h', q⟩ := fm a m
    rw [h] at h'
    cases h'
    rw [z] at q
    cases q
  have g : Grow K w μ.nx H w' μ.nx H' := ⟨⟨Nat.le_refl _, fun m _ => by rw [ha], fun a xs h => sqt_keep km h⟩, fun a o u h => km _ _ h rfl⟩
  have fo : ∀ m, m ≠ n → ∀ p, ft w' m p = ft w m p := fun m hm p => by
    unfold ft
    rw [ha, hs m hm]
  have disj : ∀ m, m ≠ n → ∀ a ∈ ft w' n (some o'), a ∉ ft w m (μ.ob m) := fun m hm a h z => by
    rcases hf a h with q | q
    · exact S.dj n m (Ne.symm hm) a (by rw [hn]; exact q) z
    · obtain ⟨u, h', _⟩ := S.ftm z
      rw [q] at h'
      cases h'
  refine ⟨⟨fun m h => ?_, fun m p h => ?_, fun m1 m2 hm a h1 h2 => ?_, tabs_keep (K := K) S.tb km⟩, g⟩
  · have : m ≠ n := fun z => by
      have := S.lt hn
      rw [z] at h
      exact absurd this (Nat.not_lt.mpr h)
    rw [Mu.put_ne _ _ this]
    exact S.bd m h
  · by_cases e : m = n
    · subst e
      rw [Mu.put_same] at h
      cases h
      exact hr g
    · rw [Mu.put_ne _ _ e] at h
      exact (S.ok m p h).keep g (S.lt h) (hs m e) ho km fun a u m' h' => k a u h' fun z => S.dj m n e a (by rw [h]; exact m') (by rw [hn]; exact z)
  · by_cases e1 : m1 = n
    · subst e1
      rw [Mu.put_same] at h1
      rw [Mu.put_ne _ _ (Ne.symm hm), fo m2 (Ne.symm hm)] at h2
      exact disj m2 (Ne.symm hm) a h1 h2
    · by_cases e2 : m2 = n
      · subst e2
        rw [Mu.put_same] at h2
        rw [Mu.put_ne _ _ e1, fo m1 e1] at h1
        exact disj m1 e1 a h2 h1
      · rw [Mu.put_ne _ _ e1, fo m1 e1] at h1
        rw [Mu.put_ne _ _ e2, fo m2 e2] at h2
        exact S.dj m1 m2 hm a h1 h2
def Wt.add (w : Wt) (n : Nat) (p : Addr) (s : Sy) : Wt := ⟨fun m => if m = n then p else w.ad m, fun m => if m = n then s else w.sy m, w.own⟩
theorem Wt.add_ad (w : Wt) (n : Nat) (p : Addr) (s : Sy) : (w.add n p s).ad n = p := if_pos rfl
theorem Wt.add_sy (w : Wt) (n : Nat) (p : Addr) (s : Sy) : (w.add n p s).sy n = s := if_pos rfl
theorem Wt.add_ne (w : Wt) {n m : Nat} (p : Addr) (s : Sy) (h : m ≠ n) : (w.add n p s).ad m = w.ad m ∧ (w.add n p s).sy m = w.sy m := ⟨if_neg h, if_neg h⟩
/-- an object that stands in the heap is taken in -/
theorem Sim.add (S : Sim K w μ H) {p : Addr} {s : Sy} {o : Ob} (hf : ∀ a ∈ ft (w.add μ.nx p s) μ.nx (some o), ∀ m, a ∉ ft w m (μ.ob m)) (hr : Grow K w μ.nx H (w.add μ.nx p s) (μ.nx + 1) H → ObR K (w.add μ.nx p s) (μ.nx + 1) H μ.nx o) :
    Sim K (w.add μ.nx p s) (μ.new o) H ∧ Grow K w μ.nx H (w.add μ.nx p s) (μ.nx + 1) H := by
  have g : Grow K w μ.nx H (w.add μ.nx p s) (μ.nx + 1) H := ⟨⟨Nat.le_succ _, fun n h => (w.add_ne p s (Nat.ne_of_lt h)).1, fun _ _ h => h⟩, fun _ _ _ h => h⟩
  have fo : ∀ m, m ≠ μ.nx → ∀ q, ft (w.add μ.nx p s) m q = ft w m q := fun m hm q => by
    unfold ft
    rw [(w.add_ne p s hm).1, (w.add_ne p s hm).2]
  refine ⟨⟨fun m h => ?_, fun m q h => ?_, fun m1 m2 hm a h1 h2 => ?_, S.tb⟩, g⟩
  · have h : μ.nx + 1 ≤ m := h
    rw [Mu.new_ne _ _ (by omega)]
    exact S.bd m (by omega)
  · by_cases e : m = μ.nx
    · subst e
      rw [Mu.new_same] at h
      cases h
      exact hr g
    · rw [Mu.new_ne _ _ e] at h
      exact (S.ok m q h).keep g (S.lt h) (w.add_ne p s e).2 (fun _ _ => rfl) (fun _ _ h _ => h) (fun _ _ _ h => h)
  · by_cases e1 : m1 = μ.nx
    · subst e1
      rw [Mu.new_same] at h1
      rw [Mu.new_ne _ _ (Ne.symm hm), fo m2 (Ne.symm hm)] at h2
      exact hf a h1 m2 h2
    · by_cases e2 : m2 = μ.nx
      · subst e2
        rw [Mu.new_same] at h2
        rw [Mu.new_ne _ _ e1, fo m1 e1] at h1
        exact hf a h2 m1 h1
      · rw [Mu.new_ne _ _ e1, fo m1 e1] at h1
        rw [Mu.new_ne _ _ e2, fo m2 e2] at h2
        exact S.dj m1 m2 hm a h1 h2
/-- a new list is laid -/
theorem Sim.newL (S : Sim K w μ H) {p : Addr} (hp : H p = none) {vs : List Val} {us : List V} (r : VRs K w.ad μ.nx H vs us) : ∃ w', Sim K w' (μ.new (.lst vs)) (upd H p (.lst us)) ∧ Grow K w μ.nx H w' (μ.nx + 1) (upd H p (.lst us)) ∧ w'.ad μ.nx = p := by
  obtain ⟨S1, g1⟩ := S.same (H' := upd H p (.lst us)) (fun b o h => by rw [upd_ne (ne_of_none h hp)]; exact h)
  obtain ⟨S2, g2⟩ := S1.add (p := p) (s := w.sy 0) (o := .lst vs) (fun a ha m z => by
    have e : a = p := by simpa [ft, Wt.add] using ha
    subst e
    obtain ⟨u, h, _⟩ := S.ftm z
    rw [hp] at h
    cases h) (fun g => ⟨us, by rw [Wt.add_ad]; exact upd_same, (r.grow g1).grow g⟩)
  exact ⟨_, S2, g1.trans g2, Wt.add_ad ..⟩
/-- a new tuple is laid -/
theorem Sim.newT (S : Sim K w μ H) {p : Addr} (hp : H p = none) {vs : List Val} {us : List V} (r : VRs K w.ad μ.nx H vs us) : Sim K w μ (upd H p (.tup us)) ∧ Grow K w μ.nx H w μ.nx (upd H p (.tup us)) ∧ VR K w.ad μ.nx (upd H p (.tup us)) (.tup vs) (.ref p) := by
  obtain ⟨S1, g1⟩ := S.same (H' := upd H p (.tup us)) (fun b o h => by rw [upd_ne (ne_of_none h hp)]; exact h)
  exact ⟨S1, g1, .tup (SqT.of upd_same) (r.grow g1)⟩
theorem Sim.newD (S : Sim K w μ H) {p : Addr} (hp : H p = none) {kvs : List (Key × Val)} {us : List (Key × V)} (hk : us.map (·.1) = kvs.map (·.1)) (r : VRs K w.ad μ.nx H (kvs.map (·.2)) (us.map (·.2))) : ∃ w', Sim K w' (μ.new (.dct kvs)) (upd H p (.dK us)) ∧ Grow K w μ.nx H w' (μ.nx + 1) (upd H p (.dK us)) ∧ w'.ad μ.nx = p := by
  obtain ⟨S1, g1⟩ := S.same (H' := upd H p (.dK us)) (fun b o h => by rw [upd_ne (ne_of_none h hp)]; exact h)
  obtain ⟨S2, g2⟩ := S1.add (p := p) (s := w.sy 0) (o := .dct kvs) (fun a ha m z => by
    have e : a = p := by simpa [ft, Wt.add] using ha
    subst e
    obtain ⟨u, h, _⟩ := S.ftm z
    rw [hp] at h
    cases h) (fun g => ⟨us, by rw [Wt.add_ad]; exact upd_same, hk, (r.grow g1).grow g⟩)
  exact ⟨_, S2, g1.trans g2, Wt.add_ad ..⟩
/-- a list, a dict is written -/
theorem Sim.setL (S : Sim K w μ H) {n : Nat} {vs0 vs : List Val} {us : List V} (hn : μ.ob n = some (.lst vs0)) (r : VRs K w.ad μ.nx H vs us) : Sim K w (μ.put n (.lst vs)) (upd H (w.ad n) (.lst us)) ∧ Grow K w μ.nx H w μ.nx (upd H (w.ad n) (.lst us)) := by
  refine S.step hn rfl (fun _ _ => rfl) (fun a u h m => ?_) (fun a h => .inl h) (fun g => ⟨us, upd_same, r.grow g⟩)
  rw [upd_ne (fun z => m (by simp [ft, z]))]
  exact h
theorem Sim.setD (S : Sim K w μ H) {n : Nat} {k0 kvs : List (Key × Val)} {us : List (Key × V)} (hn : μ.ob n = some (.dct k0)) (hk : us.map (·.1) = kvs.map (·.1)) (r : VRs K w.ad μ.nx H (kvs.map (·.2)) (us.map (·.2))) : Sim K w (μ.put n (.dct kvs)) (upd H (w.ad n) (.dK us)) ∧ Grow K w μ.nx H w μ.nx (upd H (w.ad n) (.dK us)) := by
  refine S.step hn rfl (fun _ _ => rfl) (fun a u h m => ?_) (fun a h => .inl h) (fun g => ⟨us, upd_same, hk, r.grow g⟩)
  rw [upd_ne (fun z => m (by simp [ft, z]))]
  exact h
/-- a system is changed by a call -/
theorem Sim.setS (S : Sim K w μ H) {n : Nat} {v0 v : Sv} {s' : Sy} (hn : μ.ob n = some (.sys v0)) (h1 : SyAt K H' s') (h2 : s'.v = v) (h3 : WF v) (f : Fr' (w.sy n) s' H H') : ∃ w', Sim K w' (μ.put n (.sys v)) H' ∧ Grow K w μ.nx H w' μ.nx H' ∧ (∀ m, w'.ad m = w.ad m) ∧ (∀ m, m ≠ n → w'.sy m = w.sy m) ∧ w'.sy n = s' := by
  obtain ⟨q1, q2⟩ := S.step (w' := ⟨w.ad, fun m => if m = n then s' else w.sy m, w.own⟩) (H' := H') (o' := .sys v) hn rfl (fun m hm => if_neg hm) (fun a u h m => f.keep a u h m) (fun a h => by
    have h : a ∈ (if n = n then s' else w.sy n).foot := h
    rw [if_pos rfl] at h
    exact f.foot a h) (fun g => by
    show (if n = n then s' else w.sy n).p = w.ad n ∧ SyAt K H' (if n = n then s' else w.sy n) ∧ (if n = n then s' else w.sy n).v = v ∧ WF v
    rw [if_pos rfl]
    exact ⟨f.same.trans (S.ok n _ hn).1, h1, h2, h3⟩)
  exact ⟨_, q1, q2, fun _ => rfl, fun m hm => if_neg hm, if_pos rfl⟩
/-- a new system is taken in -/
theorem Sim.newS (S : Sim K w μ H) {v : Sv} {s : Sy} (e : Same H H') (h1 : SyAt K H' s) (h2 : s.v = v) (h3 : WF v) (f : ∀ c ∈ s.foot, H c = none) : ∃ w', Sim K w' (μ.new (.sys v)) H' ∧ Grow K w μ.nx H w' (μ.nx + 1) H' ∧ w'.ad μ.nx = s.p := by
  obtain ⟨S1, g1⟩ := S.same e
  obtain ⟨S2, g2⟩ := S1.add (p := s.p) (s := s) (o := .sys v) (fun a ha m z => by
    have ha : a ∈ ((w.add μ.nx s.p s).sy μ.nx).foot := ha
    rw [Wt.add_sy] at ha
    obtain ⟨u, h, _⟩ := S.ftm z
    rw [f a ha] at h
    cases h) (fun g => by
    show ((w.add μ.nx s.p s).sy μ.nx).p = (w.add μ.nx s.p s).ad μ.nx ∧ SyAt K H' ((w.add μ.nx s.p s).sy μ.nx) ∧ ((w.add μ.nx s.p s).sy μ.nx).v = v ∧ WF v
    rw [Wt.add_sy, Wt.add_ad]
    exact ⟨rfl, h1, h2, h3⟩)
  exact ⟨_, S2, g1.trans g2, Wt.add_ad ..⟩
end
section
variable {K : PySem.W.Frag} {w w' : Wt} {μ : Mu} {H H' : Hp} {n : Nat} {kvs : List (Key × Val)} {us : List (Key × V)} {o : Obj}
/-- a dict is locked -/
theorem Sim.lock (S : Sim K w μ H) (hn : μ.ob n = some (.dct kvs)) (hd : H (w.ad n) = some (.dK us)) (hk : us.map (·.1) = kvs.map (·.1)) (r : VRs K w.ad μ.nx H (kvs.map (·.2)) (us.map (·.2))) :
    ∃ w', Sim K w' (μ.put n (.rod kvs)) (upd H (w.ad n) (.frz o (.dK us))) ∧ Grow K w μ.nx H w' μ.nx (upd H (w.ad n) (.frz o (.dK us))) ∧ w'.ad = w.ad := by
  obtain ⟨q1, q2⟩ := S.step (w' := ⟨w.ad, w.sy, fun a => if a = w.ad n then n else w.own a⟩) (H' := upd H (w.ad n) (.frz o (.dK us))) (o' := .rod kvs) hn rfl (fun _ _ => rfl) (fun a u h m => by
    rw [upd_ne (fun z => m (by simp [ft, z]))]
    exact h) (fun a h => by cases h) (fun g => ⟨if_pos rfl, o, us, upd_same, hk, r.grow g⟩) (fun a ⟨o', u', h⟩ => if_neg fun z => by
      rw [z, hd] at h
      cases h)
  exact ⟨_, q1, q2, rfl⟩
theorem Sim.unlk (S : Sim K w μ H) (hn : μ.ob n = some (.rod kvs)) (hd : H (w.ad n) = some (.frz o (.dK us))) : Sim K w (μ.put n (.dct kvs)) (upd H (w.ad n) (.dK us)) := by
  obtain ⟨h0, o', us', e1, e2, e3⟩ := S.ok _ _ hn
  rw [hd] at e1
  cases e1
  have ne : ∀ a u, H a = some u → (∀ o' u', u ≠ .frz o' u') → a ≠ w.ad n := fun a u h z q => by
    rw [q, hd] at h
    exact z _ _ (Option.some.inj h).symm
  have tup : ∀ a xs, SqT K H a xs → SqT K (upd H (w.ad n) (.dK us)) a xs := fun a xs h => by
    rcases h with (h | ⟨o, h⟩) | h
    · exact .inl (.inl (by rw [upd_ne (ne _ _ h (fun _ _ z => by cases z))]; exact h))
    · refine .inl (.inr ⟨o, ?_⟩)
      rw [upd_ne]
      · exact h
      · intro q
        rw [q, hd] at h
        cases h
    · exact .inr h
  have g : Grow0 K w μ.nx H w μ.nx (upd H (w.ad n) (.dK us)) := ⟨Nat.le_refl _, fun _ _ => rfl, tup⟩
  have km : ∀ a u, H a = some u → isM u = true → upd H (w.ad n) (.dK us) a = some u := fun a u h z => by
    rw [upd_ne (ne _ _ h (fun _ _ q => by subst q; cases z))]
    exact h
  have fm : ∀ m a u, a ∈ ft w m (μ.ob m) → H a = some u → upd H (w.ad n) (.dK us) a = some u := fun m a u hm h => by
    obtain ⟨u', h', z⟩ := S.ftm hm
    rw [h] at h'
    cases h'
    exact km a u h z
  have nft : ∀ m, w.ad n ∉ ft w m (μ.ob m) := fun m z => by
    obtain ⟨u', h', z⟩ := S.ftm z
    rw [hd] at h'
    cases h'
    cases z
  refine ⟨fun m h => ?_, fun m p h => ?_, fun m1 m2 hm a h1 h2 => ?_, fun p hp => ?_⟩
  · have : m ≠ n := fun z => by
      have := S.lt hn
      rw [z] at h
      exact absurd this (Nat.not_lt.mpr h)
    rw [Mu.put_ne _ _ this]
    exact S.bd m h
  · by_cases e : m = n
    · subst e
      rw [Mu.put_same] at h
      cases h
      exact ⟨us, upd_same, e2, e3.grow0 g⟩
    · rw [Mu.put_ne _ _ e] at h
      have q := S.ok m p h
      cases p with
      | lst vs =>
        obtain ⟨us', h1, h2⟩ := q
        exact ⟨us', fm m _ _ (by rw [h]; simp [ft]) h1, h2.grow0 g⟩
      | dct kvs =>
        obtain ⟨us', h1, h2, h3⟩ := q
        exact ⟨us', fm m _ _ (by rw [h]; simp [ft]) h1, h2, h3.grow0 g⟩
      | ro vs =>
        obtain ⟨us', h1, h2⟩ := q
        refine ⟨us', ?_, h2.grow0 g⟩
        rcases h1 with ⟨o, h1⟩ | h1
        · refine .inl ⟨o, ?_⟩
          rw [upd_ne]
          · exact h1
          · intro q
            rw [q, hd] at h1
            cases h1
        · exact .inr h1
      | rod kvs' =>
        obtain ⟨g0, o', us', h1, h2, h3⟩ := q
        refine ⟨g0, o', us', ?_, h2, h3.grow0 g⟩
        rw [upd_ne]
        · exact h1
        · intro q
          rw [q, h0] at g0
          exact e g0.symm
      | sys v =>
        obtain ⟨h1, h2, h3, h4⟩ := q
        exact ⟨h1, h2.same fun b o e' mb => fm m b o (by rw [h]; exact mb) e', h3, h4⟩
  · have two : ∀ {m a}, m ≠ n → a ∈ ft w m ((μ.put n (.dct kvs)).ob m) → a ∈ ft w m (μ.ob m) := fun {m a} h z => by
      rw [Mu.put_ne _ _ h] at z
      exact z
    by_cases e1 : m1 = n
    · subst e1
      rw [Mu.put_same] at h1
      cases List.mem_singleton.mp h1
      exact nft m2 (two (Ne.symm hm) h2)
    · by_cases e2 : m2 = n
      · subst e2
        rw [Mu.put_same] at h2
        cases List.mem_singleton.mp h2
        exact nft m1 (two e1 h1)
      · exact S.dj m1 m2 hm a (two e1 h1) (two e2 h2)
  · obtain ⟨ps, h1, h2, h3⟩ := S.tb p hp
    refine ⟨ps, by rw [upd_ne (ne _ _ h1 (fun _ _ z => by cases z))]; exact h1, h2, fun pos cv hc => ?_⟩
    obtain ⟨c, z1, z2⟩ := h3 pos cv hc
    exact ⟨c, z1, by rw [upd_ne (ne _ _ z2 (fun _ _ z => by unfold CodeO at z; cases z))]; exact z2⟩
theorem Grow.unlk {b b' : Nat} {d : Addr} {H0 : Hp} (g : Grow K w b (upd H0 d (.frz o (.dK us))) w' b' H') (hd : H0 d = some (.dK us)) : Grow K w b H0 w' b' (upd H' d (.dK us)) := by
  have h' : H' d = some (.frz o (.dK us)) := g.fz _ _ _ upd_same
  refine ⟨⟨g.le, g.ad, fun a xs h => ?_⟩, fun a o' u h => ?_⟩
  · have q : SqT K (upd H0 d (.frz o (.dK us))) a xs := by
      rcases h with (h | ⟨o, h⟩) | h
      · exact .inl (.inl (by rw [upd_ne (fun z => by rw [z, hd] at h; cases h)]; exact h))
      · exact .inl (.inr ⟨o, by rw [upd_ne (fun z => by rw [z, hd] at h; cases h)]; exact h⟩)
      · exact .inr h
    have q := g.tp a xs q
    rcases q with (h | ⟨o, h⟩) | h
    · exact .inl (.inl (by rw [upd_ne (fun z => by rw [z, h'] at h; cases h)]; exact h))
    · exact .inl (.inr ⟨o, by rw [upd_ne (fun z => by rw [z, h'] at h; cases h)]; exact h⟩)
    · exact .inr h
  · have ne : a ≠ d := fun z => by
      rw [z, hd] at h
      cases h
    have q := g.fz a o' u (by rw [upd_ne ne]; exact h)
    rw [upd_ne ne]
    exact q
end
end Wn
/-! the law's level: expressions -/
namespace Wn
open PySem PySem.Spec PyProof.Rows L2 LamX He

inductive R (α : Type) where
  | ok (a : α) (μ : Mu)
  | er (c : Str) (fs : List (Str × Val)) (μ : Mu)
  | no
def R.bind {α β : Type} (r : R α) (k : α → Mu → R β) : R β := match r with
  | .ok a μ => k a μ
  | .er c fs μ => .er c fs μ
  | .no => .no
@[simp] theorem R.bind_ok {α β : Type} (a : α) (μ : Mu) (k : α → Mu → R β) : (R.ok a μ).bind k = k a μ := rfl
@[simp] theorem R.bind_no {α β : Type} (k : α → Mu → R β) : (R.no : R α).bind k = .no := rfl
@[simp] theorem R.bind_er {α β : Type} (c : Str) (fs : List (Str × Val)) (μ : Mu) (k : α → Mu → R β) : (R.er c fs μ : R α).bind k = .er c fs μ := rfl
abbrev Rho := List (Option Val)
abbrev ME := Rho → Mu → R Val
abbrev MA := Rho → Mu → R (List Val)
abbrev MT := Rho → Mu → R Bool
def EnvR (K : PySem.W.Frag) (w : Wt) (b : Nat) (H : Hp) (ρ : Rho) (σ : L2.St) : Prop := ρ.length = σ.length ∧ ∀ (i : Nat) (v : Val), ρ[i]? = some (some v) → ∃ u : V, σ[i]? = some (some u) ∧ VR K w.ad b H v u
theorem EnvR.grow {K : PySem.W.Frag} {w w' : Wt} {b b' : Nat} {H H' : Hp} {ρ : Rho} {σ : L2.St} (h : EnvR K w b H ρ σ) (g : Grow K w b H w' b' H') : EnvR K w' b' H' ρ σ :=
  ⟨h.1, fun i v e => let ⟨u, q, r⟩ := h.2 i v e; ⟨u, q, r.grow g⟩⟩
theorem EnvR.set {K : PySem.W.Frag} {w : Wt} {b : Nat} {H : Hp} {ρ : Rho} {σ : L2.St} (h : EnvR K w b H ρ σ) (i : Nat) {v : Val} {u : V} (r : VR K w.ad b H v u) : EnvR K w b H (ρ.set i (some v)) (σ.set i (some u)) := by
  refine ⟨by rw [List.length_set, List.length_set]; exact h.1, fun j x e => ?_⟩
  rw [List.getElem?_set] at e ⊢
  by_cases c : i = j
  · subst c
    by_cases d : i < ρ.length
    · rw [if_pos rfl, if_pos d] at e
      cases e
      exact ⟨u, by rw [if_pos rfl, if_pos (by rw [← h.1]; exact d)], r⟩
    · rw [if_pos rfl, if_neg d] at e
      cases e
  · rw [if_neg c] at e ⊢
    exact h.2 j x e
section
variable {K : PySem.W.Frag} {α β γ δ : Type}
abbrev Rel (α β : Type) := Wt → Nat → Hp → α → β → Prop
def relE (K : PySem.W.Frag) : Rel Val V := fun w b H v u => VR K w.ad b H v u
def relA (K : PySem.W.Frag) : Rel (List Val) (List V) := fun w b H v u => VRs K w.ad b H v u
def relT : Rel Bool Bool := fun _ _ _ v u => v = u
def Post (K : PySem.W.Frag) (rel : Rel α β) (E : XK) (w : Wt) (b : Nat) (H : Hp) (Q : β → Hp → Prop) : R α → Prop
  | .ok a μ' => ∀ w' H' u, Sim K w' μ' H' → rel w' μ'.nx H' a u → Grow K w b H w' μ'.nx H' → Q u H'
  | .er c fs μ' => ∀ w' H' d us, Sim K w' μ' H' → Grow K w b H w' μ'.nx H' → H' d = some (.xd us) → us.map (·.1) = fs.map (·.1) → VRs K w'.ad μ'.nx H' (fs.map (·.2)) (us.map (·.2)) → E (.ref (ga K c)) (some d) H'
  | .no => False
theorem Post.grow {rel : Rel α β} {E : XK} {w w1 : Wt} {b b1 : Nat} {H H1 : Hp} {Q : β → Hp → Prop} {r : R α} (h : Post K rel E w b H Q r) (g : Grow K w b H w1 b1 H1) : Post K rel E w1 b1 H1 Q r := by
  cases r with
  | ok a μ => exact fun w' H' u S r g' => h w' H' u S r (g.trans g')
  | er c fs μ => exact fun w' H' d us S g' => h w' H' d us S (g.trans g')
  | no => exact h
theorem Post.bind {rel : Rel α β} {rel' : Rel γ δ} {E : XK} {w : Wt} {b : Nat} {H : Hp} {Q : δ → Hp → Prop} {Q1 : β → Hp → Prop} {r : R α} {k : α → Mu → R γ} (h : Post K rel' E w b H Q (r.bind k))
    (f : ∀ a μ1 w1 H1 u1, Sim K w1 μ1 H1 → rel w1 μ1.nx H1 a u1 → Grow K w b H w1 μ1.nx H1 → Post K rel' E w1 μ1.nx H1 Q (k a μ1) → Q1 u1 H1) : Post K rel E w b H Q1 r := by
  cases r with
  | ok a μ1 => exact fun w1 H1 u1 S r g => f a μ1 w1 H1 u1 S r g (Post.grow h g)
  | er c fs μ => exact h
  | no => exact h.elim
def tM (K : PySem.W.Frag) (rel : Rel α β) (E : XK) (m : Rho → Mu → R α) : L2.St → Hp → (β → Hp → Prop) → Prop := fun σ H Q => ∃ w ρ μ, Sim K w μ H ∧ EnvR K w μ.nx H ρ σ ∧ Post K rel E w μ.nx H Q (m ρ μ)
end
def PM (X : Cx) (E : XK) (e : Expr) (m : ME) : Prop := PE X e (tM X.K (relE X.K) E m)
def PMA (X : Cx) (E : XK) (es : List Expr) (m : MA) : Prop := PA X es (tM X.K (relA X.K) E m)
def PMT (X : Cx) (E : XK) (e : Expr) (m : MT) : Prop := PT X e (tM X.K relT E m)
theorem PE.imp {X : Cx} {e : Expr} {t t0 : TE} (h : PE X e t) (i : ∀ σ H Q, t0 σ H Q → t σ H Q) : PE X e t0 := ⟨fun pins s σ H Q I hw => h.run pins s σ H Q I (i σ H Q hw)⟩
theorem PA.imp {X : Cx} {e : List Expr} {t t0 : TA} (h : PA X e t) (i : ∀ σ H Q, t0 σ H Q → t σ H Q) : PA X e t0 := ⟨fun pos pins s σ H Q I hw => h.run pos pins s σ H Q I (i σ H Q hw)⟩
theorem PT.imp {X : Cx} {e : Expr} {t t0 : TT} (h : PT X e t) (i : ∀ σ H Q, t0 σ H Q → t σ H Q) : PT X e t0 := ⟨fun pins s σ H Q I hw => h.run pins s σ H Q I (i σ H Q hw)⟩
theorem PW.imp {X : Cx} {e : Expr} {t t0 : TT} (h : PW X e t) (i : ∀ σ H Q, t0 σ H Q → t σ H Q) : PW X e t0 := ⟨fun e' pins s σ H Q I hw => h.run e' pins s σ H Q I (i σ H Q hw)⟩

/-! ### the words of the level -/
def mC (v : Val) : ME := fun _ μ => .ok v μ
def mV (i : Nat) : ME := fun ρ μ => match ρ[i]? with
  | some (some v) => .ok v μ
  | _ => .no
def mNil : MA := fun _ μ => .ok [] μ
def mCons (a : ME) (r : MA) : MA := fun ρ μ => (a ρ μ).bind fun x μ => (r ρ μ).bind fun xs μ => .ok (x :: xs) μ
def mTup (a : MA) : ME := fun ρ μ => (a ρ μ).bind fun xs μ => if xs.length ≤ 1000 then .ok (.tup xs) μ else .no
def mLst (a : MA) : ME := fun ρ μ => (a ρ μ).bind fun xs μ => if xs.length ≤ 1000 then .ok (.loc μ.nx) (μ.new (.lst xs)) else .no
def mOp (f : Val → Val → Mu → R Val) (a b : ME) : ME := fun ρ μ => (a ρ μ).bind fun x μ => (b ρ μ).bind fun y μ => f x y μ
def mUn (f : Val → Mu → R Val) (a : ME) : ME := fun ρ μ => (a ρ μ).bind fun x μ => f x μ
def mFn (f : List Val → Mu → R Val) (a : MA) : ME := fun ρ μ => (a ρ μ).bind fun xs μ => f xs μ
def mMt (f : Val → List Val → Mu → R Val) (o : ME) (a : MA) : ME := fun ρ μ => (o ρ μ).bind fun x μ => (a ρ μ).bind fun xs μ => f x xs μ
def boolM : Val → Mu → R Bool
  | .bl b, μ => .ok b μ
  | _, _ => .no
def mTest (m : ME) : MT := fun ρ μ => (m ρ μ).bind boolM
def mAnd (a b : MT) : MT := fun ρ μ => (a ρ μ).bind fun c μ => if c = true then b ρ μ else .ok false μ
def mOr (a b : MT) : MT := fun ρ μ => (a ρ μ).bind fun c μ => if c = true then .ok true μ else b ρ μ
def mNot (a : MT) : MT := fun ρ μ => (a ρ μ).bind fun c μ => .ok (!c) μ
def mIf (c : MT) (a b : ME) : ME := fun ρ μ => (c ρ μ).bind fun k μ => if k = true then a ρ μ else b ρ μ
/-- a test as a value -/
def mBl (m : MT) : ME := fun ρ μ => (m ρ μ).bind fun k μ => .ok (.bl k) μ

section
variable {X : Cx} {E : XK} {e a b : Expr} {es : List Expr} {ma mb : ME} {mr : MA} {pos : Pos}
theorem pm_var {i : Nat} (h : PE X e (tVar i)) : PM X E e (mV i) := PE.imp h fun σ H Q ⟨w, ρ, μ, S, EN, hp⟩ => by
  unfold mV at hp
  split at hp
  · rename_i v hv
    obtain ⟨u, h1, h2⟩ := EN.2 _ _ hv
    exact ⟨u, h1, hp w H u S h2 .refl⟩
  · exact hp.elim
theorem pm_c {v : Val} {u : V} (h : PE X e (tC u)) (r : ∀ w b H, VR X.K w b H v u) : PM X E e (mC v) := PE.imp h fun σ H Q ⟨w, ρ, μ, S, EN, hp⟩ => hp w H u S (r _ _ _) .refl
theorem pm_int {i j} : PM X E (.Constant (.int i) j pos) (mC (.int i)) := pm_c pe_int fun _ _ _ => .int _
theorem pm_bl {i j} : PM X E (.Constant (.bool i) j pos) (mC (.bl i)) := pm_c pe_bl fun _ _ _ => .bl _
theorem pm_str {x j} : PM X E (.Constant (.str x) j pos) (mC (.str x)) := pm_c pe_str fun _ _ _ => .str _
theorem pma_nil : PMA X E [] mNil := PA.imp pa_nil fun σ H Q ⟨w, ρ, μ, S, EN, hp⟩ => hp w H [] S .nil .refl
theorem pma_cons (ha : PM X E e ma) (hr : PMA X E es mr) (hs : starEach (e :: es) X.env = (false, eval e X.env) :: starEach es X.env := by rfl) : PMA X E (e :: es) (mCons ma mr) :=
  PA.imp (pa_cons ha hr hs) fun σ H Q ⟨w, ρ, μ, S, EN, hp⟩ => ⟨w, ρ, μ, S, EN, Post.bind hp fun x μ1 w1 H1 u1 S1 r1 g1 h1 => ⟨w1, ρ, μ1, S1, EN.grow g1, Post.bind h1 fun xs μ2 w2 H2 u2 S2 r2 g2 h2 => h2 w2 H2 _ S2 (.cons (VR.grow g2 r1) r2) .refl⟩⟩
theorem lim1000 {n : Nat} (h : n ≤ 1000) : n ≤ sizeLine := Nat.le_trans h (by decide)
theorem lim6 {n : Nat} (h : n ≤ 1000000) : n < sizeLine := Nat.lt_of_le_of_lt h (by decide)
theorem pm_lst (h : PMA X E es mr) : PM X E (.List es pos) (mLst mr) :=
  PE.imp (pe_lst h) fun σ H Q ⟨w, ρ, μ, S, EN, hp⟩ => ⟨w, ρ, μ, S, EN, Post.bind hp fun xs μ1 w1 H1 u1 S1 r1 g1 h1 => by
    split at h1
    · rename_i hz
      refine ⟨by rw [VRs.length r1]; exact lim1000 hz, fun p np => ?_⟩
      obtain ⟨w2, S2, g2, e2⟩ := S1.newL np r1
      exact h1 w2 _ _ S2 (by rw [← e2]; exact VR.loc (Nat.lt_succ_self _)) g2
    · exact h1.elim⟩
/-- an operator by values -/
def Prim2 (K : PySem.W.Frag) (r : R2) (f : Val → Val → Mu → R Val) : Prop := ∀ (E : XK) (w : Wt) (μ : Mu) (H : Hp) (x y : Val) (u v : V) (Q : VK), Sim K w μ H → VR K w.ad μ.nx H x u → VR K w.ad μ.nx H y v → Post K (relE K) E w μ.nx H Q (f x y μ) → r u v H Q
def PrimA (K : PySem.W.Frag) (r : List V → Hp → VK → Prop) (f : List Val → Mu → R Val) : Prop := ∀ (E : XK) (w : Wt) (μ : Mu) (H : Hp) (xs : List Val) (us : List V) (Q : VK), Sim K w μ H → VRs K w.ad μ.nx H xs us → Post K (relE K) E w μ.nx H Q (f xs μ) → r us H Q
structure BinP (X : Cx) (op : Operator) (f : Val → Val → Mu → R Val) : Prop where
  ex : ∃ r, OpR X (binaryOp op) r ∧ Prim2 X.K r f
structure CmpP (X : Cx) (op : CmpOp) (f : Val → Val → Mu → R Val) : Prop where
  ex : ∃ r, OpR X (compareOp op) r ∧ Prim2 X.K r f
theorem pm_bin {op : Operator} {f : Val → Val → Mu → R Val} (h : BinP X op f) (ha : PM X E a ma) (hb : PM X E b mb) : PM X E (.BinOp a op b pos) (mOp f ma mb) := by
  obtain ⟨r, ho, hf⟩ := h.ex
  exact PE.imp (pe_op ho ha hb) fun σ H Q ⟨w, ρ, μ, S, EN, hp⟩ => ⟨w, ρ, μ, S, EN, Post.bind hp fun x μ1 w1 H1 u1 S1 r1 g1 h1 => ⟨w1, ρ, μ1, S1, EN.grow g1, Post.bind h1 fun y μ2 w2 H2 u2 S2 r2 g2 h2 => hf E w2 μ2 H2 x y u1 u2 Q S2 (VR.grow g2 r1) r2 h2⟩⟩
theorem pm_cmp {op : CmpOp} {f : Val → Val → Mu → R Val} (h : CmpP X op f) (ha : PM X E a ma) (hb : PM X E b mb) (hm : behindInMarks op b = false := by first | exact nomark _ | rfl) : PM X E (.Compare a [op] [b] pos) (mOp f ma mb) := by
  obtain ⟨r, ho, hf⟩ := h.ex
  exact PE.imp (pe_cmpR ho ha hb hm) fun σ H Q ⟨w, ρ, μ, S, EN, hp⟩ => ⟨w, ρ, μ, S, EN, Post.bind hp fun x μ1 w1 H1 u1 S1 r1 g1 h1 => ⟨w1, ρ, μ1, S1, EN.grow g1, Post.bind h1 fun y μ2 w2 H2 u2 S2 r2 g2 h2 => hf E w2 μ2 H2 x y u1 u2 Q S2 (VR.grow g2 r1) r2 h2⟩⟩
theorem post_test {K : PySem.W.Frag} {w : Wt} {n : Nat} {H : Hp} {Q : Bool → Hp → Prop} {r : R Val} (h : Post K relT E w n H Q (r.bind boolM)) : Post K (relE K) E w n H (fun x H' => ∃ k, x = .bl k ∧ Q k H') r :=
  Post.bind h fun x μ1 w1 H1 u1 S1 r1 g1 h1 => by
    cases x with
    | bl k =>
      cases r1
      exact ⟨k, rfl, h1 w1 H1 k S1 rfl .refl⟩
    | _ => exact h1.elim
theorem pmt_cmp {op : CmpOp} {f : Val → Val → Mu → R Val} (h : CmpP X op f) (ha : PM X E a ma) (hb : PM X E b mb) (hm : behindInMarks op b = false := by first | exact nomark _ | rfl) : PMT X E (.Compare a [op] [b] pos) (mTest (mOp f ma mb)) := by
  obtain ⟨r, ho, hf⟩ := h.ex
  refine PT.imp (pt_cmpR ho ha hb hm) fun σ H Q ⟨w, ρ, μ, S, EN, hp⟩ => ?_
  have hp2 := post_test hp
  exact ⟨w, ρ, μ, S, EN, Post.bind hp2 fun x μ1 w1 H1 u1 S1 r1 g1 h1 => ⟨w1, ρ, μ1, S1, EN.grow g1, Post.bind h1 fun y μ2 w2 H2 u2 S2 r2 g2 h2 => hf E w2 μ2 H2 x y u1 u2 _ S2 (VR.grow g2 r1) r2 h2⟩⟩
theorem pmt_val (ha : PM X E a ma) (he : ∀ whole, isTrue a X.env whole = (do let v ← whole; standAt a.pos; holding [v] (truthy v)) := by intro _; rfl) : PMT X E a (mTest ma) :=
  PT.imp (pt_val ha he) fun σ H Q ⟨w, ρ, μ, S, EN, hp⟩ => ⟨w, ρ, μ, S, EN, post_test hp⟩
variable {ta tb : MT} {rest : List Expr}
def PMW (X : Cx) (E : XK) (e : Expr) (m : MT) : Prop := PW X e (tM X.K relT E m)
theorem PMW.t (h : PMW X E e ta) : PMT X E e ta := PW.pt h
theorem pmw_and1 (ha : PMT X E a ta) : PMW X E (.BoolOp .And [a] pos) ta := pw_and1 ha
theorem pmw_and (ha : PMT X E a ta) (hb : PMW X E (.BoolOp .And (b :: rest) pos) tb) : PMW X E (.BoolOp .And (a :: b :: rest) pos) (mAnd ta tb) :=
  PW.imp (pw_and ha hb) fun σ H Q ⟨w, ρ, μ, S, EN, hp⟩ => ⟨w, ρ, μ, S, EN, Post.bind hp fun x μ1 w1 H1 u1 S1 r1 g1 h1 => by
    cases r1
    cases x with
    | true => exact iteT ⟨w1, ρ, μ1, S1, EN.grow g1, h1⟩
    | false => exact iteF (h1 w1 H1 false S1 rfl .refl)⟩
theorem pmt_not (ha : PMT X E a ta) : PMT X E (.UnaryOp .Not a pos) (mNot ta) :=
  PT.imp (pt_not ha) fun σ H Q ⟨w, ρ, μ, S, EN, hp⟩ => ⟨w, ρ, μ, S, EN, Post.bind hp fun x μ1 w1 H1 u1 S1 r1 g1 h1 => by
    cases r1
    exact h1 w1 H1 _ S1 rfl .refl⟩
theorem pm_ifExp {c : Expr} (hc : PMT X E c ta) (ha : PM X E a ma) (hb : PM X E b mb) : PM X E (.IfExp c a b pos) (mIf ta ma mb) :=
  PE.imp (pe_ifExp hc ha hb) fun σ H Q ⟨w, ρ, μ, S, EN, hp⟩ => ⟨w, ρ, μ, S, EN, Post.bind hp fun x μ1 w1 H1 u1 S1 r1 g1 h1 => by
    cases r1
    cases x with
    | true => exact iteT ⟨w1, ρ, μ1, S1, EN.grow g1, h1⟩
    | false => exact iteF ⟨w1, ρ, μ1, S1, EN.grow g1, h1⟩⟩
/-- x and y, x or y, not x of truths, as values -/
def mAndV (a b : ME) : ME := fun ρ μ => (a ρ μ).bind fun x μ => (boolM x μ).bind fun c μ => if c = true then b ρ μ else .ok (.bl false) μ
def mOrV (a b : ME) : ME := fun ρ μ => (a ρ μ).bind fun x μ => (boolM x μ).bind fun c μ => if c = true then .ok (.bl true) μ else b ρ μ
def mNotV (a : ME) : ME := fun ρ μ => (a ρ μ).bind fun x μ => (boolM x μ).bind fun c μ => .ok (.bl (!c)) μ
theorem pm_one {op} (h : PM X E a ma) : PM X E (.BoolOp op [a] pos) ma := pe_one h
theorem pm_not (ha : PM X E a ma) : PM X E (.UnaryOp .Not a pos) (mNotV ma) :=
  PE.imp (pe_not ha) fun σ H Q ⟨w, ρ, μ, S, EN, hp⟩ => ⟨w, ρ, μ, S, EN, Post.bind hp fun x μ1 w1 H1 u1 S1 r1 g1 h1 => by
    cases x with
    | bl c =>
      cases r1
      exact ⟨c, rfl, h1 w1 H1 _ S1 (.bl _) .refl⟩
    | _ => exact h1.elim⟩
/-- calls by values -/
theorem pm_callB {id : String} {x : Str} {r : List V → Hp → VK → Prop} {f : List Val → Mu → R Val} {p : Pos} (hc : CallR X (.builtin id) r) (hf : PrimA X.K r f) (hg : Gl X x) (hm : X.mg x = none) (hv : bootBuiltins x = some (.builtin id)) (ha : PMA X E (e :: es) mr) (hn : x ≠ "__name__" := by decide) (hdb : (x == ("__debug__" : Str)) = false := by decide)
    (he : starEach (e :: es) X.env = (false, eval e X.env) :: starEach es X.env := by rfl) (hpl : (backTo pos (starEach es X.env)).any (·.1) = false := by rfl) : PM X E (.Call (.Name x p) (e :: es) [] pos) (mFn f mr) :=
  PE.imp (pe_callB hc hg hm hv ha hn hdb he hpl) fun σ H Q ⟨w, ρ, μ, S, EN, hp⟩ => ⟨w, ρ, μ, S, EN, Post.bind hp fun xs μ1 w1 H1 u1 S1 r1 g1 h1 => hf E w1 μ1 H1 xs u1 Q S1 r1 h1⟩
theorem pm_callTy {T : String} {x : Str} {r : List V → Hp → VK → Prop} {f : List Val → Mu → R Val} {p : Pos} (hc : CallR X (.type T) r) (hf : PrimA X.K r f) (hg : Gl X x) (hm : X.mg x = none) (hv : bootBuiltins x = some (.type T)) (ha : PMA X E (e :: es) mr) (hn : x ≠ "__name__" := by decide) (hdb : (x == ("__debug__" : Str)) = false := by decide)
    (he : starEach (e :: es) X.env = (false, eval e X.env) :: starEach es X.env := by rfl) (hpl : (backTo pos (starEach es X.env)).any (·.1) = false := by rfl) : PM X E (.Call (.Name x p) (e :: es) [] pos) (mFn f mr) :=
  PE.imp (pe_callTy hc hg hm hv ha hn hdb he hpl) fun σ H Q ⟨w, ρ, μ, S, EN, hp⟩ => ⟨w, ρ, μ, S, EN, Post.bind hp fun xs μ1 w1 H1 u1 S1 r1 g1 h1 => hf E w1 μ1 H1 xs u1 Q S1 r1 h1⟩
end
end Wn
/-! the law's level: operators by values -/
namespace Wn
open PySem PySem.Spec PyProof.Rows L2 LamX He

/-! ### arithmetic -/
instance (i j : Int) : Decidable (CMul i j) := by unfold CMul; infer_instance
instance (i j : Int) : Decidable (CDiv i j) := by unfold CDiv; infer_instance
instance (i j : Int) : Decidable (CPow i j) := by unfold CPow; infer_instance
def addM : Val → Val → Mu → R Val
  | .int i, .int j, μ => .ok (.int (i + j)) μ
  | .str a, .str b, μ => if a.length + b.length ≤ 1000000 then .ok (.str (a ++ b)) μ else .no
  | .tup a, .tup b, μ => if a ≠ [] ∧ a.length + b.length ≤ 1000000 then .ok (.tup (a ++ b)) μ else .no
  | .loc n, .loc m, μ => match μ.ob n, μ.ob m with
    | some (.lst a), some (.lst b) => if a.length + b.length ≤ 1000000 then .ok (.loc μ.nx) (μ.new (.lst (a ++ b))) else .no
    | _, _ => .no
  | _, _, _ => .no
def subM : Val → Val → Mu → R Val
  | .int i, .int j, μ => .ok (.int (i - j)) μ
  | _, _, _ => .no
def mulM : Val → Val → Mu → R Val
  | .int i, .int j, μ => if CMul i j then .ok (.int (i * j)) μ else .no
  | .loc n, .int k, μ => match μ.ob n with
    | some (.lst a) => if 0 ≤ k ∧ k ≤ 1000 ∧ a.length ≤ 1000 then .ok (.loc μ.nx) (μ.new (.lst (List.replicate k.toNat a).flatten)) else .no
    | _ => .no
  | _, _, _ => .no
def modM : Val → Val → Mu → R Val
  | .int i, .int j, μ => if 0 < j then .ok (.int (i % j)) μ else .no
  | _, _, _ => .no
def fdivM : Val → Val → Mu → R Val
  | .int i, .int j, μ => if CDiv i j then .ok (.int (i / j)) μ else .no
  | _, _, _ => .no
def powM : Val → Val → Mu → R Val
  | .int i, .int j, μ => if CPow i j then .ok (.int (i ^ j.toNat)) μ else .no
  | _, _, _ => .no
section
variable {X : Cx}
theorem vr_tup {K : PySem.W.Frag} {ad : Nat → Addr} {b : Nat} {H : Hp} {vs : List Val} {u : V} (h : VR K ad b H (.tup vs) u) : ∃ a us, u = .ref a ∧ SqT K H a us ∧ VRs K ad b H vs us := by
  cases h with
  | tup h r => exact ⟨_, _, rfl, h, r⟩
theorem b_add : BinP X .Add addM := by
  refine ⟨_, (op_add.or (op_add_str.or (op_cat.or op_catT))), ?_⟩
  intro E w μ H x y u v Q S hx hy hp
  unfold addM at hp
  split at hp
  · cases hx; cases hy
    exact .inl ⟨_, _, rfl, rfl, hp w H _ S (.int _) .refl⟩
  · cases hx; cases hy
    split at hp
    · rename_i hz
      exact .inr (.inl ⟨_, _, rfl, rfl, Nat.le_of_lt (lim6 hz), hp w H _ S (.str _) .refl⟩)
    · exact hp.elim
  · obtain ⟨a, us, rfl, ha, ra⟩ := vr_tup hx
    obtain ⟨b, vs, rfl, hb, rb⟩ := vr_tup hy
    split at hp
    · rename_i hz
      refine .inr (.inr (.inr ⟨a, b, us, vs, rfl, rfl, ha, hb, fun z => ?_, ?_, fun z => ?_, fun _ p np => ?_⟩))
      · have := ra.length
        rw [z] at this
        exact hz.1 (List.length_eq_zero_iff.mp this.symm)
      · rw [ra.length, rb.length]
        exact Nat.le_of_lt (lim6 hz.2)
      · subst z
        cases rb
        refine hp w H _ S ?_ .refl
        rw [List.append_nil]
        exact .tup ha ra
      · obtain ⟨S2, g2, v2⟩ := S.newT np (ra.app rb)
        exact hp w _ _ S2 v2 g2
    · exact hp.elim
  · cases hx with
    | loc hn =>
      cases hy with
      | loc hm =>
        split at hp
        · rename_i a b ha hb
          split at hp
          · rename_i hz
            obtain ⟨us, h1, r1⟩ := S.ok _ _ ha
            obtain ⟨vs, h2, r2⟩ := S.ok _ _ hb
            refine .inr (.inr (.inl ⟨_, _, us, vs, rfl, rfl, h1, h2, by rw [r1.length, r2.length]; exact Nat.le_of_lt (lim6 hz), fun p np => ?_⟩))
            obtain ⟨w2, S2, g2, e2⟩ := S.newL np (r1.app r2)
            exact hp w2 _ _ S2 (by rw [← e2]; exact VR.loc (Nat.lt_succ_self _)) g2
          · exact hp.elim
        · exact hp.elim
  · exact hp.elim
theorem b_mul : BinP X .Mult mulM := by
  refine ⟨_, op_mul.or op_rep, ?_⟩
  intro E w μ H x y u v Q S hx hy hp
  unfold mulM at hp
  split at hp
  · cases hx; cases hy
    split at hp
    · rename_i hz
      exact .inl ⟨_, _, rfl, rfl, hz, hp w H _ S (.int _) .refl⟩
    · exact hp.elim
  · cases hx with
    | loc hn =>
      cases hy
      split at hp
      · rename_i a ha
        split at hp
        · rename_i hz
          obtain ⟨us, h1, r1⟩ := S.ok _ _ ha
          refine .inr ⟨_, _, us, rfl, rfl, h1, by omega, by omega, ?_, fun p np => ?_⟩
          · rw [r1.length]
            refine Nat.le_trans (Nat.mul_le_mul hz.2.2 (show _ ≤ 1000 by omega)) (by decide)
          · obtain ⟨w2, S2, g2, e2⟩ := S.newL np (VRs.flat _ r1)
            exact hp w2 _ _ S2 (by rw [← e2]; exact VR.loc (Nat.lt_succ_self _)) g2
        · exact hp.elim
      · exact hp.elim
  · exact hp.elim
theorem b_mod : BinP X .Mod modM := by
  refine ⟨_, op_mod, ?_⟩
  intro E w μ H x y u v Q S hx hy hp
  unfold modM at hp
  split at hp
  · cases hx; cases hy
    split at hp
    · rename_i hz
      exact ⟨_, _, rfl, rfl, hz, hp w H _ S (.int _) .refl⟩
    · exact hp.elim
  · exact hp.elim
theorem b_fdiv : BinP X .FloorDiv fdivM := by
  refine ⟨_, op_fdiv, ?_⟩
  intro E w μ H x y u v Q S hx hy hp
  unfold fdivM at hp
  split at hp
  · cases hx; cases hy
    split at hp
    · rename_i hz
      exact ⟨_, _, rfl, rfl, hz, hp w H _ S (.int _) .refl⟩
    · exact hp.elim
  · exact hp.elim
theorem b_pow : BinP X .Pow powM := by
  refine ⟨_, op_pow, ?_⟩
  intro E w μ H x y u v Q S hx hy hp
  unfold powM at hp
  split at hp
  · cases hx; cases hy
    split at hp
    · rename_i hz
      exact ⟨_, _, rfl, rfl, hz, hp w H _ S (.int _) .refl⟩
    · exact hp.elim
  · exact hp.elim
/-! ### comparisons -/
def cmpI (f : Int → Int → Bool) : Val → Val → Mu → R Val
  | .int i, .int j, μ => .ok (.bl (f i j)) μ
  | _, _, _ => .no
def ltM (x y : Val) (μ : Mu) : R Val := cmpI (fun i j => decide (i < j)) x y μ
def leM (x y : Val) (μ : Mu) : R Val := cmpI (fun i j => decide (i ≤ j)) x y μ
def gtM (x y : Val) (μ : Mu) : R Val := cmpI (fun i j => decide (j < i)) x y μ
def geM (x y : Val) (μ : Mu) : R Val := cmpI (fun i j => decide (j ≤ i)) x y μ
theorem prim_cmpI {K : PySem.W.Frag} (f : Int → Int → Bool) : Prim2 K (rI0 fun i j => .bl (f i j)) (cmpI f) := by
  intro E w μ H x y u v Q S hx hy hp
  unfold cmpI at hp
  split at hp
  · cases hx; cases hy
    exact ⟨_, _, rfl, rfl, hp w H _ S (.bl _) .refl⟩
  · exact hp.elim
theorem c_lt : CmpP X .Lt ltM := ⟨_, op_lt, prim_cmpI _⟩
theorem c_gt : CmpP X .Gt gtM := ⟨_, op_gt, prim_cmpI _⟩
theorem c_ge : CmpP X .GtE geM := ⟨_, op_ge, prim_cmpI _⟩
def isNon : Val → Bool
  | .non => true
  | _ => false
def isM' : Val → Val → Mu → R Val
  | x, .non, μ => .ok (.bl (isNon x)) μ
  | _, _, _ => .no
def isntM : Val → Val → Mu → R Val
  | x, .non, μ => .ok (.bl (!isNon x)) μ
  | _, _, _ => .no
/-! ### data -/
def allO {α : Type} : List (Option α) → Option (List α)
  | [] => some []
  | none :: _ => none
  | some a :: r => match allO r with
    | none => none
    | some l => some (a :: l)
def scaD : Val → Option PyData
  | .non => some .none
  | .bl b => some (.bool b)
  | .int i => some (.int i)
  | .str x => if PyData.strOk x = true then some (.str x) else none
  | _ => none
def seqOf (μ : Mu) (n : Nat) : Option (List Val) := match μ.ob n with
  | some (.lst vs) => some vs
  | some (.ro vs) => some vs
  | _ => none
def toD : Nat → Mu → Val → Option PyData
  | 0, _, v => scaD v
  | k + 1, μ, .tup vs => (allO (vs.map (toD k μ))).map .tuple
  | k + 1, μ, .loc n => match seqOf μ n with
    | none => none
    | some vs => (allO (vs.map (toD k μ))).map .list
  | _ + 1, _, v => scaD v
theorem allO_some {α β : Type} {f : α → Option β} {g : α → β} : ∀ {l : List α}, (∀ x ∈ l, f x = some (g x)) → allO (l.map f) = some (l.map g)
  | [], _ => rfl
  | a :: l, h => by
    rw [List.map_cons, h a List.mem_cons_self, allO, allO_some fun x hx => h x (List.mem_cons_of_mem _ hx)]
    rfl
end
theorem seqOf_sq {K : PySem.W.Frag} {w : Wt} {μ : Mu} {H : Hp} (S : Sim K w μ H) {n : Nat} {vs : List Val} (h : seqOf μ n = some vs) : ∃ us, SqL K H (w.ad n) us ∧ VRs K w.ad μ.nx H vs us := by
  unfold seqOf at h
  split at h
  · rename_i vs' e
    cases h
    obtain ⟨us, h1, h2⟩ := S.ok _ _ e
    exact ⟨us, SqL.of h1, h2⟩
  · rename_i vs' e
    cases h
    obtain ⟨us, h1, h2⟩ := S.ok _ _ e
    exact ⟨us, h1.sq, h2⟩
  · cases h
theorem scaD_dp {K : PySem.W.Frag} {ad : Nat → Addr} {b : Nat} {H : Hp} {v : Val} {u : V} {d : PyData} (h : scaD v = some d) (r : VR K ad b H v u) : Dp K H u d ∧ d.canLay0 = true ∧ d.depth ≤ 1 := by
  unfold scaD at h
  split at h
  · cases h; cases r; exact ⟨.non, rfl, by simp [PyData.depth]⟩
  · cases h; cases r; exact ⟨.bl _, rfl, by simp [PyData.depth]⟩
  · cases h; cases r; exact ⟨.int _, rfl, by simp [PyData.depth]⟩
  · split at h
    · cases h; cases r
      refine ⟨.str _, ?_, by simp [PyData.depth]⟩
      rw [PyData.canLay0]
      assumption
    · cases h
  · cases h
theorem allD {K : PySem.W.Frag} {ad : Nat → Addr} {b : Nat} {H : Hp} {f : Val → Option PyData} {k : Nat} (hf : ∀ v u d, f v = some d → VR K ad b H v u → Dp K H u d ∧ d.canLay0 = true ∧ d.depth ≤ k) : ∀ {vs : List Val} {us : List V} {ds : List PyData}, allO (vs.map f) = some ds → VRs K ad b H vs us → DpAll K H us ds ∧ PyData.canLayAll0 ds = true ∧ PyData.depthAll ds ≤ k
  | [], _, ds, h, r => by
    cases r
    cases h
    exact ⟨.nil, rfl, by simp [PyData.depthAll]⟩
  | v :: vs, _, ds, h, r => by
    cases r with
    | cons r1 r2 =>
      rw [List.map_cons] at h
      cases e : f v with
      | none => rw [e, allO] at h; cases h
      | some d =>
        rw [e, allO] at h
        split at h
        · cases h
        · rename_i l hl
          cases h
          obtain ⟨a1, a2, a3⟩ := hf _ _ _ e r1
          obtain ⟨b1, b2, b3⟩ := allD hf hl r2
          refine ⟨.cons a1 b1, ?_, ?_⟩
          · rw [PyData.canLayAll0, a2, b2]
            rfl
          · rw [PyData.depthAll]
            omega
theorem toD_dp {K : PySem.W.Frag} {w : Wt} {μ : Mu} {H : Hp} (S : Sim K w μ H) : ∀ (k : Nat) (v : Val) (u : V) (d : PyData), toD k μ v = some d → VR K w.ad μ.nx H v u → Dp K H u d ∧ d.canLay0 = true ∧ d.depth ≤ k + 1
  | 0, v, u, d, h, r => scaD_dp h r
  | k + 1, .tup vs, u, d, h, r => by
    rw [toD] at h
    obtain ⟨ds, h1, h2⟩ := Option.map_eq_some_iff.mp h
    subst h2
    obtain ⟨a, us, rfl, ha, ra⟩ := vr_tup r
    obtain ⟨b1, b2, b3⟩ := allD (fun v u d => toD_dp S k v u d) h1 ra
    refine ⟨.tup ha b1, by rw [PyData.canLay0]; exact b2, ?_⟩
    rw [PyData.depth]
    omega
  | k + 1, .loc n, u, d, h, r => by
    rw [toD] at h
    split at h
    · cases h
    · rename_i vs e
      obtain ⟨ds, h1, h2⟩ := Option.map_eq_some_iff.mp h
      subst h2
      obtain ⟨us, ha, ra⟩ := seqOf_sq S e
      obtain ⟨b1, b2, b3⟩ := allD (fun v u d => toD_dp S k v u d) h1 ra
      cases r
      refine ⟨.lst ha b1, by rw [PyData.canLay0]; exact b2, ?_⟩
      rw [PyData.depth]
      omega
  | k + 1, .non, u, d, h, r => by have := scaD_dp h r; exact ⟨this.1, this.2.1, by omega⟩
  | k + 1, .bl _, u, d, h, r => by have := scaD_dp h r; exact ⟨this.1, this.2.1, by omega⟩
  | k + 1, .int _, u, d, h, r => by have := scaD_dp h r; exact ⟨this.1, this.2.1, by omega⟩
  | k + 1, .str _, u, d, h, r => by have := scaD_dp h r; exact ⟨this.1, this.2.1, by omega⟩
def datM (μ : Mu) (v : Val) : Option PyData := toD 8 μ v
theorem datM_dp {K : PySem.W.Frag} {w : Wt} {μ : Mu} {H : Hp} (S : Sim K w μ H) {v : Val} {u : V} {d : PyData} (h : datM μ v = some d) (r : VR K w.ad μ.nx H v u) : Dp K H u d ∧ SeqAt.shaped d = true := by
  obtain ⟨h1, h2, h3⟩ := toD_dp S 8 v u d h r
  exact ⟨h1, Bool.and_eq_true_iff.mpr ⟨h2, decide_eq_true (by omega)⟩⟩
def eqM (x y : Val) (μ : Mu) : R Val := match datM μ x, datM μ y with
  | some d, some e => .ok (.bl (PyData.eqv d e)) μ
  | _, _ => .no
def neM (x y : Val) (μ : Mu) : R Val := match datM μ x, datM μ y with
  | some d, some e => .ok (.bl (!PyData.eqv d e)) μ
  | _, _ => .no
def keyOf : Val → Option Key
  | .int i => some (.inl i)
  | .str x => some (.inr x)
  | _ => none
def kGet (kvs : List (Key × Val)) (k : Key) : Option Val := (kvs.find? fun p => decide (p.1 = k)).map (·.2)
def kPut (kvs : List (Key × Val)) (k : Key) (v : Val) : List (Key × Val) := if (kvs.any fun p => decide (p.1 = k)) then kvs.map fun p => if p.1 = k then (p.1, v) else p else kvs ++ [(k, v)]
def kDrop (kvs : List (Key × Val)) (k : Key) : List (Key × Val) := kvs.filter fun p => decide (p.1 ≠ k)
def dctOf (μ : Mu) (n : Nat) : Option (List (Key × Val)) := match μ.ob n with
  | some (.dct kvs) => some kvs
  | some (.rod kvs) => some kvs
  | _ => none
theorem dctOf_rd {K : PySem.W.Frag} {w : Wt} {μ : Mu} {H : Hp} {n : Nat} {kvs : List (Key × Val)} (S : Sim K w μ H) (h : dctOf μ n = some kvs) : ∃ us : List (Key × V), Rd H (w.ad n) (.dK us) ∧ us.map (·.1) = kvs.map (·.1) ∧ VRs K w.ad μ.nx H (kvs.map (·.2)) (us.map (·.2)) := by
  unfold dctOf at h
  split at h
  · rename_i kvs' e
    cases h
    obtain ⟨us, q1, q2, q3⟩ := S.ok _ _ e
    exact ⟨us, .inl q1, q2, q3⟩
  · rename_i kvs' e
    cases h
    obtain ⟨_, o, us, q1, q2, q3⟩ := S.ok _ _ e
    exact ⟨us, .inr ⟨o, q1⟩, q2, q3⟩
  · cases h
/-- x in y -/
def hasM (x y : Val) (μ : Mu) : Option Bool := match y with
  | .loc n => match μ.ob n with
    | some (.lst vs) => match datM μ x, allO (vs.map (datM μ)) with
      | some d, some ds => some (ds.any fun z => PyData.eqv z d)
      | _, _ => none
    | some (.dct kvs) => match keyOf x with
      | some k => some (kGet kvs k).isSome
      | none => none
    | some (.rod kvs) => match keyOf x with
      | some k => some (kGet kvs k).isSome
      | none => none
    | _ => none
  | _ => none
def inM (x y : Val) (μ : Mu) : R Val := match hasM x y μ with
  | some b => .ok (.bl b) μ
  | none => .no
section
variable {X : Cx}
theorem c_eq (hu : X.A.units + 64 < cLine) : CmpP X .Eq eqM := by
  refine ⟨_, op_eqD hu, ?_⟩
  intro E w μ H x y u v Q S hx hy hp
  unfold eqM at hp
  split at hp
  · rename_i d e h1 h2
    obtain ⟨a1, a2⟩ := datM_dp S h1 hx
    obtain ⟨b1, b2⟩ := datM_dp S h2 hy
    exact ⟨d, e, a1, b1, a2, b2, hp w H _ S (.bl _) .refl⟩
  · exact hp.elim
theorem c_ne (hu : X.A.units + 64 < cLine) : CmpP X .NotEq neM := by
  refine ⟨_, op_neD hu, ?_⟩
  intro E w μ H x y u v Q S hx hy hp
  unfold neM at hp
  split at hp
  · rename_i d e h1 h2
    obtain ⟨a1, a2⟩ := datM_dp S h1 hx
    obtain ⟨b1, b2⟩ := datM_dp S h2 hy
    exact ⟨d, e, a1, b1, a2, b2, hp w H _ S (.bl _) .refl⟩
  · exact hp.elim
end
section
variable {K : PySem.W.Frag} {ad : Nat → Addr} {b : Nat} {H : Hp}
theorem kGet_pos {p : Key × Val} {l : List (Key × Val)} {k : Key} (h : p.1 = k) : kGet (p :: l) k = some p.2 := by simp [kGet, List.find?_cons, h]
theorem kGet_neg {p : Key × Val} {l : List (Key × Val)} {k : Key} (h : ¬ p.1 = k) : kGet (p :: l) k = kGet l k := by simp [kGet, List.find?_cons, h]
theorem kGet_rel {k : Key} : ∀ {kvs : List (Key × Val)} {us : List (Key × V)}, us.map (·.1) = kvs.map (·.1) → VRs K ad b H (kvs.map (·.2)) (us.map (·.2)) → (∃ v u, kGet kvs k = some v ∧ valV us k = some u ∧ VR K ad b H v u) ∨ (kGet kvs k = none ∧ valV us k = none)
  | [], [], _, _ => .inr ⟨rfl, rfl⟩
  | p :: kvs, q :: us, h, r => by
    simp only [List.map_cons, List.cons.injEq] at h
    cases r with
    | cons r1 r2 =>
      by_cases c : p.1 = k
      · exact .inl ⟨p.2, q.2, kGet_pos c, valV_pos (h.1.trans c), r1⟩
      · rw [kGet_neg c, valV_neg (fun z => c (h.1.symm.trans z))]
        exact kGet_rel h.2 r2
  | [], _ :: _, h, _ => by simp at h
  | _ :: _, [], h, _ => by simp at h
theorem keyOf_kV {v : Val} {u : V} {k : Key} (h : keyOf v = some k) (r : VR K ad b H v u) : u = kV k := by
  unfold keyOf at h
  split at h
  · cases h; cases r; rfl
  · cases h; cases r; rfl
  · cases h
end
section
variable {X : Cx}
theorem op_in_d (hu : X.A.units + 1 < cLine) : OpR X (compareOp .In) (fun x y H Q => ∃ a o, y = .ref a ∧ DGet H a x o ∧ Q (.bl o.isSome) H) := by
  intro pins s σ H x y v u Q I rx ry h
  obtain ⟨a, o, rfl, g, q⟩ := h
  cases ry
  exact d_in hu I g rx fun s' I' => ⟨.bl _, H, I', rfl, q⟩
theorem has_ok {K : PySem.W.Frag} {w : Wt} {μ : Mu} {H : Hp} {x y : Val} {u v : V} {b : Bool} (S : Sim K w μ H) (hx : VR K w.ad μ.nx H x u) (hy : VR K w.ad μ.nx H y v) (h : hasM x y μ = some b) : (∃ d ds, Dp K H u d ∧ Dp K H v (.list ds) ∧ SeqAt.shaped d = true ∧ SeqAt.shaped (.list ds) = true ∧ b = ds.any fun z => PyData.eqv z d) ∨ ∃ a o, v = .ref a ∧ DGet H a u o ∧ b = o.isSome := by
  unfold hasM at h
  split at h
  · rename_i n
    cases hy with
    | loc hn =>
      split at h
      · rename_i vs e
        split at h
        · rename_i d ds h1 h2
          cases h
          obtain ⟨a1, a2⟩ := datM_dp S h1 hx
          obtain ⟨us, q1, q2⟩ := S.ok _ _ e
          obtain ⟨b1, b2, b3⟩ := allD (fun v u d => toD_dp S 8 v u d) h2 q2
          refine .inl ⟨d, ds, a1, .lst (SqL.of q1) b1, a2, Bool.and_eq_true_iff.mpr ⟨by rw [PyData.canLay0]; exact b2, decide_eq_true ?_⟩, rfl⟩
          rw [PyData.depth]
          omega
        · cases h
      · rename_i kvs e
        split at h
        · rename_i k hk
          cases h
          obtain ⟨us, q1, q2, q3⟩ := S.ok _ _ e
          rw [keyOf_kV hk hx]
          refine .inr ⟨_, _, rfl, DGet.k q1, ?_⟩
          rcases kGet_rel (k := k) q2 q3 with ⟨v, u, e1, e2, _⟩ | ⟨e1, e2⟩
          · rw [e1, e2]; rfl
          · rw [e1, e2]; rfl
        · cases h
      · rename_i kvs e
        split at h
        · rename_i k hk
          cases h
          obtain ⟨us, q1, q2, q3⟩ := dctOf_rd S (show dctOf μ n = some kvs by unfold dctOf; rw [e])
          rw [keyOf_kV hk hx]
          refine .inr ⟨_, _, rfl, .inl ⟨us, k, q1, rfl, rfl⟩, ?_⟩
          rcases kGet_rel (k := k) q2 q3 with ⟨v, u, e1, e2, _⟩ | ⟨e1, e2⟩
          · rw [e1, e2]; rfl
          · rw [e1, e2]; rfl
        · cases h
      · cases h
  · cases h
theorem c_in (hu : X.A.units + 65 < cLine) : CmpP X .In inM := by
  refine ⟨_, (op_inD hu).or (op_in_d (by omega)), ?_⟩
  intro E w μ H x y u v Q S hx hy hp
  unfold inM at hp
  split at hp
  · rename_i b hb
    rcases has_ok S hx hy hb with ⟨d, ds, a1, a2, a3, a4, rfl⟩ | ⟨a, o, rfl, g, rfl⟩
    · exact .inl ⟨d, ds, a1, a2, a3, a4, hp w H _ S (.bl _) .refl⟩
    · exact .inr ⟨a, o, rfl, g, hp w H _ S (.bl _) .refl⟩
  · exact hp.elim
end
end Wn
/-! the law's level: subscripts, calls of builtins, statements, loops, defs -/
namespace Wn
open PySem PySem.Spec PyProof.Rows L2 LamX He

/-! ### subscripts -/
section
variable {K : PySem.W.Frag} {ad : Nat → Addr} {b : Nat} {H : Hp}
theorem atI_rel {vs : List Val} {us : List V} {i : Int} {v : Val} (r : VRs K ad b H vs us) (h : atI vs i = some v) : ∃ u, atI us i = some u ∧ VR K ad b H v u := by
  unfold atI at h ⊢
  rw [r.length]
  cases e : ixN vs.length i with
  | none => rw [e] at h; cases h
  | some j =>
    rw [e] at h
    exact r.get j v h
end
def getM : Val → Val → Mu → R Val
  | .tup vs, .int i, μ => match atI vs i with
    | some v => .ok v μ
    | none => .no
  | .loc n, .int i, μ => match seqOf μ n with
    | some vs => match atI vs i with
      | some v => .ok v μ
      | none => .no
    | none => .no
  | _, _, _ => .no
def dgetM : Val → Val → Mu → R Val
  | .loc n, y, μ => match dctOf μ n, keyOf y with
    | some kvs, some k => match kGet kvs k with
      | some v => .ok v μ
      | none => .no
    | _, _ => .no
  | _, _, _ => .no
def cutG {α : Type} (xs : List α) (lo hi : Option Int) : List α := (xs.drop (HT.sIx xs.length 0 lo)).take (HT.sIx xs.length xs.length hi - HT.sIx xs.length 0 lo)
abbrev MO := Rho → Mu → R (Option Int)
def mP0 : MO := fun _ μ => .ok none μ
def mP (m : ME) : MO := fun ρ μ => (m ρ μ).bind fun x μ => match x with
  | .int i => .ok (some i) μ
  | _ => .no
def slM (x : Val) (lo hi : Option Int) (μ : Mu) : R Val := match x with
  | .tup vs => if HT.sIx vs.length 0 lo = 0 ∧ HT.sIx vs.length vs.length hi = vs.length then .no else .ok (.tup (cutG vs lo hi)) μ
  | .loc n => match seqOf μ n with
    | some vs => .ok (.loc μ.nx) (μ.new (.lst (cutG vs lo hi)))
    | none => .no
  | _ => .no
def mSl (e : ME) (lo hi : MO) : ME := fun ρ μ => (e ρ μ).bind fun x μ => (lo ρ μ).bind fun l μ => (hi ρ μ).bind fun h μ => slM x l h μ
def relO : Rel (Option Int) (Option Int) := fun _ _ _ v u => v = u
def PMO (X : Cx) (E : XK) (o : Option Expr) (m : MO) : Prop := PO X o (tM X.K relO E m)
theorem cut_rel {K : PySem.W.Frag} {ad : Nat → Addr} {b : Nat} {H : Hp} {vs : List Val} {us : List V} (lo hi : Option Int) (r : VRs K ad b H vs us) : VRs K ad b H (cutG vs lo hi) (cutV us lo hi) := by
  unfold cutG cutV
  rw [r.length]
  exact (r.drop _).take _
section
variable {X : Cx} {E : XK} {e a b o : Expr} {es : List Expr} {ma mb me mo : ME} {mr : MA} {pos apos cpos : Pos}
theorem pm_ix (ha : PM X E a ma) (hb : PM X E b mb) (hs : PlainIx b := by exact fun _ _ => rfl) : PM X E (.Subscript a b pos) (mOp getM ma mb) :=
  PE.imp (pe_ix (ix_list.or ix_tup) ha hb hs) fun σ H Q ⟨w, ρ, μ, S, EN, hp⟩ => ⟨w, ρ, μ, S, EN, Post.bind hp fun x μ1 w1 H1 u1 S1 r1 g1 h1 => ⟨w1, ρ, μ1, S1, EN.grow g1, Post.bind h1 fun y μ2 w2 H2 u2 S2 r2 g2 h2 => by
    have r1 := VR.grow g2 r1
    unfold getM at h2
    split at h2
    · cases r2
      obtain ⟨p, us, rfl, hq, rq⟩ := vr_tup r1
      split at h2
      · rename_i v hv
        obtain ⟨u, e1, e2⟩ := atI_rel rq hv
        exact .inr ⟨p, us, _, u, rfl, rfl, hq, e1, h2 w2 H2 u S2 e2 .refl⟩
      · exact h2.elim
    · cases r2
      cases r1
      split at h2
      · rename_i vs hs
        obtain ⟨us, hq, rq⟩ := seqOf_sq S2 hs
        split at h2
        · rename_i v hv
          obtain ⟨u, e1, e2⟩ := atI_rel rq hv
          exact .inl ⟨_, us, _, u, rfl, rfl, hq, e1, h2 w2 H2 u S2 e2 .refl⟩
        · exact h2.elim
      · exact h2.elim
    · exact h2.elim⟩⟩
theorem pm_dget (hu : X.A.units + 1 < cLine) (ha : PM X E a ma) (hb : PM X E b mb) (hs : NoSl b := by exact fun _ _ => rfl) : PM X E (.Subscript a b pos) (mOp dgetM ma mb) :=
  PE.imp (pe_dget hu ha hb hs) fun σ H Q ⟨w, ρ, μ, S, EN, hp⟩ => ⟨w, ρ, μ, S, EN, Post.bind hp fun x μ1 w1 H1 u1 S1 r1 g1 h1 => ⟨w1, ρ, μ1, S1, EN.grow g1, Post.bind h1 fun y μ2 w2 H2 u2 S2 r2 g2 h2 => by
    have r1 := VR.grow g2 r1
    unfold dgetM at h2
    split at h2
    · cases r1
      split at h2
      · rename_i kvs k hn hk
        split at h2
        · rename_i v hv
          obtain ⟨us, q1, q2, q3⟩ := dctOf_rd S2 hn
          have ek := keyOf_kV hk r2
          subst ek
          rcases kGet_rel (k := k) q2 q3 with ⟨v', u', e1, e2, e3⟩ | ⟨e1, e2⟩
          · rw [hv] at e1
            cases e1
            have dg : DGet H2 _ (kV k) (valV us k) := .inl ⟨us, k, q1, rfl, rfl⟩
            rw [e2] at dg
            exact ⟨_, u', rfl, dg, h2 w2 H2 u' S2 e3 .refl⟩
          · rw [hv] at e1
            cases e1
        · exact h2.elim
      · exact h2.elim
    · exact h2.elim⟩⟩
theorem pmo_none : PMO X E none mP0 := ⟨fun pins s σ H Q I ⟨w, ρ, μ, S, EN, hp⟩ => po_none.run pins s σ H Q I (hp w H none S rfl .refl)⟩
theorem pmo_some (h : PM X E e me) : PMO X E (some e) (mP me) := ⟨fun pins s σ H Q I ⟨w, ρ, μ, S, EN, hp⟩ => (po_some h).run pins s σ H Q I ⟨w, ρ, μ, S, EN, Post.bind hp fun x μ1 w1 H1 u1 S1 r1 g1 h1 => by
  cases x with
  | int i =>
    cases r1
    exact ⟨i, rfl, h1 w1 H1 _ S1 rfl .refl⟩
  | _ => exact h1.elim⟩⟩
theorem pm_slice {lo hi : Option Expr} {ml mh : MO} {p2 : Pos} (he : PM X E e me) (hl : PMO X E lo ml) (hh : PMO X E hi mh) : PM X E (.Subscript e (.Slice lo hi none p2) pos) (mSl me ml mh) :=
  PE.imp (pe_slice (sl_list.or sl_tup) he hl hh) fun σ H Q ⟨w, ρ, μ, S, EN, hp⟩ => ⟨w, ρ, μ, S, EN, Post.bind hp fun x μ1 w1 H1 u1 S1 r1 g1 h1 => ⟨w1, ρ, μ1, S1, EN.grow g1, Post.bind h1 fun l μ2 w2 H2 u2 S2 r2 g2 h2 => ⟨w2, ρ, μ2, S2, (EN.grow g1).grow g2, Post.bind h2 fun h μ3 w3 H3 u3 S3 r3 g3 h3 => by
    cases r2; cases r3
    have r1 := VR.grow g3 (VR.grow g2 r1)
    unfold slM at h3
    split at h3
    · obtain ⟨p, us, rfl, hq, rq⟩ := vr_tup r1
      split at h3
      · exact h3.elim
      · rename_i hc
        refine .inr ⟨p, us, rfl, hq, by rw [rq.length]; exact hc, fun q nq => ?_⟩
        obtain ⟨S4, g4, v4⟩ := S3.newT nq (cut_rel l h rq)
        exact h3 w3 _ _ S4 v4 g4
    · cases r1
      split at h3
      · rename_i vs hs
        obtain ⟨us, hq, rq⟩ := seqOf_sq S3 hs
        refine .inl ⟨_, us, rfl, hq, fun q nq => ?_⟩
        obtain ⟨w4, S4, g4, e4⟩ := S3.newL nq (cut_rel l h rq)
        exact h3 w4 _ _ S4 (by rw [← e4]; exact VR.loc (Nat.lt_succ_self _)) g4
      · exact h3.elim
    · exact h3.elim⟩⟩⟩
end
/-! ### builtins -/
def lenM : List Val → Mu → R Val
  | [.tup vs], μ => .ok (.int vs.length) μ
  | [.str x], μ => if x.length ≤ 1000000 then .ok (.int x.length) μ else .no
  | [.loc n], μ => match seqOf μ n with
    | some vs => .ok (.int vs.length) μ
    | none => .no
  | _, _ => .no
def listM : List Val → Mu → R Val
  | [.tup vs], μ => .ok (.loc μ.nx) (μ.new (.lst vs))
  | [.loc n], μ => match seqOf μ n with
    | some vs => .ok (.loc μ.nx) (μ.new (.lst vs))
    | none => .no
  | _, _ => .no
def tupleM : List Val → Mu → R Val
  | [.tup vs], μ => .ok (.tup vs) μ
  | [.loc n], μ => match seqOf μ n with
    | some vs => .ok (.tup vs) μ
    | none => .no
  | _, _ => .no
def minM : List Val → Mu → R Val
  | [.int i, .int j], μ => .ok (.int (if j < i then j else i)) μ
  | _, _ => .no
def maxM : List Val → Mu → R Val
  | [.int i, .int j], μ => .ok (.int (if j > i then j else i)) μ
  | _, _ => .no
def absM : List Val → Mu → R Val
  | [.int i], μ => .ok (.int (if i < 0 then -i else i)) μ
  | _, _ => .no
def intM : List Val → Mu → R Val
  | [.int i], μ => .ok (.int i) μ
  | _, _ => .no
def intsOf : List Val → Option (List Int)
  | [] => some []
  | .int i :: r => match intsOf r with
    | some l => some (i :: l)
    | none => none
  | _ :: _ => none
def sortedM : List Val → Mu → R Val
  | [.loc n], μ => match seqOf μ n with
    | some vs => match intsOf vs with
      | some l => .ok (.loc μ.nx) (μ.new (.lst ((srtI l).map Val.int)))
      | none => .no
    | none => .no
  | _, _ => .no
section
variable {X : Cx} {K : PySem.W.Frag}
theorem p_len : PrimA K (fun xs H Q => ∃ x n, xs = [x] ∧ LenV K x H n ∧ Q (.int n) H) lenM := by
  intro E w μ H xs us Q S r hp
  unfold lenM at hp
  split at hp
  · cases r with
    | cons r1 r2 =>
      cases r2
      obtain ⟨a, vs, rfl, hq, rq⟩ := vr_tup r1
      exact ⟨_, _, rfl, .inr ⟨vs, hq, rfl⟩, by rw [rq.length]; exact hp w H _ S (.int _) .refl⟩
  · cases r with
    | cons r1 r2 =>
      cases r2
      cases r1
      split at hp
      · rename_i hz
        exact ⟨_, _, rfl, ⟨Nat.le_of_lt (lim6 hz), rfl⟩, hp w H _ S (.int _) .refl⟩
      · exact hp.elim
  · cases r with
    | cons r1 r2 =>
      cases r2
      cases r1
      split at hp
      · rename_i vs hs
        obtain ⟨us, hq, rq⟩ := seqOf_sq S hs
        exact ⟨_, _, rfl, .inl ⟨us, hq, rfl⟩, by rw [rq.length]; exact hp w H _ S (.int _) .refl⟩
      · exact hp.elim
  · exact hp.elim
theorem p_min : PrimA K (fun xs H Q => ∃ i j, xs = [.int i, .int j] ∧ Q (.int (if j < i then j else i)) H) minM := by
  intro E w μ H xs us Q S r hp
  unfold minM at hp
  split at hp
  · cases r with
    | cons r1 r2 =>
      cases r2 with
      | cons r3 r4 =>
        cases r4; cases r1; cases r3
        exact ⟨_, _, rfl, hp w H _ S (.int _) .refl⟩
  · exact hp.elim
theorem p_max : PrimA K (fun xs H Q => ∃ i j, xs = [.int i, .int j] ∧ Q (.int (if j > i then j else i)) H) maxM := by
  intro E w μ H xs us Q S r hp
  unfold maxM at hp
  split at hp
  · cases r with
    | cons r1 r2 =>
      cases r2 with
      | cons r3 r4 =>
        cases r4; cases r1; cases r3
        exact ⟨_, _, rfl, hp w H _ S (.int _) .refl⟩
  · exact hp.elim
theorem p_abs : PrimA K (fun xs H Q => ∃ i, xs = [.int i] ∧ Q (.int (if i < 0 then -i else i)) H) absM := by
  intro E w μ H xs us Q S r hp
  unfold absM at hp
  split at hp
  · cases r with
    | cons r1 r2 =>
      cases r2; cases r1
      exact ⟨_, rfl, hp w H _ S (.int _) .refl⟩
  · exact hp.elim
theorem p_int : PrimA K (fun xs H Q => (∃ i, xs = [.int i] ∧ Q (.int i) H) ∨ ∃ k, xs = [.bl k] ∧ Q (.int (if k then 1 else 0)) H) intM := by
  intro E w μ H xs us Q S r hp
  unfold intM at hp
  split at hp
  · cases r with
    | cons r1 r2 =>
      cases r2; cases r1
      exact .inl ⟨_, rfl, hp w H _ S (.int _) .refl⟩
  · exact hp.elim
end
/-! ### methods of lists -/
def lstOf (x : Val) (μ : Mu) : Option (Nat × List Val) := match x with
  | .loc n => match μ.ob n with
    | some (.lst vs) => some (n, vs)
    | _ => none
  | _ => none
def mBm (f : Val → List Val → Mu → R Val) (o : ME) (a : MA) : ME := fun ρ μ => (o ρ μ).bind fun x μ => match lstOf x μ with
  | none => .no
  | some _ => (a ρ μ).bind fun xs μ => f x xs μ
def appM (x : Val) (xs : List Val) (μ : Mu) : R Val := match lstOf x μ, xs with
  | some (n, vs), [v] => if vs.length ≤ 1000000 then .ok .non (μ.put n (.lst (vs ++ [v]))) else .no
  | _, _ => .no
def popM (x : Val) (xs : List Val) (μ : Mu) : R Val := match lstOf x μ, xs with
  | some (n, vs), [.int i] => if vs.length ≤ 1000000 then match ixN vs.length i with
    | some k => match vs[k]? with
      | some v => .ok v (μ.put n (.lst (vs.eraseIdx k)))
      | none => .no
    | none => .no
    else .no
  | _, _ => .no
def extM (x : Val) (xs : List Val) (μ : Mu) : R Val := match lstOf x μ, xs with
  | some (n, vs), [y] => match lstOf y μ with
    | some (_, zs) => if vs.length + zs.length ≤ 1000000 then .ok .non (μ.put n (.lst (vs ++ zs))) else .no
    | none => .no
  | _, _ => .no
theorem lstOf_eq {x : Val} {μ : Mu} {n : Nat} {vs : List Val} (h : lstOf x μ = some (n, vs)) : x = .loc n ∧ μ.ob n = some (.lst vs) := by
  unfold lstOf at h
  split at h
  · split at h
    · rename_i e
      cases h
      exact ⟨rfl, e⟩
    · cases h
  · cases h
section
variable {X : Cx} {E : XK} {e o : Expr} {es : List Expr} {mo : ME} {mr : MA} {apos cpos : Pos} {name : Str} {id : String} {r : V → List V → Hp → VK → Prop} {f : Val → List Val → Mu → R Val}
def PrimM (K : PySem.W.Frag) (r : V → List V → Hp → VK → Prop) (f : Val → List Val → Mu → R Val) : Prop := ∀ (E : XK) (w : Wt) (μ : Mu) (H : Hp) (x : Val) (u : V) (xs : List Val) (us : List V) (Q : VK), Sim K w μ H → VR K w.ad μ.nx H x u → VRs K w.ad μ.nx H xs us → Post K (relE K) E w μ.nx H Q (f x xs μ) → r u us H Q
theorem pm_bmL (slot : Slot "list" name id) (hty : typeOf (.builtin id) = pure (.type "method_descriptor")) (hm : MtR X id r) (hf : PrimM X.K r f) (ho : PM X E o mo) (ha : PMA X E (e :: es) mr)
    (hbase : attributeBase o name X.env (eval o X.env) = eval o X.env := by rfl)
    (hfew : ((backTo cpos (starEach (e :: es) X.env)).all (fun x => !x.1) && (backToKw cpos (keywordEach [] X.env)).all (fun x => x.1.isSome)
      && decide ((e :: es).length + ([] : List Keyword).length + (if ([] : List Keyword).isEmpty then 0 else 1) < 30)) = true := by rfl)
    (hline : (apos.endLine == cpos.line) = true := by rfl) (hs : starEach (e :: es) X.env = (false, eval e X.env) :: starEach es X.env := by rfl) (hplain : (backTo cpos (starEach es X.env)).any (·.1) = false := by rfl) :
    PM X E (.Call (.Attribute o name apos) (e :: es) [] cpos) (mBm f mo mr) :=
  PE.imp (pe_bm PySem.F.plainAttrs_list slot hty hm ho ha hbase hfew hline hs hplain) fun σ H Q ⟨w, ρ, μ, S, EN, hp⟩ => ⟨w, ρ, μ, S, EN, Post.bind hp fun x μ1 w1 H1 u1 S1 r1 g1 h1 => by
    split at h1
    · exact h1.elim
    · rename_i p hl
      obtain ⟨rfl, hob⟩ := lstOf_eq (n := p.1) (vs := p.2) hl
      obtain ⟨us, q1, q2⟩ := S1.ok _ _ hob
      have tyv : tyV X.K "list" u1 H1 := by
        cases r1
        exact .inl ⟨rfl, us, SqL.of q1⟩
      exact ⟨tyv, w1, ρ, μ1, S1, EN.grow g1, Post.bind h1 fun xs μ2 w2 H2 u2 S2 r2 g2 h2 => hf E w2 μ2 H2 _ u1 xs u2 Q S2 (VR.grow g2 r1) r2 h2⟩⟩
theorem p_extend {K : PySem.W.Frag} : PrimM K rExtend extM := by
  intro E w μ H x u xs us Q S hx hr hp
  unfold extM at hp
  split at hp
  · rename_i n vs y hl
    obtain ⟨rfl, hob⟩ := lstOf_eq hl
    split at hp
    · rename_i m zs hl2
      obtain ⟨rfl, hob2⟩ := lstOf_eq hl2
      split at hp
      · rename_i hz
        cases hx
        cases hr with
        | cons r1 r2 =>
          cases r2; cases r1
          obtain ⟨us, q1, q2⟩ := S.ok _ _ hob
          obtain ⟨ws, q3, q4⟩ := S.ok _ _ hob2
          refine ⟨_, _, us, ws, rfl, rfl, q1, q3, by rw [q2.length, q4.length]; exact Nat.le_of_lt (lim6 hz), ?_⟩
          obtain ⟨S2, g2⟩ := S.setL hob (q2.app q4)
          exact hp w _ _ S2 .non g2
      · exact hp.elim
    · exact hp.elim
  · exact hp.elim
end
end Wn
/-! the law's level: statements, loops, defs -/
namespace Wn
open PySem PySem.Spec PyProof.Rows L2 LamX He

inductive Fl where
  | nx (ρ : Rho) | rt (v : Val) | bk (ρ : Rho) | ct (ρ : Rho)
abbrev MS := Rho → Mu → R Fl
def PostS (K : PySem.W.Frag) (E : XK) (w : Wt) (b : Nat) (H : Hp) (D : Ends) : R Fl → Prop
  | .ok (.nx ρ') μ' => ∀ w' H' σ', Sim K w' μ' H' → EnvR K w' μ'.nx H' ρ' σ' → Grow K w b H w' μ'.nx H' → D.nx σ' H'
  | .ok (.rt v) μ' => ∀ w' H' u, Sim K w' μ' H' → VR K w'.ad μ'.nx H' v u → Grow K w b H w' μ'.nx H' → D.rt u H'
  | .ok (.bk ρ') μ' => ∀ w' H' σ', Sim K w' μ' H' → EnvR K w' μ'.nx H' ρ' σ' → Grow K w b H w' μ'.nx H' → D.bk σ' H'
  | .ok (.ct ρ') μ' => ∀ w' H' σ', Sim K w' μ' H' → EnvR K w' μ'.nx H' ρ' σ' → Grow K w b H w' μ'.nx H' → D.ct σ' H'
  | .er c fs μ' => ∀ w' H' d us, Sim K w' μ' H' → Grow K w b H w' μ'.nx H' → H' d = some (.xd us) → us.map (·.1) = fs.map (·.1) → VRs K w'.ad μ'.nx H' (fs.map (·.2)) (us.map (·.2)) → E (.ref (ga K c)) (some d) H'
  | .no => False
section
variable {K : PySem.W.Frag} {E : XK}
theorem PostS.grow {w w1 : Wt} {b b1 : Nat} {H H1 : Hp} {D : Ends} {r : R Fl} (h : PostS K E w b H D r) (g : Grow K w b H w1 b1 H1) : PostS K E w1 b1 H1 D r := by
  cases r with
  | ok a μ =>
    cases a with
    | nx ρ => exact fun w' H' σ' S r g' => h w' H' σ' S r (g.trans g')
    | rt v => exact fun w' H' σ' S r g' => h w' H' σ' S r (g.trans g')
    | bk ρ => exact fun w' H' σ' S r g' => h w' H' σ' S r (g.trans g')
    | ct ρ => exact fun w' H' σ' S r g' => h w' H' σ' S r (g.trans g')
  | er c fs μ => exact fun w' H' d us S g' => h w' H' d us S (g.trans g')
  | no => exact h
/-- an expression first -/
theorem PostS.bind {α β : Type} {rel : Rel α β} {w : Wt} {b : Nat} {H : Hp} {D : Ends} {Q1 : β → Hp → Prop} {r : R α} {k : α → Mu → R Fl} (h : PostS K E w b H D (r.bind k))
    (f : ∀ a μ1 w1 H1 u1, Sim K w1 μ1 H1 → rel w1 μ1.nx H1 a u1 → Grow K w b H w1 μ1.nx H1 → PostS K E w1 μ1.nx H1 D (k a μ1) → Q1 u1 H1) : Post K rel E w b H Q1 r := by
  cases r with
  | ok a μ1 => exact fun w1 H1 u1 S r g => f a μ1 w1 H1 u1 S r g (PostS.grow h g)
  | er c fs μ => exact h
  | no => exact h.elim
end
def tS (K : PySem.W.Frag) (E : XK) (m : MS) : TS := fun D σ H => ∃ w ρ μ, Sim K w μ H ∧ EnvR K w μ.nx H ρ σ ∧ PostS K E w μ.nx H D (m ρ μ)
def PMS (X : Cx) (E : XK) (st : Stmt) (m : MS) : Prop := PS X st (tS X.K E m)
def PMSs (X : Cx) (E : XK) (st : List Stmt) (m : MS) : Prop := PSs X st (tS X.K E m)
theorem PS.imp {X : Cx} {st : Stmt} {t t0 : TS} (h : PS X st t) (i : ∀ D σ H, t0 D σ H → t D σ H) : PS X st t0 := ⟨fun pins s σ H D I hw => h.run pins s σ H D I (i D σ H hw)⟩
theorem PSs.imp {X : Cx} {st : List Stmt} {t t0 : TS} (h : PSs X st t) (i : ∀ D σ H, t0 D σ H → t D σ H) : PSs X st t0 := ⟨fun pins s σ H D I hw => h.run pins s σ H D I (i D σ H hw)⟩

/-! ### the words -/
def sNil : MS := fun ρ μ => .ok (.nx ρ) μ
def sThen (r : R Fl) (k : Rho → Mu → R Fl) : R Fl := match r with
  | .ok (.nx ρ) μ => k ρ μ
  | r => r
@[simp] theorem sThen_nx (ρ : Rho) (μ : Mu) (k : Rho → Mu → R Fl) : sThen (.ok (.nx ρ) μ) k = k ρ μ := rfl
@[simp] theorem sThen_rt (v : Val) (μ : Mu) (k : Rho → Mu → R Fl) : sThen (.ok (.rt v) μ) k = .ok (.rt v) μ := rfl
@[simp] theorem sThen_bk (v : Rho) (μ : Mu) (k : Rho → Mu → R Fl) : sThen (.ok (.bk v) μ) k = .ok (.bk v) μ := rfl
@[simp] theorem sThen_ct (v : Rho) (μ : Mu) (k : Rho → Mu → R Fl) : sThen (.ok (.ct v) μ) k = .ok (.ct v) μ := rfl
def sSeq (a b : MS) : MS := fun ρ μ => sThen (a ρ μ) b
def sSet (i : Nat) (m : ME) : MS := fun ρ μ => (m ρ μ).bind fun v μ => .ok (.nx (ρ.set i (some v))) μ
def sExpr (m : ME) : MS := fun ρ μ => (m ρ μ).bind fun _ μ => .ok (.nx ρ) μ
def sRet (m : ME) : MS := fun ρ μ => (m ρ μ).bind fun v μ => .ok (.rt v) μ
def sRetN : MS := fun _ μ => .ok (.rt .non) μ
def sIf (c : MT) (a b : MS) : MS := fun ρ μ => (c ρ μ).bind fun k μ => if k = true then a ρ μ else b ρ μ
def sBrk : MS := fun ρ μ => .ok (.bk ρ) μ
def sCnt : MS := fun ρ μ => .ok (.ct ρ) μ
def sPar (i j : Nat) (m : MA) : MS := fun ρ μ => (m ρ μ).bind fun vs μ => match vs with
  | [v, w] => .ok (.nx ((ρ.set i (some v)).set j (some w))) μ
  | _ => .no
def sPar3 (i j k : Nat) (m : MA) : MS := fun ρ μ => (m ρ μ).bind fun vs μ => match vs with
  | [u, v, w] => .ok (.nx (((ρ.set i (some u)).set j (some v)).set k (some w))) μ
  | _ => .no
/-- targets: a name, names in a tuple -/
def unp : List Nat → List Val → Rho → Option Rho
  | [], [], ρ => some ρ
  | i :: is, v :: vs, ρ => unp is vs (ρ.set i (some v))
  | _, _, _ => none
def tgN (i : Nat) (v : Val) (ρ : Rho) : Option Rho := some (ρ.set i (some v))
def tgT (is : List Nat) (v : Val) (ρ : Rho) : Option Rho := match v with
  | .tup vs => unp is vs ρ
  | _ => none
def sAsg (g : Val → Rho → Option Rho) (m : ME) : MS := fun ρ μ => (m ρ μ).bind fun v μ => match g v ρ with
  | some ρ' => .ok (.nx ρ') μ
  | none => .no
def stoM : Val → Val → Val → Mu → R Unit
  | .loc n, .int i, v, μ => match μ.ob n with
    | some (.lst vs) => match ixN vs.length i with
      | some j => .ok () (μ.put n (.lst (vs.set j v)))
      | none => .no
    | _ => .no
  | _, _, _, _ => .no
def dstoM : Val → Val → Val → Mu → R Unit
  | .loc n, y, v, μ => match μ.ob n, keyOf y with
    | some (.dct kvs), some k => if kvs.length ≤ 1000000 then .ok () (μ.put n (.dct (kPut kvs k v))) else .no
    | _, _ => .no
  | _, _, _, _ => .no
def sSto (f : Val → Val → Val → Mu → R Unit) (o i v : ME) : MS := fun ρ μ => (v ρ μ).bind fun v μ => (o ρ μ).bind fun o μ => (i ρ μ).bind fun i μ => (f o i v μ).bind fun _ μ => .ok (.nx ρ) μ
section
variable {X : Cx} {E : XK} {e c o : Expr} {es : List Expr} {st : Stmt} {sts a b : List Stmt} {m mo mi mv : ME} {ms mt : MS} {mc : MT} {mr : MA} {pos : Pos}
theorem pmss_nil : PMSs X E [] sNil := PSs.imp pss_nil fun D σ H ⟨w, ρ, μ, S, EN, hp⟩ => hp w H σ S EN .refl
theorem post_then {K : PySem.W.Frag} {w : Wt} {b : Nat} {H : Hp} {D : Ends} {r : R Fl} {k : MS} (h : PostS K E w b H D (sThen r k)) : PostS K E w b H { D with nx := tS K E k D } r := by
  cases r with
  | ok a μ =>
    cases a with
    | nx ρ => exact fun w' H' σ' S EN g => ⟨w', ρ, μ, S, EN, PostS.grow h g⟩
    | _ => exact h
  | er c fs μ => exact h
  | no => exact h
theorem pmss_cons (h1 : PMS X E st ms) (h2 : PMSs X E sts mt) : PMSs X E (st :: sts) (sSeq ms mt) :=
  PSs.imp (pss_cons h1 h2) fun D σ H ⟨w, ρ, μ, S, EN, hp⟩ => ⟨w, ρ, μ, S, EN, post_then hp⟩
theorem pmss_one (h1 : PMS X E st ms) : PMSs X E [st] ms := pss_one h1
theorem pms_expr (he : PM X E e m) (hs : swapsWith e none pos.line X.env = pure false := by rfl) : PMS X E (.Expr e pos) (sExpr m) :=
  PS.imp (ps_expr he hs) fun D σ H ⟨w, ρ, μ, S, EN, hp⟩ => ⟨w, ρ, μ, S, EN, PostS.bind hp fun x μ1 w1 H1 u1 S1 r1 g1 h1 => h1 w1 H1 σ S1 (EN.grow g1) .refl⟩
theorem pms_ret (he : PM X E e m) : PMS X E (.Return (some e) pos) (sRet m) :=
  PS.imp (ps_ret he) fun D σ H ⟨w, ρ, μ, S, EN, hp⟩ => ⟨w, ρ, μ, S, EN, PostS.bind hp fun x μ1 w1 H1 u1 S1 r1 g1 h1 => h1 w1 H1 u1 S1 r1 .refl⟩
theorem pms_if (hc : PMT X E c mc) (ha : PMSs X E a ms) (hb : PMSs X E b mt) : PMS X E (.If c a b pos) (sIf mc ms mt) :=
  PS.imp (ps_if hc ha hb) fun D σ H ⟨w, ρ, μ, S, EN, hp⟩ => ⟨w, ρ, μ, S, EN, PostS.bind hp fun x μ1 w1 H1 u1 S1 r1 g1 h1 => by
    cases r1
    cases x with
    | true => exact iteT ⟨w1, ρ, μ1, S1, EN.grow g1, h1⟩
    | false => exact iteF ⟨w1, ρ, μ1, S1, EN.grow g1, h1⟩⟩
theorem pms_set {i : Nat} {x : Str} {pos' : Pos} (hN : X.N.Nodup) (hi : X.N[i]? = some x) (hx : Loc X.env.scope x) (he : PM X E e m) (hs : swapsWith e (some (.Name x pos')) pos.line X.env = pure false := by rfl) (hf : X.fn x = true ∨ X.env.scope.names.lookup x = some .local := by first | exact .inl rfl | exact .inr rfl | assumption) :
    PMS X E (.Assign [.Name x pos'] e pos) (sSet i m) :=
  PS.imp (ps_set hN hi hx he hs hf) fun D σ H ⟨w, ρ, μ, S, EN, hp⟩ => ⟨w, ρ, μ, S, EN, PostS.bind hp fun x μ1 w1 H1 u1 S1 r1 g1 h1 => h1 w1 H1 _ S1 ((EN.grow g1).set i r1) .refl⟩
theorem pms_par {i j : Nat} {x y : Str} {a b : Expr} {px py pt : Pos} {kt k2 pt2} (hc : X.calm = true) (hN : X.N.Nodup) (hi : X.N[i]? = some x) (hj : X.N[j]? = some y) (hij : i ≠ j)
    (hx : X.env.scope.names.lookup x = some .local) (hy : X.env.scope.names.lookup y = some .local) (ha : PMA X E [a, b] mr)
    (hw : swappedStores [.Tuple [.Name x px, .Name y py] kt pt] (.Tuple [a, b] k2 pt2) X.env = pure (some [x, y]))
    (hs : swapsWithSole [.Tuple [.Name x px, .Name y py] kt pt] (.Tuple [a, b] k2 pt2) pos.line X.env = pure false := by rfl) :
    PMS X E (.Assign [.Tuple [.Name x px, .Name y py] kt pt] (.Tuple [a, b] k2 pt2) pos) (sPar i j mr) :=
  PS.imp (ps_par hc hN hi hj hij hx hy ha hw hs) fun D σ H ⟨w, ρ, μ, S, EN, hp⟩ => ⟨w, ρ, μ, S, EN, PostS.bind hp fun vs μ1 w1 H1 us S1 r1 g1 h1 => by
    split at h1
    · cases r1 with
      | cons ra rr =>
        cases rr with
        | cons rb rr =>
          cases rr
          exact ⟨_, _, rfl, h1 w1 H1 _ S1 (((EN.grow g1).set i ra).set j rb) .refl⟩
    · exact h1.elim⟩
theorem pms_par3 {i j l : Nat} {x y z : Str} {a b c : Expr} {px py pz pt : Pos} {kt k2 pt2} (hc : X.calm = true) (hN : X.N.Nodup) (hi : X.N[i]? = some x) (hj : X.N[j]? = some y) (hl : X.N[l]? = some z) (hij : i ≠ j) (hil : i ≠ l) (hjl : j ≠ l)
    (hx : X.env.scope.names.lookup x = some .local) (hy : X.env.scope.names.lookup y = some .local) (hz : X.env.scope.names.lookup z = some .local) (ha : PMA X E [a, b, c] mr)
    (hw : swappedStores [.Tuple [.Name x px, .Name y py, .Name z pz] kt pt] (.Tuple [a, b, c] k2 pt2) X.env = pure (some [x, y, z]))
    (hs : swapsWithSole [.Tuple [.Name x px, .Name y py, .Name z pz] kt pt] (.Tuple [a, b, c] k2 pt2) pos.line X.env = pure false := by rfl) :
    PMS X E (.Assign [.Tuple [.Name x px, .Name y py, .Name z pz] kt pt] (.Tuple [a, b, c] k2 pt2) pos) (sPar3 i j l mr) :=
  PS.imp (ps_par3 hc hN hi hj hl hij hil hjl hx hy hz ha hw hs) fun D σ H ⟨w, ρ, μ, S, EN, hp⟩ => ⟨w, ρ, μ, S, EN, PostS.bind hp fun vs μ1 w1 H1 us S1 r1 g1 h1 => by
    split at h1
    · cases r1 with
      | cons ra rr =>
        cases rr with
        | cons rb rr =>
          cases rr with
          | cons rc rr =>
            cases rr
            exact ⟨_, _, _, rfl, h1 w1 H1 _ S1 ((((EN.grow g1).set i ra).set j rb).set l rc) .refl⟩
    · exact h1.elim⟩
/-! ### targets -/
theorem wipe_in {σ : L2.St} {i : Nat} : ∀ {vs : List Nat}, i ∈ vs → (wipe σ vs)[i]? = (σ[i]?).map fun _ => none
  | [], h => by cases h
  | v :: vs, h => by
    unfold wipe
    by_cases c : v = i
    · subst c
      rw [List.getElem?_set, if_pos rfl, wipe_length]
      by_cases d : v < σ.length
      · rw [if_pos d, List.getElem?_eq_getElem d]
        rfl
      · rw [if_neg d, List.getElem?_eq_none (by omega)]
        rfl
    · rw [List.getElem?_set_ne c]
      rcases List.mem_cons.mp h with z | z
      · exact (c z.symm).elim
      · exact wipe_in z
theorem wipe_set {σ : L2.St} {i : Nat} {x : Option V} {vs : List Nat} (h : i ∈ vs) : wipe (σ.set i x) vs = wipe σ vs := by
  apply List.ext_getElem?
  intro j
  by_cases c : j ∈ vs
  · rw [wipe_in c, wipe_in c, List.getElem?_set]
    by_cases d : i = j
    · subst d
      rw [if_pos rfl]
      by_cases l : i < σ.length
      · rw [if_pos l, List.getElem?_eq_getElem l]
        rfl
      · rw [if_neg l, List.getElem?_eq_none (by omega)]
    · rw [if_neg d]
  · have ne : i ≠ j := fun z => c (by rw [← z]; exact h)
    rw [wipe_out c, wipe_out c, List.getElem?_set_ne ne]
def Wiped (is : List Nat) (σ σ' : L2.St) : Prop := ∀ vs : List Nat, (∀ i ∈ is, i ∈ vs) → wipe σ' vs = wipe σ vs
def tG (K : PySem.W.Frag) (is : List Nat) (g : Val → Rho → Option Rho) : TG := fun x σ H Q => ∃ w ρ b v ρ', EnvR K w b H ρ σ ∧ VR K w.ad b H v x ∧ g v ρ = some ρ' ∧ ∀ σ', EnvR K w b H ρ' σ' → Wiped is σ σ' → Q σ' H
def PMG (X : Cx) (tg : Expr) (is : List Nat) (g : Val → Rho → Option Rho) : Prop := PG X tg (tG X.K is g)
def tGs (K : PySem.W.Frag) (is : List Nat) : TGs := fun xs σ H Q => ∃ w ρ b vs ρ', EnvR K w b H ρ σ ∧ VRs K w.ad b H vs xs ∧ unp is vs ρ = some ρ' ∧ ∀ σ', EnvR K w b H ρ' σ' → Wiped is σ σ' → Q σ' H
theorem PG.imp {tg : Expr} {t t0 : TG} (h : PG X tg t) (i : ∀ x σ H Q, t0 x σ H Q → t x σ H Q) : PG X tg t0 := ⟨fun pins s σ H v u Q I r hw => h.run pins s σ H v u Q I r (i v σ H Q hw)⟩
theorem PGs.imp {tg : List Expr} {t t0 : TGs} (h : PGs X tg t) (i : ∀ x σ H Q, t0 x σ H Q → t x σ H Q) : PGs X tg t0 := ⟨fun pins s σ H v u Q I r hw => h.run pins s σ H v u Q I r (i v σ H Q hw)⟩
theorem pmg_name {i : Nat} {x : Str} (hN : X.N.Nodup) (hi : X.N[i]? = some x) (hx : Loc X.env.scope x) (hf : X.fn x = true ∨ X.env.scope.names.lookup x = some .local := by first | exact .inl rfl | exact .inr rfl | assumption) : PMG X (.Name x pos) [i] (tgN i) :=
  PG.imp (pg_name hN hi hx hf) fun x σ H Q ⟨w, ρ, b, v, ρ', EN, r, h1, h2⟩ => by
    cases h1
    exact h2 _ (EN.set i r) fun vs hv => wipe_set (hv i (by simp))
def PMGs (X : Cx) (ts : List Expr) (is : List Nat) : Prop := PGs X ts (tGs X.K is)
theorem pmgs_nil : PMGs X [] [] := PGs.imp pgs_nil fun x σ H Q ⟨w, ρ, b, vs, ρ', EN, r, h1, h2⟩ => by
  cases vs with
  | nil =>
    cases r
    cases h1
    exact ⟨rfl, h2 _ EN fun _ _ => rfl⟩
  | cons v vs => cases h1
theorem pmgs_cons {i : Nat} {x : Str} {is : List Nat} {ts : List Expr} {px : Pos} (hN : X.N.Nodup) (hi : X.N[i]? = some x) (hx : Loc X.env.scope x) (h2 : PMGs X ts is) (hf : X.fn x = true ∨ X.env.scope.names.lookup x = some .local := by first | exact .inl rfl | exact .inr rfl | assumption)
    (ha : (assignEach (.Name x px :: ts) X.env).map (·.2) = assign (.Name x px) X.env :: (assignEach ts X.env).map (·.2) := by rfl) : PMGs X (.Name x px :: ts) (i :: is) :=
  PGs.imp (pgs_cons (pg_name (i := i) hN hi hx hf) h2 ha) fun xs σ H Q ⟨w, ρ, b, vs, ρ', EN, r, h1, h3⟩ => by
    cases vs with
    | nil => cases h1
    | cons v vs =>
      cases r with
      | cons r1 r2 => exact ⟨_, _, rfl, w, _, b, vs, ρ', EN.set i r1, r2, h1, fun σ' EN' hw => h3 σ' EN' fun l hl => (hw l fun j hj => hl j (List.mem_cons_of_mem _ hj)).trans (wipe_set (hl i List.mem_cons_self))⟩
theorem unp_len : ∀ {is : List Nat} {vs : List Val} {ρ ρ' : Rho}, unp is vs ρ = some ρ' → vs.length = is.length
  | [], [], _, _, _ => rfl
  | i :: is, v :: vs, ρ, ρ', h => by simp [unp_len (is := is) (vs := vs) h]
  | [], _ :: _, _, _, h => by cases h
  | _ :: _, [], _, _, h => by cases h
theorem pmg_tup {ts : List Expr} {is : List Nat} {k : Nat} {n : Nat} (hc : X.calm = true) (h : PMGs X ts is) (hl : is.length = n := by rfl)
    (hn : (assignEach ts X.env).length = n := by rfl) (hst : (assignEach ts X.env).findIdx? (·.1) = none := by rfl) : PMG X (.Tuple ts k pos) is (tgT is) :=
  PG.imp (pg_tup hc h hn hst) fun x σ H Q ⟨w, ρ, b, v, ρ', EN, r, h1, h2⟩ => by
    cases v with
    | tup vs =>
      obtain ⟨a, us, rfl, hq, rq⟩ := vr_tup r
      exact ⟨a, us, rfl, hq, by rw [rq.length, unp_len (is := is) h1]; exact hl, w, ρ, b, vs, ρ', EN, rq, h1, h2⟩
    | _ => cases h1
/-! ### stores -/
theorem pms_sto {o i : Expr} {pos' : Pos} (hv : PM X E e mv) (ho : PM X E o mo) (hi : PM X E i mi) (hs : swapsWithSole [.Subscript o i pos'] e pos.line X.env = pure false := by rfl) (hw : swappedStores [.Subscript o i pos'] e X.env = pure none := by rfl)
    (h1 : (assignEach [.Subscript o i pos'] X.env).map (·.2) = [assign (.Subscript o i pos') X.env] := by rfl)
    (ha : ∀ v, assign (.Subscript o i pos') X.env v = (do
      let ov ← holding [v] (eval o X.env)
      let iv ← holding [v, ov] (eval i X.env)
      standAt pos'
      holding [v, ov, iv] (setItem ov iv v)
      release [v, ov, iv] []) := by intro _; rfl) : PMS X E (.Assign [.Subscript o i pos'] e pos) (sSto stoM mo mi mv) :=
  PS.imp (ps_asg hv (pg_sub ho hi set_list ha) hs hw h1) fun D σ H ⟨w, ρ, μ, S, EN, hp⟩ => ⟨w, ρ, μ, S, EN, PostS.bind hp fun v μ1 w1 H1 uv S1 rv g1 h1 => ⟨w1, ρ, μ1, S1, EN.grow g1, PostS.bind h1 fun o μ2 w2 H2 uo S2 ro g2 h2 => ⟨w2, ρ, μ2, S2, (EN.grow g1).grow g2, PostS.bind h2 fun i μ3 w3 H3 ui S3 ri g3 h3 => by
    have rv := VR.grow g3 (VR.grow g2 rv)
    have ro := VR.grow g3 ro
    have EN3 := ((EN.grow g1).grow g2).grow g3
    unfold stoM at h3
    split at h3
    · cases ri
      cases ro
      split at h3
      · rename_i vs hn
        split at h3
        · rename_i j hj
          obtain ⟨us, q1, q2⟩ := S3.ok _ _ hn
          obtain ⟨S4, g4⟩ := S3.setL hn (q2.set j rv)
          exact ⟨_, us, _, j, rfl, rfl, q1, by rw [q2.length]; exact hj, h3 w3 _ σ S4 (EN3.grow g4) g4⟩
        · exact h3.elim
      · exact h3.elim
    · exact h3.elim⟩⟩⟩
end
section
variable {K : PySem.W.Frag} {ad : Nat → Addr} {b : Nat} {H : Hp}
theorem kAny {k : Key} : ∀ {kvs : List (Key × Val)} {us : List (Key × V)}, us.map (·.1) = kvs.map (·.1) → (us.any fun p => decide (p.1 = k)) = kvs.any fun p => decide (p.1 = k)
  | [], [], _ => rfl
  | p :: kvs, q :: us, h => by
    simp only [List.map_cons, List.cons.injEq] at h
    rw [List.any_cons, List.any_cons, kAny h.2, h.1]
  | [], _ :: _, h => by simp at h
  | _ :: _, [], h => by simp at h
theorem kPut_rel {k : Key} {v : Val} {u : V} (rv : VR K ad b H v u) {kvs : List (Key × Val)} {us : List (Key × V)} (h : us.map (·.1) = kvs.map (·.1)) (r : VRs K ad b H (kvs.map (·.2)) (us.map (·.2))) :
    (putK us k u).map (·.1) = (kPut kvs k v).map (·.1) ∧ VRs K ad b H ((kPut kvs k v).map (·.2)) ((putK us k u).map (·.2)) := by
  unfold putK kPut
  rw [kAny h]
  by_cases c : (kvs.any fun p => decide (p.1 = k)) = true
  · rw [if_pos c, if_pos c]
    clear c
    induction kvs generalizing us with
    | nil =>
      cases us with
      | nil => exact ⟨rfl, .nil⟩
      | cons _ _ => simp at h
    | cons p kvs ih =>
      cases us with
      | nil => simp at h
      | cons q us =>
        simp only [List.map_cons, List.cons.injEq] at h
        cases r with
        | cons r1 r2 =>
          obtain ⟨i1, i2⟩ := ih h.2 r2
          simp only [List.map_cons]
          by_cases c : p.1 = k
          · rw [if_pos c, if_pos (h.1.trans c)]
            exact ⟨by rw [i1, h.1], .cons rv i2⟩
          · rw [if_neg c, if_neg (fun z => c (h.1.symm.trans z))]
            exact ⟨by rw [i1, h.1], .cons r1 i2⟩
  · rw [if_neg c, if_neg c]
    refine ⟨by rw [List.map_append, List.map_append, h]; rfl, ?_⟩
    rw [List.map_append, List.map_append]
    exact r.app (VRs.one rv)
theorem kDrop_rel {k : Key} : ∀ {kvs : List (Key × Val)} {us : List (Key × V)}, us.map (·.1) = kvs.map (·.1) → VRs K ad b H (kvs.map (·.2)) (us.map (·.2)) →
    (dropK us k).map (·.1) = (kDrop kvs k).map (·.1) ∧ VRs K ad b H ((kDrop kvs k).map (·.2)) ((dropK us k).map (·.2))
  | [], [], _, _ => ⟨rfl, .nil⟩
  | p :: kvs, q :: us, h, r => by
    simp only [List.map_cons, List.cons.injEq] at h
    cases r with
    | cons r1 r2 =>
      obtain ⟨i1, i2⟩ := kDrop_rel (k := k) h.2 r2
      unfold dropK kDrop at i1 i2 ⊢
      by_cases c : p.1 = k
      · have c' : q.1 = k := h.1.trans c
        rw [List.filter_cons_of_neg (fun z => (of_decide_eq_true z) c'), List.filter_cons_of_neg (fun z => (of_decide_eq_true z) c)]
        exact ⟨i1, i2⟩
      · have c' : ¬ q.1 = k := fun z => c (h.1.symm.trans z)
        rw [List.filter_cons_of_pos (p := fun kv : Key × V => decide (kv.1 ≠ k)) (decide_eq_true c'), List.filter_cons_of_pos (p := fun kv : Key × Val => decide (kv.1 ≠ k)) (decide_eq_true c)]
        exact ⟨by rw [List.map_cons, List.map_cons, i1, h.1], .cons r1 i2⟩
  | [], _ :: _, h, _ => by simp at h
  | _ :: _, [], h, _ => by simp at h
end
section
variable {X : Cx} {E : XK} {e c o : Expr} {es : List Expr} {st : Stmt} {sts a b : List Stmt} {m mo mi mv : ME} {ms mt : MS} {mc : MT} {mr : MA} {pos : Pos}
theorem kv_len' {K : PySem.W.Frag} {ad : Nat → Addr} {b : Nat} {H : Hp} {kvs : List (Key × Val)} {us : List (Key × V)} (h : us.map (·.1) = kvs.map (·.1)) : us.length = kvs.length := by
  have := congrArg List.length h
  simpa using this
theorem pms_dsto {o i : Expr} {pos' : Pos} (hu : X.A.units + 1 < cLine) (hv : PM X E e mv) (ho : PM X E o mo) (hi : PM X E i mi) (hs : swapsWith e (some (.Subscript o i pos')) pos.line X.env = pure false := by rfl) : PMS X E (.Assign [.Subscript o i pos'] e pos) (sSto dstoM mo mi mv) :=
  PS.imp (ps_dput hu ho hi hv hs) fun D σ H ⟨w, ρ, μ, S, EN, hp⟩ => ⟨w, ρ, μ, S, EN, PostS.bind hp fun v μ1 w1 H1 uv S1 rv g1 h1 => ⟨w1, ρ, μ1, S1, EN.grow g1, PostS.bind h1 fun o μ2 w2 H2 uo S2 ro g2 h2 => ⟨w2, ρ, μ2, S2, (EN.grow g1).grow g2, PostS.bind h2 fun i μ3 w3 H3 ui S3 ri g3 h3 => by
    have rv := VR.grow g3 (VR.grow g2 rv)
    have ro := VR.grow g3 ro
    have EN3 := ((EN.grow g1).grow g2).grow g3
    unfold dstoM at h3
    split at h3
    · cases ro
      split at h3
      · rename_i kvs k hn hk
        split at h3
        · rename_i hz
          obtain ⟨us, q1, q2, q3⟩ := S3.ok _ _ hn
          rw [keyOf_kV hk ri]
          obtain ⟨p1, p2⟩ := kPut_rel (k := k) rv q2 q3
          obtain ⟨S4, g4⟩ := S3.setD hn p1 p2
          exact ⟨_, _, rfl, DPut.k q1 (by rw [kv_len' (K := X.K) (ad := w3.ad) (b := 0) (H := H3) q2]; exact lim6 hz), h3 w3 _ σ S4 (EN3.grow g4) g4⟩
        · exact h3.elim
      · exact h3.elim
    · exact h3.elim⟩⟩⟩
end
end Wn
/-! the law's level: loops, defs -/
namespace Wn
open PySem PySem.Spec PyProof.Rows L2 LamX He

/-! ### what is walked -/
inductive Wk where
  | seq (v : Val) | rng (lo : Int) (n : Nat) | enm (n : Nat) | zip (n m : Nat) | key (n : Nat)
def keyV : Key → Val
  | .inl i => .int i
  | .inr x => .str x
def rngM (lo : Int) (n : Nat) : List Val := (List.range n).map fun (k : Nat) => .int (lo + (k : Int))
def enmM (vs : List Val) : List Val := vs.zipIdx.map fun p => .tup [.int (p.2 : Nat), p.1]
def zipM (vs ws : List Val) : List Val := (vs.zip ws).map fun p => .tup [p.1, p.2]
def Wk.items : Wk → Mu → Option (List Val)
  | .seq (.tup vs), _ => some vs
  | .seq (.loc n), μ => seqOf μ n
  | .seq _, _ => none
  | .rng lo n, _ => some (rngM lo n)
  | .enm n, μ => (seqOf μ n).map enmM
  | .zip n m, μ => match seqOf μ n, seqOf μ m with
    | some vs, some ws => some (zipM vs ws)
    | _, _ => none
  | .key n, μ => match μ.ob n with
    | some (.rod kvs) => some (kvs.map fun p => keyV p.1)
    | _ => none
abbrev MI := Rho → Mu → R Wk
def relI (K : PySem.W.Frag) : Rel Wk It := fun w b H k J => ∀ w' μ' H', Grow K w b H w' μ'.nx H' → Sim K w' μ' H' → ∀ vs, k.items μ' = some vs → ∀ i : Nat, (vs[i]? = none → J.stop i H') ∧
  ∀ v, vs[i]? = some v → J.go i H' ∧ ∀ x H2, J.yld i H' x H2 → ∃ w2, Sim K w2 μ' H2 ∧ VR K w2.ad μ'.nx H2 v x ∧ Grow K w' μ'.nx H' w2 μ'.nx H2
def PMI (X : Cx) (E : XK) (tg iter : Expr) (m : MI) : Prop := PI X tg iter (tM X.K (relI X.K) E m)
theorem PI.imp {X : Cx} {tg iter : Expr} {t t0 : TI} (h : PI X tg iter t) (i : ∀ σ H R, t0 σ H R → t σ H R) : PI X tg iter t0 := ⟨fun pins s σ H R I hw => h.run pins s σ H R I (i σ H R hw)⟩
def iSeq (m : ME) : MI := fun ρ μ => (m ρ μ).bind fun v μ => match (Wk.seq v).items μ with
  | some _ => .ok (.seq v) μ
  | none => .no
def iRng1 (m : MA) : MI := fun ρ μ => (m ρ μ).bind fun vs μ => match vs with
  | [.int j] => if j ≤ 1000000 ∧ -1000000 ≤ j then .ok (.rng 0 j.toNat) μ else .no
  | _ => .no
def iRng2 (m : MA) : MI := fun ρ μ => (m ρ μ).bind fun vs μ => match vs with
  | [.int i, .int j] => if (j ≤ 1000000 ∧ -1000000 ≤ j) ∧ i ≤ 1000000 ∧ -1000000 ≤ i then .ok (.rng i (j - i).toNat) μ else .no
  | _ => .no
def iEnm (m : MA) : MI := fun ρ μ => (m ρ μ).bind fun vs μ => match vs with
  | [.loc n] => match seqOf μ n with
    | some _ => .ok (.enm n) μ
    | none => .no
  | _ => .no
theorem rngM_get (lo : Int) (n i : Nat) : (rngM lo n)[i]? = if i < n then some (.int (lo + i)) else none := by
  unfold rngM
  rw [List.getElem?_map]
  by_cases c : i < n
  · rw [if_pos c, List.getElem?_range c]
    rfl
  · rw [if_neg c, List.getElem?_eq_none (by rw [List.length_range]; omega)]
    rfl
theorem enmM_get (vs : List Val) (i : Nat) : (enmM vs)[i]? = (vs[i]?).map fun v => .tup [.int (i : Nat), v] := by
  unfold enmM
  rw [List.getElem?_map, List.getElem?_zipIdx]
  cases vs[i]? with
  | none => rfl
  | some v => simp
section
variable {X : Cx} {E : XK} {e tg iter a : Expr} {m n : ME} {pos p : Pos}
theorem relI_seq {K : PySem.W.Frag} {w : Wt} {b : Nat} {H : Hp} {k : Nat} (hk : k < b) : relI K w b H (.seq (.loc k)) (Itl K (w.ad k)) := by
  intro w' μ' H' g S vs hv i
  obtain ⟨us, q1, q2⟩ := seqOf_sq S (show seqOf μ' k = some vs from hv)
  rw [g.ad k hk] at q1
  refine ⟨fun h => ⟨us, q1, ?_⟩, fun v h => ?_⟩
  · rw [q2.length]
    exact List.getElem?_eq_none_iff.mp h
  · obtain ⟨u, e1, e2⟩ := q2.get i v h
    refine ⟨⟨us, u, q1, e1⟩, fun x H2 y => ?_⟩
    obtain ⟨rfl, y⟩ := y
    have := y us q1
    rw [e1] at this
    cases this
    exact ⟨w', S, e2, .refl⟩
theorem relI_tup {K : PySem.W.Frag} {w : Wt} {b : Nat} {H : Hp} {p : Addr} {vs0 : List Val} {us : List V} (hq : SqT K H p us) (r : VRs K w.ad b H vs0 us) : relI K w b H (.seq (.tup vs0)) (Itt K p) := by
  intro w' μ' H' g S vs hv i
  have hv : some vs0 = some vs := hv
  cases hv
  have q1 := g.tp _ _ hq
  have q2 := r.grow g
  refine ⟨fun h => ⟨us, q1, ?_⟩, fun v h => ?_⟩
  · rw [q2.length]
    exact List.getElem?_eq_none_iff.mp h
  · obtain ⟨u, e1, e2⟩ := q2.get i v h
    refine ⟨⟨us, u, q1, e1⟩, fun x H2 y => ?_⟩
    obtain ⟨rfl, y⟩ := y
    have := y us q1
    rw [e1] at this
    cases this
    exact ⟨w', S, e2, .refl⟩
theorem relI_rng {K : PySem.W.Frag} {w : Wt} {b : Nat} {H : Hp} {lo : Int} {n : Nat} : relI K w b H (.rng lo n) (Itr lo n) := by
  intro w' μ' H' g S vs hv i
  have hv : some (rngM lo n) = some vs := hv
  cases hv
  rw [rngM_get]
  refine ⟨fun h => ?_, fun v h => ?_⟩
  · split at h
    · cases h
    · rename_i c
      exact Nat.le_of_not_lt c
  · split at h
    · rename_i c
      cases h
      refine ⟨c, fun x H2 y => ?_⟩
      obtain ⟨rfl, rfl⟩ := y
      exact ⟨w', S, .int _, .refl⟩
    · cases h
theorem relI_enm {K : PySem.W.Frag} {w : Wt} {b : Nat} {H : Hp} {k : Nat} (hk : k < b) : relI K w b H (.enm k) (Ite K (w.ad k)) := by
  intro w' μ' H' g S vs hv i
  obtain ⟨vs0, h0, h1⟩ := Option.map_eq_some_iff.mp (show (seqOf μ' k).map enmM = some vs from hv)
  subst h1
  obtain ⟨us, q1, q2⟩ := seqOf_sq S h0
  rw [g.ad k hk] at q1
  rw [enmM_get]
  refine ⟨fun h => ⟨us, q1, ?_⟩, fun v h => ?_⟩
  · rw [q2.length]
    exact List.getElem?_eq_none_iff.mp (Option.map_eq_none_iff.mp h)
  · obtain ⟨v0, h2, h3⟩ := Option.map_eq_some_iff.mp h
    subst h3
    obtain ⟨u, e1, e2⟩ := q2.get i v0 h2
    refine ⟨⟨us, u, q1, e1⟩, fun x H2 y => ?_⟩
    obtain ⟨T, x', rfl, hT, rfl, hx⟩ := y
    have := hx us q1
    rw [e1] at this
    cases this
    obtain ⟨S4, g4, v4⟩ := S.newT hT (VRs.cons (.int (i : Nat)) (VRs.one e2))
    exact ⟨w', S4, v4, g4⟩
theorem pi_seq {l : Expr} {tl : TE} (hl : PE X l tl) : PI X tg l (fun σ H R => tl σ H fun x H1 => (∃ a, x = .ref a ∧ (∃ xs, SqL X.K H1 a xs) ∧ R (Itl X.K a) H1) ∨ ∃ a, x = .ref a ∧ (∃ xs, SqT X.K H1 a xs) ∧ R (Itt X.K a) H1) := by
  refine ⟨fun pins s σ H R I h => ?_⟩
  refine thn (hl.run pins s σ H _ I h) fun v s1 ⟨x, H1, I1, r1, q1⟩ => ?_
  rcases q1 with ⟨a, e, ⟨xs, hq⟩, q⟩ | ⟨a, e, ⟨xs, hq⟩, q⟩
  · subst e
    cases r1
    obtain ⟨its, rv, p, hz⟩ := I1.list hq
    refine wpAny_pyIter_list p.isList ?_
    refine ⟨s1.heap.objs.size, [s1.heap.objs.size], _, _, H1, rfl, I1.kept (t' := s1.toks) fun b o e => Heap.get?_push_of_some _ e, turn_list a _, ⟨_, Heap.get?_push_size _ rfl, rfl, rfl⟩, fun b hb => ?_, q⟩
    have e : b = s1.heap.objs.size := by simpa using hb
    subst e
    exact I1.fpOk (Nat.le_refl _) (I1.hok.fresh (Nat.le_refl _))
  · subst e
    cases r1
    obtain ⟨its, rv, p, hz⟩ := I1.tuple hq
    refine wpAny_pyIter_tuple (show s1.heap.IsTuple a its.toArray from p) ?_
    refine ⟨s1.heap.objs.size, [s1.heap.objs.size], _, _, H1, rfl, I1.kept (t' := s1.toks) fun b o e => Heap.get?_push_of_some _ e, turn_tuple a _, ⟨_, Heap.get?_push_size _ rfl, rfl, rfl⟩, fun b hb => ?_, q⟩
    have e : b = s1.heap.objs.size := by simpa using hb
    subst e
    exact I1.fpOk (Nat.le_refl _) (I1.hok.fresh (Nat.le_refl _))
theorem pmi_seq (h : PM X E e m) : PMI X E tg e (iSeq m) :=
  PI.imp (pi_seq h) fun σ H R ⟨w, ρ, μ, S, EN, hp⟩ => ⟨w, ρ, μ, S, EN, Post.bind hp fun x μ1 w1 H1 u1 S1 r1 g1 h1 => by
    split at h1
    · rename_i vs hv
      cases x with
      | loc k =>
        cases r1 with
        | loc hk =>
          obtain ⟨us, q1, q2⟩ := seqOf_sq S1 (show seqOf μ1 k = some vs from hv)
          exact .inl ⟨_, rfl, ⟨us, q1⟩, h1 w1 H1 _ S1 (relI_seq hk) .refl⟩
      | tup vs0 =>
        obtain ⟨a, us, rfl, hq, rq⟩ := vr_tup r1
        exact .inr ⟨_, rfl, ⟨us, hq⟩, h1 w1 H1 _ S1 (relI_tup hq rq) .refl⟩
      | non => cases hv
      | bl _ => cases hv
      | int _ => cases hv
      | str _ => cases hv
    · exact h1.elim⟩
theorem pmi_rng1 {mr : MA} (hg : Gl X "range") (hm : X.mg "range" = none) (h : PMA X E [a] mr) (hs : starEach [a] X.env = [(false, eval a X.env)] := by rfl) : PMI X E tg (.Call (.Name "range" p) [a] [] pos) (iRng1 mr) :=
  PI.imp (pi_range1 hg hm h hs) fun σ H R ⟨w, ρ, μ, S, EN, hp⟩ => ⟨w, ρ, μ, S, EN, Post.bind hp fun x μ1 w1 H1 u1 S1 r1 g1 h1 => by
    split at h1
    · cases r1 with
      | cons r1 r2 =>
        cases r2; cases r1
        split at h1
        · rename_i hz
          exact ⟨_, rfl, by omega, by omega, h1 w1 H1 _ S1 relI_rng .refl⟩
        · exact h1.elim
    · exact h1.elim⟩
theorem pmi_enm {mr : MA} {elts : List Expr} {kk : Nat} {tpos : Pos} (hg : Gl X "enumerate") (hm : X.mg "enumerate" = none) (h : PMA X E [e] mr) (hs : starEach [e] X.env = [(false, eval e X.env)] := by rfl) : PMI X E (.Tuple elts kk tpos) (.Call (.Name "enumerate" p) [e] [] pos) (iEnm mr) :=
  PI.imp (pi_enum hg hm h hs) fun σ H R ⟨w, ρ, μ, S, EN, hp⟩ => ⟨w, ρ, μ, S, EN, Post.bind hp fun x μ1 w1 H1 u1 S1 r1 g1 h1 => by
    split at h1
    · rename_i k
      cases r1 with
      | cons r1 r2 =>
        cases r2
        cases r1 with
        | loc hk =>
          split at h1
          · rename_i vs hv
            obtain ⟨us, q1, q2⟩ := seqOf_sq S1 hv
            exact ⟨_, us, rfl, q1, h1 w1 H1 _ S1 (relI_enm hk) .refl⟩
          · exact h1.elim
    · exact h1.elim⟩
end
/-! ### for -/
def forM' (get : Mu → Option (List Val)) (g : Val → Rho → Option Rho) (body : MS) : Nat → Nat → Rho → Mu → R Fl
  | 0, _, _, _ => .no
  | f + 1, i, ρ, μ => match get μ with
    | none => .no
    | some vs => match vs[i]? with
      | none => .ok (.nx ρ) μ
      | some v => match g v ρ with
        | none => .no
        | some ρ1 => match body ρ1 μ with
          | .ok (.nx ρ2) μ2 => forM' get g body f (i + 1) ρ2 μ2
          | .ok (.ct ρ2) μ2 => forM' get g body f (i + 1) ρ2 μ2
          | .ok (.bk ρ2) μ2 => .ok (.nx ρ2) μ2
          | r => r
def sFor (it : MI) (g : Val → Rho → Option Rho) (body : MS) : MS := fun ρ μ => (it ρ μ).bind fun k μ => match k.items μ with
  | none => .no
  | some vs => forM' k.items g body (vs.length + 1) 0 ρ μ
section
variable {X : Cx} {E : XK} {e tg iter c : Expr} {body : List Stmt} {mi : MI} {is : List Nat} {g : Val → Rho → Option Rho} {mb : MS} {mc : MT} {pos : Pos}
theorem pms_for (hp : PassesOwn (model X.prog X.w) X.A X.env X.xe) (hc : X.calm = true) (hi : PMI X E tg iter mi) (hg : PMG X tg is g) (hb : PMSs X E body mb)
    (hs : ∀ x, foldedSetIterable iter X.env x = pure x := by intro _; rfl) : PMS X E (.For tg iter body [] pos) (sFor mi g mb) :=
  PS.imp (ps_for hp hc hi hg hb hs) fun D σ H ⟨w, ρ, μ, S, EN, hp⟩ => ⟨w, ρ, μ, S, EN, PostS.bind hp fun k μ1 w1 H1 J S1 r1 g1 h1 => by
    split at h1
    · exact h1.elim
    · rename_i vs0 hv0
      refine ⟨fun i f σ' H' => ∃ w' ρ' μ', Sim X.K w' μ' H' ∧ EnvR X.K w' μ'.nx H' ρ' σ' ∧ Grow X.K w1 μ1.nx H1 w' μ'.nx H' ∧ PostS X.K E w' μ'.nx H' D (forM' k.items g mb f i ρ' μ'), ⟨_, w1, ρ, μ1, S1, EN.grow g1, .refl, h1⟩, ?_⟩
      rintro i f σ' H' ⟨w', ρ', μ', S', EN', g', h'⟩
      cases f with
      | zero => exact h'.elim
      | succ f =>
        rw [forM'] at h'
        split at h'
        · exact h'.elim
        · rename_i vs hv
          obtain ⟨q1, q2⟩ := r1 w' μ' H' g' S' vs hv i
          split at h'
          · rename_i hn
            exact .inl ⟨q1 hn, h' w' H' σ' S' EN' .refl⟩
          · rename_i v hn
            obtain ⟨go, yl⟩ := q2 v hn
            refine .inr ⟨go, fun σ2 H2 => ∃ w2 ρ2 μ2, Sim X.K w2 μ2 H2 ∧ EnvR X.K w2 μ2.nx H2 ρ2 σ2 ∧ Grow X.K w1 μ1.nx H1 w2 μ2.nx H2 ∧ PostS X.K E w2 μ2.nx H2 D (forM' k.items g mb f (i + 1) ρ2 μ2), fun σ2 H2 q => ⟨f, Nat.lt_succ_self _, q⟩, fun x H2 y => ?_⟩
            obtain ⟨w2, S2, v2, g2⟩ := yl x H2 y
            split at h'
            · exact h'.elim
            · rename_i ρ1 hg1
              refine ⟨w2, ρ', μ'.nx, v, ρ1, EN'.grow g2, v2, hg1, fun σ3 EN3 _ => ⟨w2, ρ1, μ', S2, EN3, ?_⟩⟩
              have h' := PostS.grow (b1 := μ'.nx) (H1 := H2) (w1 := w2) h' g2
              cases hb2 : mb ρ1 μ' with
              | no => rw [hb2] at h'; exact h'
              | er c fs μ3 => rw [hb2] at h'; exact h'
              | ok a μ3 =>
                cases a with
                | nx ρ3 =>
                  rw [hb2] at h'
                  exact fun w4 H4 σ4 S4 EN4 g4 => ⟨w4, ρ3, μ3, S4, EN4, (g'.trans g2).trans g4, PostS.grow h' g4⟩
                | ct ρ3 =>
                  rw [hb2] at h'
                  exact fun w4 H4 σ4 S4 EN4 g4 => ⟨w4, ρ3, μ3, S4, EN4, (g'.trans g2).trans g4, PostS.grow h' g4⟩
                | bk ρ3 =>
                  rw [hb2] at h'
                  exact h'
                | rt v3 =>
                  rw [hb2] at h'
                  exact h'⟩
end
/-! ### for x in d: the dict is locked meanwhile -/
theorem keyV_rel {K : PySem.W.Frag} {ad : Nat → Addr} {b : Nat} {H : Hp} (k : Key) : VR K ad b H (keyV k) (kV k) := by
  cases k with
  | inl i => exact .int i
  | inr x => exact .str x
theorem relI_key {K : PySem.W.Frag} {w : Wt} {b : Nat} {H : Hp} {n : Nat} {o : Obj} {us : List (Key × V)} (hk : n < b) (hd : H (w.ad n) = some (.frz o (.dK us))) : relI K w b H (.key n) (Itk (w.ad n) o us) := by
  intro w' μ' H' g S vs hv i
  have hd' := g.fz _ _ _ hd
  have hv : (match μ'.ob n with | some (.rod kvs) => some (kvs.map fun p => keyV p.1) | _ => none) = some vs := hv
  split at hv
  · rename_i kvs e
    cases hv
    obtain ⟨_, o', us', q1, q2, q3⟩ := S.ok _ _ e
    rw [g.ad n hk, hd'] at q1
    cases q1
    have hl : us.length = kvs.length := by
      have := congrArg List.length q2
      simpa using this
    refine ⟨fun h => ⟨hd', ?_⟩, fun v h => ?_⟩
    · have := List.getElem?_eq_none_iff.mp h
      rw [List.length_map] at this
      omega
    · rw [List.getElem?_map] at h
      obtain ⟨p, h1, h2⟩ := Option.map_eq_some_iff.mp h
      have hi : i < kvs.length := (List.getElem?_eq_some_iff.mp h1).1
      refine ⟨⟨hd', by omega⟩, fun x H2 y => ?_⟩
      obtain ⟨rfl, k, v', e1, rfl⟩ := y
      have e3 : (us.map (·.1))[i]? = (kvs.map (·.1))[i]? := by rw [q2]
      rw [List.getElem?_map, List.getElem?_map, e1, h1] at e3
      have e3 : k = p.1 := Option.some.inj e3
      subst h2 e3
      exact ⟨w', S, keyV_rel _, .refl⟩
  · cases hv
def iKey (i : Nat) : MI := fun ρ μ => match ρ[i]? with
  | some (some (.loc n)) => match μ.ob n with
    | some (.rod _) => .ok (.key n) μ
    | _ => .no
  | _ => .no
theorem pmi_key {X : Cx} {E : XK} {e tg : Expr} {i : Nat} (h : PE X e (tVar i)) : PMI X E tg e (iKey i) :=
  PI.imp (pi_keys h) fun σ H R ⟨w, ρ, μ, S, EN, hp⟩ => by
    unfold iKey at hp
    split at hp
    · rename_i n hv
      split at hp
      · rename_i kvs e
        obtain ⟨u, h1, h2⟩ := EN.2 _ _ hv
        cases h2 with
        | loc hn =>
          obtain ⟨_, o, us, q1, q2, q3⟩ := S.ok _ _ e
          exact ⟨_, h1, _, o, rfl, .inl ⟨us, q1, hp w H _ S (relI_key hn q1) .refl⟩⟩
      · exact hp.elim
    · exact hp.elim
def unlk (n : Nat) : R Fl → R Fl
  | .ok a μ => match μ.ob n with
    | some (.rod kvs) => .ok a (μ.put n (.dct kvs))
    | _ => .no
  | _ => .no
def sLk (i : Nat) (m : MS) : MS := fun ρ μ => match ρ[i]? with
  | some (some (.loc n)) => match μ.ob n with
    | some (.dct kvs) => unlk n (m ρ (μ.put n (.rod kvs)))
    | _ => m ρ μ
  | _ => m ρ μ
theorem pms_lk {X : Cx} {E : XK} {st : Stmt} {m : MS} {i : Nat} (h : PMS X E st m) : PMS X E st (sLk i m) := by
  refine ⟨fun pins s σ H D I ht => ?_⟩
  obtain ⟨w, ρ, μ, S, EN, hp⟩ := ht
  unfold sLk at hp
  split at hp
  · rename_i n hv
    split at hp
    · rename_i kvs e
      obtain ⟨us, q1, q2, q3⟩ := S.ok _ _ e
      have hnx := S.lt e
      refine (ps_lock h).run pins s σ H D I ⟨w.ad n, .dK us, q1, trivial, fun od => ?_⟩
      obtain ⟨w1, S1, g1, e1⟩ := S.lock (o := od) e q1 q2 q3
      refine ⟨w1, ρ, μ.put n (.rod kvs), S1, EN.grow g1, ?_⟩
      have fin : ∀ {a : Fl} {μ' : Mu} {w' : Wt} {H' : Hp} {kvs' : List (Key × Val)}, μ'.ob n = some (.rod kvs') → Sim X.K w' μ' H' → Grow X.K w1 μ.nx (upd H (w.ad n) (.frz od (.dK us))) w' μ'.nx H' →
          H' (w.ad n) = some (.frz od (.dK us)) ∧ Sim X.K w' (μ'.put n (.dct kvs')) (upd H' (w.ad n) (.dK us)) ∧ Grow X.K w μ.nx H w' μ'.nx (upd H' (w.ad n) (.dK us)) ∧ Grow0 X.K w' μ'.nx H' w' μ'.nx (upd H' (w.ad n) (.dK us)) := fun {a μ' w' H' kvs'} e' S' g' => by
        have hf := g'.fz _ _ _ upd_same
        have ea : w'.ad n = w.ad n := by rw [g'.ad n hnx, e1]
        have S2 := S'.unlk (o := od) (us := us) e' (by rw [ea]; exact hf)
        rw [ea] at S2
        have g2 : Grow X.K w μ.nx (upd H (w.ad n) (.frz od (.dK us))) w' μ'.nx H' := ⟨⟨g'.le, fun m hm => by rw [g'.ad m hm, e1], g'.tp⟩, g'.fz⟩
        refine ⟨hf, S2, g2.unlk q1, ⟨Nat.le_refl _, fun _ _ => rfl, fun a xs h => ?_⟩⟩
        rcases h with (h | ⟨o, h⟩) | h
        · exact .inl (.inl (by rw [upd_ne (fun z => by rw [z, hf] at h; cases h)]; exact h))
        · exact .inl (.inr ⟨o, by rw [upd_ne (fun z => by rw [z, hf] at h; cases h)]; exact h⟩)
        · exact .inr h
      show PostS X.K E w1 μ.nx (upd H (w.ad n) (.frz od (.dK us))) _ (m ρ (μ.put n (.rod kvs)))
      cases hm : m ρ (μ.put n (.rod kvs)) with
      | no => rw [hm] at hp; exact hp
      | er c fs μ' => rw [hm] at hp; exact hp.elim
      | ok a μ' =>
        rw [hm] at hp
        have hp : PostS X.K E w μ.nx H D (match μ'.ob n with | some (.rod kvs) => .ok a (μ'.put n (.dct kvs)) | _ => .no) := hp
        · split at hp
          · rename_i kvs' e'
            cases a with
            | nx ρ' =>
              intro w' H' σ' S' EN' g'
              obtain ⟨z1, z2, z3, z4⟩ := fin (a := .nx ρ') e' S' g'
              exact ⟨z1, hp w' _ σ' z2 ⟨EN'.1, fun i x hx => (EN'.2 i x hx).imp fun u hu => ⟨hu.1, hu.2.grow0 z4⟩⟩ z3⟩
            | bk ρ' =>
              intro w' H' σ' S' EN' g'
              obtain ⟨z1, z2, z3, z4⟩ := fin (a := .nx ρ') e' S' g'
              exact ⟨z1, hp w' _ σ' z2 ⟨EN'.1, fun i x hx => (EN'.2 i x hx).imp fun u hu => ⟨hu.1, hu.2.grow0 z4⟩⟩ z3⟩
            | ct ρ' =>
              intro w' H' σ' S' EN' g'
              obtain ⟨z1, z2, z3, z4⟩ := fin (a := .nx ρ') e' S' g'
              exact ⟨z1, hp w' _ σ' z2 ⟨EN'.1, fun i x hx => (EN'.2 i x hx).imp fun u hu => ⟨hu.1, hu.2.grow0 z4⟩⟩ z3⟩
            | rt v =>
              intro w' H' u S' r' g'
              obtain ⟨z1, z2, z3, z4⟩ := fin (a := .rt v) e' S' g'
              exact ⟨z1, hp w' _ u z2 (r'.grow0 z4) z3⟩
          · exact hp.elim
    · exact h.run pins s σ H D I ⟨w, ρ, μ, S, EN, hp⟩
  · exact h.run pins s σ H D I ⟨w, ρ, μ, S, EN, hp⟩
end Wn
/-! the law's level: comprehensions, defs -/
namespace Wn
open PySem PySem.Spec PyProof.Rows L2 LamX He

def E0' : XK := fun _ _ _ => False
def R.cut {α : Type} : R α → R α
  | .er _ _ _ => .no
  | r => r
@[simp] theorem R.cut_ok {α : Type} (a : α) (μ : Mu) : (R.ok a μ).cut = .ok a μ := rfl
@[simp] theorem R.cut_no {α : Type} : (R.no : R α).cut = .no := rfl
def wipeV (ρ : Rho) : List Nat → Rho
  | [] => ρ
  | v :: vs => (wipeV ρ vs).set v none
theorem EnvR.wipe {K : PySem.W.Frag} {w : Wt} {b : Nat} {H : Hp} {ρ : Rho} {σ : L2.St} (h : EnvR K w b H ρ σ) : ∀ vs : List Nat, EnvR K w b H (wipeV ρ vs) (L2.wipe σ vs)
  | [] => h
  | v :: vs => by
    have ih := h.wipe vs
    unfold wipeV L2.wipe
    refine ⟨by rw [List.length_set, List.length_set]; exact ih.1, fun i x e => ?_⟩
    by_cases c : v = i
    · subst c
      rw [List.getElem?_set, if_pos rfl] at e
      split at e
      · cases e
      · cases e
    · rw [List.getElem?_set_ne c] at e ⊢
      exact ih.2 i x e
theorem wipe_wipe (σ : L2.St) (vs : List Nat) : L2.wipe (L2.wipe σ vs) vs = L2.wipe σ vs := by
  apply List.ext_getElem?
  intro j
  by_cases c : j ∈ vs
  · rw [wipe_in c, wipe_in c]
    cases σ[j]? <;> rfl
  · rw [wipe_out c]
def mYes : MT := fun _ μ => .ok true μ
def lcM (get : Mu → Option (List Val)) (g : Val → Rho → Option Rho) (c : MT) (elt : ME) (D : Nat) (ρ : Rho) : Nat → Nat → Mu → R Unit
  | 0, _, _ => .no
  | f + 1, i, μ => match get μ with
    | none => .no
    | some vs => match vs[i]? with
      | none => .ok () μ
      | some v => match g v ρ with
        | none => .no
        | some ρ1 => (c ρ1 μ).cut.bind fun k μ => if k = true then (elt ρ1 μ).cut.bind fun y μ => match μ.ob D with
              | some (.lst acc) => if acc.length ≤ 1000000 then lcM get g c elt D ρ f (i + 1) (μ.put D (.lst (acc ++ [y]))) else .no
              | _ => .no
            else lcM get g c elt D ρ f (i + 1) μ
def mLc (it : MI) (own : List Nat) (g : Val → Rho → Option Rho) (c : MT) (elt : ME) : ME := fun ρ μ => (it ρ μ).bind fun k μ => match k.items μ with
  | none => .no
  | some vs => (lcM k.items g c elt μ.nx (wipeV ρ own) (vs.length + 1) 0 (μ.new (.lst []))).bind fun _ μ' => .ok (.loc μ.nx) μ'
theorem Post.cut {K : PySem.W.Frag} {α β γ δ : Type} {rel : Rel α β} {rel' : Rel γ δ} {E : XK} {w : Wt} {b : Nat} {H : Hp} {Q : δ → Hp → Prop} {Q1 : β → Hp → Prop} {r : R α} {k : α → Mu → R γ} (h : Post K rel' E w b H Q (r.cut.bind k))
    (f : ∀ a μ1 w1 H1 u1, Sim K w1 μ1 H1 → rel w1 μ1.nx H1 a u1 → Grow K w b H w1 μ1.nx H1 → Post K rel' E w1 μ1.nx H1 Q (k a μ1) → Q1 u1 H1) : Post K rel E0' w b H Q1 r := by
  cases r with
  | ok a μ1 => exact fun w1 H1 u1 S r g => f a μ1 w1 H1 u1 S r g (Post.grow h g)
  | er c fs μ => exact h.elim
  | no => exact h.elim
def PMTs (X : Cx) (ifs : List Expr) (m : MT) : Prop := PTs X ifs (tM X.K relT E0' m)
theorem PTs.imp {X : Cx} {e : List Expr} {t t0 : TT} (h : PTs X e t) (i : ∀ σ H Q, t0 σ H Q → t σ H Q) : PTs X e t0 := ⟨fun pins s σ H Q I hw => h.run pins s σ H Q I (i σ H Q hw)⟩
section
variable {X : Cx} {E : XK}
theorem pmts_one {c : Expr} {m : MT} (h : PMT X E0' c m) : PMTs X [c] m := pts_one h
theorem lc_sim {K : PySem.W.Frag} {σ : L2.St} {is own : List Nat} {g : Val → Rho → Option Rho} {mc : MT} {me : ME} {k : Wk} {J : It} {w1 : Wt} {μ1 : Mu} {H1 : Hp} {ρ : Rho} {Q : VK} {vs0 : List Val} (S1 : Sim K w1 μ1 H1) (EN1 : EnvR K w1 μ1.nx H1 ρ σ) (r1 : relI K w1 μ1.nx H1 k J) (hsub : ∀ i ∈ is, i ∈ own)
    (h1 : Post K (relE K) E w1 μ1.nx H1 Q ((lcM k.items g mc me μ1.nx (wipeV ρ own) (vs0.length + 1) 0 (μ1.new (.lst []))).bind fun _ μ' => .ok (.loc μ1.nx) μ')) (D : Addr) (hD : H1 D = none) :
    ∃ W : Nat → Nat → Hp → Prop, (∃ m, W 0 m (upd H1 D (.lst []))) ∧ ∀ i m H, W i m H →
      (J.stop i H ∧ Q (.ref D) H) ∨ (J.go i H ∧ ∃ Nx : Hp → Prop, (∀ H', Nx H' → ∃ m', m' < m ∧ W (i + 1) m' H') ∧ ∀ x H', J.yld i H x H' → tG K is g x (L2.wipe σ own) H' fun σ2 H2 => L2.wipe σ2 own = L2.wipe σ own ∧ tM K relT E0' mc σ2 H2 fun b H3 =>
        if b = true then tM K (relE K) E0' me σ2 H3 fun y H4 => ∃ acc, H4 D = some (.lst acc) ∧ acc.length < sizeLine ∧ Nx (upd H4 D (.lst (acc ++ [y]))) else Nx H3) := by
  obtain ⟨w2, S2, g2, e2⟩ := S1.newL hD (vs := []) (us := []) .nil
  have hnx : μ1.nx < μ1.nx + 1 := Nat.lt_succ_self _
  refine ⟨fun i f H' => ∃ w' μ', Sim K w' μ' H' ∧ Grow K w2 (μ1.nx + 1) (upd H1 D (.lst [])) w' μ'.nx H' ∧ Post K (relE K) E w' μ'.nx H' Q ((lcM k.items g mc me μ1.nx (wipeV ρ own) f i μ').bind fun _ μ' => .ok (.loc μ1.nx) μ'), ⟨_, w2, μ1.new (.lst []), S2, .refl, Post.grow h1 g2⟩, ?_⟩
  rintro i f H' ⟨w', μ', S', g', h'⟩
  have eD : w'.ad μ1.nx = D := (g'.ad _ hnx).trans e2
  have gg := g2.trans g'
  cases f with
  | zero => exact h'.elim
  | succ f =>
    rw [lcM] at h'
    split at h'
    · exact h'.elim
    · rename_i vs hv
      obtain ⟨q1, q2⟩ := r1 w' μ' H' gg S' vs hv i
      split at h'
      · rename_i hn
        refine .inl ⟨q1 hn, h' w' H' _ S' ?_ .refl⟩
        have := VR.loc (K := K) (ad := w'.ad) (H := H') (Nat.lt_of_lt_of_le hnx g'.le)
        rw [eD] at this
        exact this
      · rename_i v hn
        obtain ⟨go, yl⟩ := q2 v hn
        refine .inr ⟨go, fun H2 => ∃ w2' μ2, Sim K w2' μ2 H2 ∧ Grow K w2 (μ1.nx + 1) (upd H1 D (.lst [])) w2' μ2.nx H2 ∧ Post K (relE K) E w2' μ2.nx H2 Q ((lcM k.items g mc me μ1.nx (wipeV ρ own) f (i + 1) μ2).bind fun _ μ' => .ok (.loc μ1.nx) μ'), fun H2 q => ⟨f, Nat.lt_succ_self _, q⟩, fun x H2 y => ?_⟩
        obtain ⟨w3, S3, v3, g3⟩ := yl x H2 y
        split at h'
        · exact h'.elim
        · rename_i ρ1 hg1
          refine ⟨w3, wipeV ρ own, μ'.nx, v, ρ1, ((EN1.grow gg).grow g3).wipe own, v3, hg1, fun σ3 EN3 hw => ⟨?_, w3, ρ1, μ', S3, EN3, ?_⟩⟩
          · have z := hw own hsub
            rw [z]
            exact wipe_wipe σ own
          · have h4 := Post.grow (b1 := μ'.nx) (H1 := H2) (w1 := w3) h' g3
            have h4 : Post K (relE K) E w3 μ'.nx H2 Q ((mc ρ1 μ').cut.bind fun a μ => ((if a = true then (me ρ1 μ).cut.bind fun y μ => match μ.ob μ1.nx with
                | some (.lst acc) => if acc.length ≤ 1000000 then lcM k.items g mc me μ1.nx (wipeV ρ own) f (i + 1) (μ.put μ1.nx (.lst (acc ++ [y]))) else .no
                | _ => .no
              else lcM k.items g mc me μ1.nx (wipeV ρ own) f (i + 1) μ).bind fun _ μ' => .ok (.loc μ1.nx) μ')) := by
              cases hmc : (mc ρ1 μ').cut with
              | ok a μ => rw [hmc] at h4; exact h4
              | er c fs μ => rw [hmc] at h4; exact h4
              | no => rw [hmc] at h4; exact h4
            refine Post.cut h4 fun c μ4 w4 H4 u4 S4 r4 g4 h5 => ?_
            cases r4
            cases c with
            | false => exact iteF ⟨w4, μ4, S4, (g'.trans g3).trans g4, h5⟩
            | true =>
              refine iteT ⟨w4, ρ1, μ4, S4, EN3.grow g4, ?_⟩
              rw [if_pos rfl] at h5
              have h5 : Post K (relE K) E w4 μ4.nx H4 Q ((me ρ1 μ4).cut.bind fun y μ => ((match μ.ob μ1.nx with
                | some (.lst acc) => if acc.length ≤ 1000000 then lcM k.items g mc me μ1.nx (wipeV ρ own) f (i + 1) (μ.put μ1.nx (.lst (acc ++ [y]))) else .no
                | _ => .no).bind fun _ μ' => .ok (.loc μ1.nx) μ')) := by
                cases hmc : (me ρ1 μ4).cut with
                | ok a μ => rw [hmc] at h5; exact h5
                | er c fs μ => rw [hmc] at h5; exact h5
                | no => rw [hmc] at h5; exact h5
              refine Post.cut h5 fun y μ5 w5 H5 u5 S5 r5 g5 h6 => ?_
              split at h6
              · rename_i acc hacc
                split at h6
                · rename_i hz
                  obtain ⟨us, q3, q4⟩ := S5.ok _ _ hacc
                  have g5' := ((g'.trans g3).trans g4).trans g5
                  have eD5 : w5.ad μ1.nx = D := (g5'.ad _ hnx).trans e2
                  obtain ⟨S6, g6⟩ := S5.setL hacc (q4.app (VRs.one r5))
                  rw [eD5] at q3 S6 g6
                  exact ⟨us, q3, by rw [q4.length]; exact lim6 hz, w5, _, S6, g5'.trans g6, Post.grow h6 g6⟩
                · exact h6.elim
              · exact h6.elim
theorem pms_setLc {i : Nat} {y : Str} {py : Pos} {elt tg iter : Expr} {ifs : List Expr} {scope : Scope} {own : List (Str × Nat)} {pos spos : Pos} {mi : MI} {is : List Nat} {g : Val → Rho → Option Rho} {mc : MT} {me : ME} (hc : X.calm = true) (hN : X.N.Nodup) (hy : X.N[i]? = some y) (hyl : X.env.scope.names.lookup y = some .local)
    (hsw : swapsWith (.ListComp elt [⟨tg, iter, ifs, 0⟩] scope pos) (some (.Name y py)) spos.line X.env = pure true) (hi : PMI X E tg iter mi) (ok : BlkOk X.N X.env.scope scope own)
    (hg : ∀ (s : Shared) (H : Hp) (C : Addr) (cl : List (Str × Addr)) (fp : List Addr), PMG (X.blk s H scope (compEnvC scope cl C X.env) fp) tg is g) (ht : ∀ (s : Shared) (H : Hp) (C : Addr) (cl : List (Str × Addr)) (fp : List Addr), PMTs (X.blk s H scope (compEnvC scope cl C X.env) fp) ifs mc)
    (he : ∀ (s : Shared) (H : Hp) (C : Addr) (cl : List (Str × Addr)) (fp : List Addr), PM (X.blk s H scope (compEnvC scope cl C X.env) fp) E0' elt me) (hsub : ∀ i ∈ is, i ∈ own.map (·.2) := by decide) (hs : ∀ x, foldedSetIterable iter X.env x = pure x := by intro _; rfl) :
    PMS X E (.Assign [.Name y py] (.ListComp elt [⟨tg, iter, ifs, 0⟩] scope pos) spos) (sSet i (mLc mi (own.map (·.2)) g mc me)) :=
  PS.imp (ps_setLc (g := tG X.K is g) (tt := tM X.K relT E0' mc) (te := tM X.K (relE X.K) E0' me) hc hN hy hyl hsw hi ok hg ht he hs) fun D σ H ⟨w, ρ, μ, S, EN, hp⟩ => by
    have hp2 : Post X.K (relE X.K) E w μ.nx H (fun u H1 => D.nx (σ.set i (some u)) H1) (mLc mi (own.map (·.2)) g mc me ρ μ) := PostS.bind hp fun x μ1 w1 H1 u1 S1 r1 g1 h1 => h1 w1 H1 _ S1 ((EN.grow g1).set i r1) .refl
    exact ⟨w, ρ, μ, S, EN, Post.bind hp2 fun k μ1 w1 H1 J S1 r1 g1 h1 => by
      split at h1
      · exact h1.elim
      · exact fun D hD => lc_sim S1 (EN.grow g1) r1 hsub h1 D hD⟩
/-- list(range(..)) -/
def mListR1 (m : MA) : ME := fun ρ μ => (m ρ μ).bind fun vs μ => match vs with
  | [.int j] => if j ≤ 1000000 ∧ -1000000 ≤ j then .ok (.loc μ.nx) (μ.new (.lst (rngM 0 j.toNat))) else .no
  | _ => .no
theorem VRs.rng {K : PySem.W.Frag} {ad : Nat → Addr} {b : Nat} {H : Hp} (lo : Int) (n : Nat) : VRs K ad b H (rngM lo n) (rngV lo n) := by
  unfold rngM rngV
  induction (List.range n) with
  | nil => exact .nil
  | cons a l ih => exact .cons (.int _) ih
end
/-! ### defs -/
def startV (N : Nat) (vs : List Val) : Rho := vs.map some ++ List.replicate (N - vs.length) none
def runM (n N : Nat) (m : MS) (args : List Val) (μ : Mu) : R Val := if args.length = n then match m (startV N args) μ with
    | .ok (.nx _) μ' => .ok .non μ'
    | .ok (.rt v) μ' => .ok v μ'
    | .ok _ _ => .no
    | .er c fs μ' => .er c fs μ'
    | .no => .no
  else .no
def spM (K : PySem.W.Frag) (n : Nat) (d : List Val → Mu → R Val) : Sp := fun vs H Q E => vs.length = n ∧ ∃ w μ args, Sim K w μ H ∧ VRs K w.ad μ.nx H args vs ∧ Post K (relE K) E0' w μ.nx H Q (d args μ)
theorem EnvR.start {K : PySem.W.Frag} {w : Wt} {b : Nat} {H : Hp} {N : List Str} {vs : List V} {args : List Val} (r : VRs K w.ad b H args vs) : EnvR K w b H (startV N.length args) (L2.start N vs) := by
  have hl := r.length
  unfold startV L2.start
  refine ⟨by simp [hl], fun i v e => ?_⟩
  by_cases c : i < args.length
  · rw [List.getElem?_append_left (by simpa using c), List.getElem?_map] at e
    obtain ⟨v', h1, h2⟩ := Option.map_eq_some_iff.mp e
    cases h2
    obtain ⟨u, h3, h4⟩ := r.get i v h1
    refine ⟨u, ?_, h4⟩
    rw [List.getElem?_append_left (by rw [List.length_map]; omega), List.getElem?_map, h3]
    rfl
  · rw [List.getElem?_append_right (by simpa using c), List.getElem?_replicate] at e
    split at e
    · cases e
    · cases e
section
variable {P : Program} {w : World} {K : PySem.W.Frag} {mg : Str → Option Value} {base : Heap} {x qual : Str} {params : Arguments} {body : List Stmt} {scope : Scope} {dvs : List V} {kws : List (Str × V)} {f : Addr} {fd : FuncData}
/-- a def of the law -/
theorem okM {N ps : List Str} {k n N' : Nat} {m : MS} (F : FunD K x qual params body scope dvs kws f fd) (Sc : FnScope N ps scope) (hn : n = ps.length) (hN : N' = N.length)
    (hbody : ∀ (cdv : Value) (A : Around) (outer : List Env) (s : Shared) (H : Hp), A.guards = some [] → Room k (A.deeper (envOfC qual scope s.heap.objs.size f cdv)) → PMSs (cxOf CX0 P w K mg base N qual scope f cdv A outer s H E0').nox E0' body m) :
    FnG P w K mg base CX0 (k + 1) f fd ps (spM K n (runM n N' m)) := by
  subst hn hN
  refine okG F Sc (fun vs H Q E h => h.1) (fun cdv A outer s H vs Q E hg hr h => ?_)
  obtain ⟨hl, w', μ, args, S, r, hp⟩ := h
  refine ⟨_, PSs.nox (hbody cdv A outer s H hg hr), w', startV N.length args, μ, S, EnvR.start r, ?_⟩
  unfold runM at hp
  rw [if_pos (by rw [← r.length]; exact hl)] at hp
  show PostS K E0' w' μ.nx H _ (m (startV N.length args) μ)
  cases hm : m (startV N.length args) μ with
  | no => rw [hm] at hp; exact hp
  | er c fs μ1 => rw [hm] at hp; exact hp
  | ok a μ1 =>
    rw [hm] at hp
    cases a with
    | nx ρ => exact fun w1 H1 σ1 S1 EN1 g1 => hp w1 H1 _ S1 .non g1
    | rt v => exact fun w1 H1 u S1 r1 g1 => hp w1 H1 u S1 r1 g1
    | bk ρ => exact hp.elim
    | ct ρ => exact hp.elim
end
section
variable {X : Cx} {E : XK} {k n : Nat} {f : Addr} {fd : FuncData} {ps : List Str} {d : List Val → Mu → R Val} {x : Str} {p pos : Pos} {e : Expr} {es : List Expr} {mr : MA}
/-- a def of the law that is called, with as many arguments as it has -/
def mCall (n : Nat) (d : List Val → Mu → R Val) (m : MA) : ME := fun ρ μ => (m ρ μ).bind fun xs μ => if xs.length = n then (d xs μ).cut else .no
theorem pm_call (F : FnG X.prog X.w X.K X.mg X.base CX0 k f fd ps (spM X.K n d)) (hgd : X.A.guards = some []) (hr : Room k X.A) (hg : Gl X x) (hm : X.mg x = some (.ref f)) (hk : PySem.W.keepIn X.K (.ref f) = true) (hb : Binds X.K fd ps [])
    (ha : PMA X E (e :: es) mr) (hdb : (x == ("__debug__" : Str)) = false := by decide) (he : starEach (e :: es) X.env = (false, eval e X.env) :: starEach es X.env := by rfl) (hpl : (backTo pos (starEach es X.env)).any (·.1) = false := by rfl) :
    PM X E (.Call (.Name x p) (e :: es) [] pos) (mCall n d mr) :=
  PE.imp (pe_callG F hgd hr hg hm hk hb .nil (E := E0') (pass0) ha hdb he hpl) fun σ H Q ⟨w, ρ, μ, S, EN, hp⟩ => ⟨w, ρ, μ, S, EN, Post.bind hp fun xs μ1 w1 H1 us S1 r1 g1 h1 => by
    split at h1
    · rename_i hl
      rw [List.append_nil]
      refine ⟨r1.length.trans hl, w1, μ1, xs, S1, r1, ?_⟩
      cases hd : d xs μ1 with
      | no => rw [hd] at h1; exact h1
      | er c fs μ2 => rw [hd] at h1; exact h1.elim
      | ok a μ2 => rw [hd] at h1; exact h1
    · exact h1.elim⟩
end
end Wn
/-! the law's level: methods of systems -/
namespace Wn
open PySem PySem.Spec PyProof.Rows L2 LamX He

/-! ### o.m(e, .., k = v, ..) -/
def tMethN (C : Addr) (m : Str) (n l : Nat) (sp : Sp) (gV : List V → List V → List V) (E : XK) (ta : TE) (t tk : TA) : TE := fun σ H Q => ta σ H fun x H1 => ∃ a dx fs, x = .ref a ∧ H1 a = some (.ins C dx fs) ∧ fs.lookup m = none ∧ t σ H1 fun vs H2 => tk σ H2 fun zs H3 => (V.ref a :: vs).length = n ∧ zs.length = l ∧ sp (gV (.ref a :: vs) zs) H3 Q E
section
variable {X : Cx} {CX : CXT} {k n : Nat} {f C : Addr} {fd : FuncData} {ps ks : List Str} {sp : Sp} {E : XK} {x m : Str} {p pos apos : Pos} {o e : Expr} {es : List Expr} {kws : List Keyword} {ta : TE} {t tk : TA} {g : List Value → List Value → List Value} {gV : List V → List V → List V}
theorem pe_methN {pl : Sem Bool} (he : PE X o ta) (c : Cls X.K C) (hm : Meth X.K C m f) (F : FnOk X.prog X.w X.K X.mg X.base CX k f fd ps sp) (hr : Room k X.A) (hb : KBn X.K fd ps n ks g gV) (hx : Passes CX X E) (ha : PA X (e :: es) t) (hkw : PK X kws tk)
    (hall : (backToKw pos (keywordEach kws X.env)).all (·.1.isSome) = true := by rfl) (hks : (backToKw pos (keywordEach kws X.env)).filterMap (·.1) = ks := by rfl)
    (hst : starEach (e :: es) X.env = (false, eval e X.env) :: starEach es X.env := by rfl)
    (hpl : ((backTo pos (starEach (e :: es) X.env)).any (·.1) || (backToKw pos (keywordEach kws X.env)).any (·.1.isNone)) = false := by rfl)
    (ht : eval (.Call (.Attribute o m apos) (e :: es) kws pos) X.env = (do
      let ov ← eval o X.env
      standAt apos.atName
      let (f, first) ← holding [ov] (getMethod ov m pl)
      callWith pos f first (backTo pos (starEach (e :: es) X.env)) (backToKw pos (keywordEach kws X.env))) := by rfl) :
    PE X (.Call (.Attribute o m apos) (e :: es) kws pos) (tMethN C m n ks.length sp gV E ta t tk) := by
  refine ⟨fun pins s σ H Q I h => ?_⟩
  refine PySem.W.methodCall_KW (pl := pl) (thn (he.run pins s σ H _ I h) fun u s1 ⟨x, H1, I1, rx, a, dx, fs, ex, ea, l, q⟩ => ?_) ht
  subst ex
  obtain rfl : u = Value.ref a := rx
  refine getmeth_ok I1 ea c hm l ?_
  refine PySem.W.callWith_KW (first := [.ref a]) (h₀ := X.base) I.ok.mod.kin hm.kp hall (thn (ha.run pos pins s1 σ H1 _ I1 q) fun us s2 ⟨vs, H2, I2, r, q2⟩ => ?_) hpl hst
  refine thn (hkw.run pos pins s2 σ H2 _ I2 q2) fun ws s3 ⟨zs, H3, I3, rz, l1, l2, q3⟩ => ⟨I3.kIn, ?_⟩
  rw [hks]
  exact run_fnN (us := .ref a :: us) (vs := .ref a :: vs) F hr hb hx I3 (.cons rfl r) rz l1 l2 q3
end
/-! ### methods of systems -/
def sysOf (x : Val) (μ : Mu) : Option (Nat × Sv) := match x with
  | .loc n => match μ.ob n with
    | some (.sys v) => some (n, v)
    | _ => none
  | _ => none
theorem sysOf_eq {x : Val} {μ : Mu} {n : Nat} {v : Sv} (h : sysOf x μ = some (n, v)) : x = .loc n ∧ μ.ob n = some (.sys v) := by
  unfold sysOf at h
  split at h
  · split at h
    · rename_i e
      cases h
      exact ⟨rfl, e⟩
    · cases h
  · cases h
abbrev MSy := Nat → Sv → List Val → Mu → R Val
def onSys (f : MSy) (x : Val) (xs : List Val) (μ : Mu) : R Val := match sysOf x μ with
  | some p => f p.1 p.2 xs μ
  | none => .no
def mMeth (f : MSy) (ds : List Val) (o : ME) (a : MA) : ME := fun ρ μ => (o ρ μ).bind fun x μ => match sysOf x μ with
  | none => .no
  | some _ => (a ρ μ).bind fun xs μ => onSys f x (xs ++ ds) μ
def mMethK (f : MSy) (n l : Nat) (g : List Val → List Val → List Val) (o : ME) (a b : MA) : ME := fun ρ μ => (o ρ μ).bind fun x μ => match sysOf x μ with
  | none => .no
  | some _ => (a ρ μ).bind fun xs μ => (b ρ μ).bind fun zs μ => if xs.length = n ∧ zs.length = l then onSys f x (g xs zs) μ else .no
def PrimS (K : PySem.W.Frag) (sp : Sp) (f : MSy) : Prop := ∀ (E : XK) (w : Wt) (μ : Mu) (H : Hp) (n : Nat) (v : Sv) (xs : List Val) (us : List V) (Q : VK), Sim K w μ H → μ.ob n = some (.sys v) → VRs K w.ad μ.nx H xs us → Post K (relE K) E w μ.nx H Q (f n v xs μ) → sp (.ref (w.ad n) :: us) H Q E
def PMK (X : Cx) (E : XK) (kws : List Keyword) (m : MA) : Prop := PK X kws (tM X.K (relA X.K) E m)
theorem PK.imp {X : Cx} {e : List Keyword} {t t0 : TA} (h : PK X e t) (i : ∀ σ H Q, t0 σ H Q → t σ H Q) : PK X e t0 := ⟨fun pos pins s σ H Q I hw => h.run pos pins s σ H Q I (i σ H Q hw)⟩
section
variable {X : Cx} {E : XK} {k n : Nat} {f : Addr} {fd : FuncData} {ps ks : List Str} {sp : Sp} {m : Str} {p pos apos kpos : Pos} {o e : Expr} {es : List Expr} {kws : List Keyword} {mo me : ME} {mr mk : MA} {fm : MSy} {dvs : List V} {ds : List Value} {dM : List Val}
theorem pmk_nil : PMK X E [] mNil := PK.imp pk_nil fun σ H Q ⟨w, ρ, μ, S, EN, hp⟩ => hp w H [] S .nil .refl
theorem pmk_cons {nm} (ha : PM X E e me) (hr : PMK X E kws mr) : PMK X E (⟨nm, e, kpos⟩ :: kws) (mCons me mr) :=
  PK.imp (pk_cons ha hr) fun σ H Q ⟨w, ρ, μ, S, EN, hp⟩ => ⟨w, ρ, μ, S, EN, Post.bind hp fun x μ1 w1 H1 u1 S1 r1 g1 h1 => ⟨w1, ρ, μ1, S1, EN.grow g1, Post.bind h1 fun xs μ2 w2 H2 u2 S2 r2 g2 h2 => h2 w2 H2 _ S2 (.cons (VR.grow g2 r1) r2) .refl⟩⟩
theorem sys_ob {K : PySem.W.Frag} {w : Wt} {μ : Mu} {H : Hp} {n : Nat} {v : Sv} (S : Sim K w μ H) (h : μ.ob n = some (.sys v)) : ∃ P N T G k, H (w.ad n) = some (.ins (ga K "System") (w.sy n).dx (sysF P N T G k)) := by
  obtain ⟨h1, h2, _⟩ := S.ok _ _ h
  rw [← h1]
  exact ⟨_, _, _, _, _, h2.ob⟩
theorem pm_meth {CX : CXT} {pl : Sem Bool} (he : PM X E o mo) (c : Cls X.K (ga X.K "System")) (hm : Meth X.K (ga X.K "System") m f) (F : FnOk X.prog X.w X.K X.mg X.base CX k f fd ps sp) (hr : Room k X.A) (hb : Binds X.K fd ps ds) (hd : Vals dvs ds) (hx : Passes CX X E) (hf : PrimS X.K sp fm) (hdv : ∀ ad b H, VRs X.K ad b H dM dvs) (ha : PMA X E (e :: es) mr)
    (hl : ∀ P N T G k, (sysF P N T G k).lookup m = none := by intros; rfl)
    (hst : starEach (e :: es) X.env = (false, eval e X.env) :: starEach es X.env := by rfl) (hpl : (backTo pos (starEach es X.env)).any (·.1) = false := by rfl)
    (ht : eval (.Call (.Attribute o m apos) (e :: es) [] pos) X.env = (do
      let ov ← eval o X.env
      standAt apos.atName
      let (f, first) ← holding [ov] (getMethod ov m pl)
      callWith pos f first (backTo pos (starEach (e :: es) X.env)) (backToKw pos (keywordEach [] X.env))) := by rfl) : PM X E (.Call (.Attribute o m apos) (e :: es) [] pos) (mMeth fm dM mo mr) :=
  PE.imp (pe_meth he c hm F hr hb hd hx ha hst hpl ht) fun σ H Q ⟨w, ρ, μ, S, EN, hp⟩ => ⟨w, ρ, μ, S, EN, Post.bind hp fun x μ1 w1 H1 u1 S1 r1 g1 h1 => by
    split at h1
    · exact h1.elim
    · rename_i q hq
      obtain ⟨rfl, hob⟩ := sysOf_eq (n := q.1) (v := q.2) hq
      obtain ⟨P, N, T, G, k', ob⟩ := sys_ob S1 hob
      cases r1 with
      | loc hn =>
        refine ⟨_, _, _, rfl, ob, hl .., w1, ρ, μ1, S1, EN.grow g1, Post.bind h1 fun xs μ2 w2 H2 us S2 r2 g2 h2 => ?_⟩
        unfold onSys at h2
        split at h2
        · rename_i q2 hq2
          obtain ⟨e1, hob2⟩ := sysOf_eq (n := q2.1) (v := q2.2) hq2
          have e1 : q.1 = q2.1 := Val.loc.inj e1
          rw [← g2.ad _ hn, e1]
          exact hf E w2 μ2 H2 _ _ _ _ Q S2 hob2 (r2.app (hdv _ _ _)) h2
        · exact h2.elim⟩
theorem pm_meth0 {CX : CXT} {pl : Sem Bool} (he : PM X E o mo) (c : Cls X.K (ga X.K "System")) (hm : Meth X.K (ga X.K "System") m f) (F : FnOk X.prog X.w X.K X.mg X.base CX k f fd ps sp) (hr : Room k X.A) (hb : Binds X.K fd ps []) (hx : Passes CX X E) (hf : PrimS X.K sp fm)
    (hl : ∀ P N T G k, (sysF P N T G k).lookup m = none := by intros; rfl)
    (ht : eval (.Call (.Attribute o m apos) [] [] pos) X.env = (do
      let ov ← eval o X.env
      standAt apos.atName
      let (f, first) ← holding [ov] (getMethod ov m pl)
      callWith pos f first (backTo pos (starEach [] X.env)) (backToKw pos (keywordEach [] X.env))) := by rfl) : PM X E (.Call (.Attribute o m apos) [] [] pos) (mMeth fm [] mo mNil) :=
  PE.imp (pe_meth0 he c hm F hr hb .nil hx ht) fun σ H Q ⟨w, ρ, μ, S, EN, hp⟩ => ⟨w, ρ, μ, S, EN, Post.bind hp fun x μ1 w1 H1 u1 S1 r1 g1 h1 => by
    split at h1
    · exact h1.elim
    · rename_i q hq
      obtain ⟨rfl, hob⟩ := sysOf_eq (n := q.1) (v := q.2) hq
      obtain ⟨P, N, T, G, k', ob⟩ := sys_ob S1 hob
      cases r1 with
      | loc hn =>
        refine ⟨_, _, _, rfl, ob, hl .., ?_⟩
        have h1 : Post X.K (relE X.K) E w1 μ1.nx H1 Q (onSys fm (.loc q.1) [] μ1) := h1
        unfold onSys at h1
        rw [hq] at h1
        exact hf E w1 μ1 H1 _ _ _ _ Q S1 hob .nil h1⟩
theorem pm_methN {CX : CXT} {pl : Sem Bool} {g : List Value → List Value → List Value} {gV : List V → List V → List V} {gM : List Val → List Val → List Val} (he : PM X E o mo) (c : Cls X.K (ga X.K "System")) (hm : Meth X.K (ga X.K "System") m f) (F : FnOk X.prog X.w X.K X.mg X.base CX k f fd ps sp) (hr : Room k X.A) (hb : KBn X.K fd ps (n + 1) ks g gV) (hx : Passes CX X E) (hf : PrimS X.K sp fm)
    (hg : ∀ ad b H a xs us zs ws, VRs X.K ad b H xs us → VRs X.K ad b H zs ws → ∃ us', gV (.ref a :: us) ws = .ref a :: us' ∧ VRs X.K ad b H (gM xs zs) us') (ha : PMA X E (e :: es) mr) (hkw : PMK X E kws mk)
    (hl : ∀ P N T G k, (sysF P N T G k).lookup m = none := by intros; rfl)
    (hall : (backToKw pos (keywordEach kws X.env)).all (·.1.isSome) = true := by rfl) (hks : (backToKw pos (keywordEach kws X.env)).filterMap (·.1) = ks := by rfl)
    (hst : starEach (e :: es) X.env = (false, eval e X.env) :: starEach es X.env := by rfl)
    (hpl : ((backTo pos (starEach (e :: es) X.env)).any (·.1) || (backToKw pos (keywordEach kws X.env)).any (·.1.isNone)) = false := by rfl)
    (ht : eval (.Call (.Attribute o m apos) (e :: es) kws pos) X.env = (do
      let ov ← eval o X.env
      standAt apos.atName
      let (f, first) ← holding [ov] (getMethod ov m pl)
      callWith pos f first (backTo pos (starEach (e :: es) X.env)) (backToKw pos (keywordEach kws X.env))) := by rfl) : PM X E (.Call (.Attribute o m apos) (e :: es) kws pos) (mMethK fm n ks.length gM mo mr mk) :=
  PE.imp (pe_methN he c hm F hr hb hx ha hkw hall hks hst hpl ht) fun σ H Q ⟨w, ρ, μ, S, EN, hp⟩ => ⟨w, ρ, μ, S, EN, Post.bind hp fun x μ1 w1 H1 u1 S1 r1 g1 h1 => by
    split at h1
    · exact h1.elim
    · rename_i q hq
      obtain ⟨rfl, hob⟩ := sysOf_eq (n := q.1) (v := q.2) hq
      obtain ⟨P, N, T, G, k', ob⟩ := sys_ob S1 hob
      cases r1 with
      | loc hn =>
        refine ⟨_, _, _, rfl, ob, hl .., w1, ρ, μ1, S1, EN.grow g1, Post.bind h1 fun xs μ2 w2 H2 us S2 r2 g2 h2 => ⟨w2, ρ, μ2, S2, (EN.grow g1).grow g2, Post.bind h2 fun zs μ3 w3 H3 ws S3 r3 g3 h3 => ?_⟩⟩
        have r2 := VRs.grow g3 r2
        split at h3
        · rename_i hc
          unfold onSys at h3
          split at h3
          · rename_i q2 hq2
            obtain ⟨e1, hob2⟩ := sysOf_eq (n := q2.1) (v := q2.2) hq2
            have e1 : q.1 = q2.1 := Val.loc.inj e1
            refine ⟨by rw [List.length_cons, r2.length, hc.1], by rw [VRs.length r3, hc.2], ?_⟩
            obtain ⟨us', e3, e2⟩ := hg _ _ _ (w1.ad q.1) _ _ _ _ r2 r3
            rw [e3, ← g2.ad _ hn, ← g3.ad _ (Nat.lt_of_lt_of_le hn g2.le), e1]
            exact hf E w3 μ3 H3 _ _ _ _ Q S3 hob2 e2 h3
          · exact h3.elim
        · exact h3.elim⟩
/-- a new system -/
def mMake (f : List Val → Mu → R Val) (a : MA) : ME := fun ρ μ => (a ρ μ).bind fun xs μ => f xs μ
end
/-! ### errors that are raised, new data -/
mutual
def ofD : PyData → Val
  | .none => .non
  | .bool b => .bl b
  | .int i => .int i
  | .str x => .str x
  | .tuple ds => .tup (ofDs ds)
  | .list _ => .non
  | .dict _ => .non
def ofDs : List PyData → List Val
  | [] => []
  | d :: ds => ofD d :: ofDs ds
end
mutual
def noL : PyData → Bool
  | .tuple ds => noLs ds
  | .list _ => false
  | .dict _ => false
  | _ => true
def noLs : List PyData → Bool
  | [] => true
  | d :: ds => noL d && noLs ds
end
theorem sqt_same {K : PySem.W.Frag} {H H' : Hp} (e : Same H H') {a : Addr} {xs : List V} (h : SqT K H a xs) : SqT K H' a xs := sqt_keep (fun a o h _ => e a o h) h
mutual
theorem vr_dp {K : PySem.W.Frag} {ad : Nat → Addr} {b : Nat} {H H' : Hp} (e : Same H H') : ∀ (d : PyData) (u : V), Dp K H u d → noL d = true → VR K ad b H' (ofD d) u
  | .none, _, h, _ => by cases h; rw [ofD]; exact .non
  | .bool _, _, h, _ => by cases h; rw [ofD]; exact .bl _
  | .int _, _, h, _ => by cases h; rw [ofD]; exact .int _
  | .str _, _, h, _ => by cases h; rw [ofD]; exact .str _
  | .tuple ds, _, h, n => by
    cases h with
    | tup h1 h2 =>
      rw [ofD]
      rw [noL] at n
      exact .tup (sqt_same e h1) (vrs_dp e ds _ h2 n)
  | .list _, _, _, n => by rw [noL] at n; cases n
  | .dict _, _, _, n => by rw [noL] at n; cases n
theorem vrs_dp {K : PySem.W.Frag} {ad : Nat → Addr} {b : Nat} {H H' : Hp} (e : Same H H') : ∀ (ds : List PyData) (us : List V), DpAll K H us ds → noLs ds = true → VRs K ad b H' (ofDs ds) us
  | [], _, h, _ => by cases h; rw [ofDs]; exact .nil
  | d :: ds, _, h, n => by
    cases h with
    | cons h1 h2 =>
      rw [ofDs]
      rw [noLs] at n
      have n := Bool.and_eq_true_iff.mp n
      exact .cons (vr_dp e d _ h1 n.1) (vrs_dp e ds _ h2 n.2)
end
/-- a list that stands in the heap is taken in -/
theorem Sim.takeL {K : PySem.W.Frag} {w : Wt} {μ : Mu} {H : Hp} (S : Sim K w μ H) {p : Addr} {us : List V} {vs : List Val} (hp : H p = some (.lst us)) (hn : ∀ m, p ∉ ft w m (μ.ob m)) (r : VRs K w.ad μ.nx H vs us) : ∃ w', Sim K w' (μ.new (.lst vs)) H ∧ Grow K w μ.nx H w' (μ.nx + 1) H ∧ w'.ad μ.nx = p := by
  obtain ⟨S2, g2⟩ := S.add (p := p) (s := w.sy 0) (o := .lst vs) (fun a ha m z => by
    have e : a = p := by simpa [ft, Wt.add] using ha
    subst e
    exact hn m z) (fun g => ⟨us, by rw [Wt.add_ad]; exact hp, r.grow g⟩)
  exact ⟨_, S2, g2, Wt.add_ad ..⟩
end Wn
/-! the law's level: small things -/
namespace Wn
open PySem PySem.Spec PyProof.Rows L2 LamX He
theorem _root_.L2.Room.units1 {k : Nat} {A : Around} (r : Room k A) : A.units + 65 < cLine := by have := r.un; omega
def negM : Val → Mu → R Val
  | .int i, μ => .ok (.int (-i)) μ
  | _, _ => .no
end Wn
/-! the law's level: frames -/
namespace Wn
open PySem PySem.Spec PyProof.Rows L2 LamX He
/-- all objects but those of S stand -/
structure Kee (S : List Nat) (μ μ' : Mu) : Prop where
  le : μ.nx ≤ μ'.nx
  ob : ∀ n, n < μ.nx → n ∉ S → μ'.ob n = μ.ob n
theorem Kee.refl (S : List Nat) (μ : Mu) : Kee S μ μ := ⟨Nat.le_refl _, fun _ _ _ => rfl⟩
theorem Kee.trans {S : List Nat} {μ μ1 μ2 : Mu} (a : Kee S μ μ1) (b : Kee S μ1 μ2) : Kee S μ μ2 := ⟨Nat.le_trans a.le b.le, fun n h q => (b.ob n (Nat.lt_of_lt_of_le h a.le) q).trans (a.ob n h q)⟩
theorem Kee.mono {S S' : List Nat} {μ μ' : Mu} (a : Kee S μ μ') (h : ∀ n ∈ S, n ∈ S') : Kee S' μ μ' := ⟨a.le, fun n l q => a.ob n l fun z => q (h n z)⟩
theorem Kee.put {S : List Nat} {μ : Mu} {n : Nat} {o : Ob} (h : n ∈ S) : Kee S μ (μ.put n o) := ⟨Nat.le_refl _, fun m _ q => Mu.put_ne _ _ fun z => q (z ▸ h)⟩
theorem Kee.new {S : List Nat} {μ : Mu} {o : Ob} : Kee S μ (μ.new o) := ⟨Nat.le_succ _, fun m l _ => Mu.new_ne _ _ (Nat.ne_of_lt l)⟩
theorem Kee.lt {S : List Nat} {μ μ' : Mu} (a : Kee S μ μ') {n : Nat} (h : n < μ.nx) : n < μ'.nx := Nat.lt_of_lt_of_le h a.le
theorem Mu.put_put (μ : Mu) (n : Nat) (o o' : Ob) : (μ.put n o).put n o' = μ.put n o' := by
  unfold Mu.put
  congr 1
  funext m
  by_cases c : m = n <;> simp [c]
theorem Kee.putN {S : List Nat} {μ μ1 : Mu} {n : Nat} {o : Ob} (a : Kee S μ μ1) (h : μ.nx ≤ n ∨ n ∈ S) : Kee S μ (μ1.put n o) := ⟨a.le, fun m l q => by
  rw [Mu.put_ne _ _ (fun z => by
    subst z
    rcases h with h | h
    · exact absurd l (Nat.not_lt.mpr h)
    · exact q h)]
  exact a.ob m l q⟩
theorem Kee.newN {S : List Nat} {μ μ1 : Mu} {o : Ob} (a : Kee S μ μ1) : Kee S μ (μ1.new o) := a.trans Kee.new
def Bag (μ : Mu) (b : Nat) : Prop := b < μ.nx ∧ ∃ c m, μ.ob b = some (.lst [.int c, .int m])
theorem Bag.keep {S : List Nat} {μ μ' : Mu} {b : Nat} (h : Bag μ b) (k : Kee S μ μ') (q : b ∉ S) : Bag μ' b := ⟨k.lt h.1, by rw [k.ob b h.1 q]; exact h.2⟩
/-! ### outcomes -/
def Goes (r : R Fl) (P : Rho → Mu → Prop) : Prop := match r with
  | .ok (.nx ρ) μ => P ρ μ
  | _ => False
def Gets {α : Type} (r : R α) (P : α → Mu → Prop) : Prop := match r with
  | .ok a μ => P a μ
  | _ => False
def Rets (r : R Fl) (P : Val → Mu → Prop) : Prop := match r with
  | .ok (.nx _) μ => P .non μ
  | .ok (.rt v) μ => P v μ
  | _ => False
theorem Goes_nx (ρ : Rho) (μ : Mu) (P : Rho → Mu → Prop) : Goes (.ok (.nx ρ) μ) P = P ρ μ := rfl
theorem Gets_ok {α : Type} (a : α) (μ : Mu) (P : α → Mu → Prop) : Gets (.ok a μ) P = P a μ := rfl
theorem Rets_nx (ρ : Rho) (μ : Mu) (P : Val → Mu → Prop) : Rets (.ok (.nx ρ) μ) P = P .non μ := rfl
theorem Rets_rt (v : Val) (μ : Mu) (P : Val → Mu → Prop) : Rets (.ok (.rt v) μ) P = P v μ := rfl
theorem Goes.mono {r : R Fl} {P Q : Rho → Mu → Prop} (h : Goes r P) (f : ∀ ρ μ, P ρ μ → Q ρ μ) : Goes r Q := by
  cases r with
  | ok a μ =>
    cases a with
    | nx ρ => exact f _ _ h
    | _ => exact h
  | _ => exact h
theorem Rets.mono {r : R Fl} {P Q : Val → Mu → Prop} (h : Rets r P) (f : ∀ v μ, P v μ → Q v μ) : Rets r Q := by
  cases r with
  | ok a μ =>
    cases a with
    | nx ρ => exact f _ _ h
    | rt v => exact f _ _ h
    | _ => exact h
  | _ => exact h
theorem Gets.mono {α : Type} {r : R α} {P Q : α → Mu → Prop} (h : Gets r P) (f : ∀ v μ, P v μ → Q v μ) : Gets r Q := by
  cases r with
  | ok a μ => exact f _ _ h
  | _ => exact h
theorem Goes.ex {r : R Fl} {P : Rho → Mu → Prop} (h : Goes r P) : ∃ ρ μ, r = .ok (.nx ρ) μ ∧ P ρ μ := by
  cases r with
  | ok a μ =>
    cases a with
    | nx ρ => exact ⟨ρ, μ, rfl, h⟩
    | _ => exact h.elim
  | _ => exact h.elim
theorem Gets.ex {α : Type} {r : R α} {P : α → Mu → Prop} (h : Gets r P) : ∃ a μ, r = .ok a μ ∧ P a μ := by
  cases r with
  | ok a μ => exact ⟨a, μ, rfl, h⟩
  | _ => exact h.elim
theorem Goes.then {r : R Fl} {k : Rho → Mu → R Fl} {P : Rho → Mu → Prop} (h : Goes r fun ρ μ => Goes (k ρ μ) P) : Goes (sThen r k) P := by
  obtain ⟨ρ, μ, rfl, h⟩ := h.ex
  exact h
theorem Rets.then {r : R Fl} {k : Rho → Mu → R Fl} {P : Val → Mu → Prop} (h : Goes r fun ρ μ => Rets (k ρ μ) P) : Rets (sThen r k) P := by
  obtain ⟨ρ, μ, rfl, h⟩ := h.ex
  exact h
theorem Goes.bind {α : Type} {r : R α} {k : α → Mu → R Fl} {P : Rho → Mu → Prop} (h : Gets r fun a μ => Goes (k a μ) P) : Goes (r.bind k) P := by
  obtain ⟨ρ, μ, rfl, h⟩ := h.ex
  exact h
theorem Rets.bind {α : Type} {r : R α} {k : α → Mu → R Fl} {P : Val → Mu → Prop} (h : Gets r fun a μ => Rets (k a μ) P) : Rets (r.bind k) P := by
  obtain ⟨ρ, μ, rfl, h⟩ := h.ex
  exact h
theorem Gets.bind {α β : Type} {r : R α} {k : α → Mu → R β} {P : β → Mu → Prop} (h : Gets r fun a μ => Gets (k a μ) P) : Gets (r.bind k) P := by
  obtain ⟨ρ, μ, rfl, h⟩ := h.ex
  exact h
/-- a def's run -/
theorem Gets.run {n N : Nat} {m : MS} {args : List Val} {μ : Mu} {P : Val → Mu → Prop} (hl : args.length = n) (h : Rets (m (startV N args) μ) P) : Gets (runM n N m args μ) P := by
  unfold runM
  rw [if_pos hl]
  cases e : m (startV N args) μ with
  | ok a μ1 =>
    rw [e] at h
    cases a with
    | nx ρ => exact h
    | rt v => exact h
    | bk _ => exact h.elim
    | ct _ => exact h.elim
  | er _ _ _ => rw [e] at h; exact h.elim
  | no => rw [e] at h; exact h.elim
/-! ### loops -/
section
variable {get : Mu → Option (List Val)} {g : Val → Rho → Option Rho} {body : MS} {P : Rho → Mu → Prop}
/-- a for whose body always goes on, by an invariant -/
theorem for_goes {vs : List Val} (I : Nat → Rho → Mu → Prop) (hget : ∀ i ρ μ, i ≤ vs.length → I i ρ μ → get μ = some vs)
    (hs : ∀ i v ρ μ, vs[i]? = some v → I i ρ μ → ∃ ρ1, g v ρ = some ρ1 ∧ Goes (body ρ1 μ) (I (i + 1))) (hd : ∀ ρ μ, I vs.length ρ μ → P ρ μ) :
    ∀ (f i : Nat) (ρ : Rho) (μ : Mu), i + f = vs.length + 1 → i ≤ vs.length → I i ρ μ → Goes (forM' get g body f i ρ μ) P
  | 0, i, ρ, μ, hf, hi, h => by omega
  | f + 1, i, ρ, μ, hf, hi, h => by
    have hg := hget i ρ μ (by omega) h
    by_cases c : i < vs.length
    · obtain ⟨ρ1, h1, h2⟩ := hs i vs[i] ρ μ (List.getElem?_eq_getElem c) h
      obtain ⟨ρ2, μ2, h3, h4⟩ := h2.ex
      have h5 := for_goes I hget hs hd f (i + 1) ρ2 μ2 (by omega) (by omega) h4
      rw [forM', hg]
      simp only [List.getElem?_eq_getElem c, h1, h3]
      exact h5
    · have e : i = vs.length := by omega
      subst e
      rw [forM', hg]
      simp only [List.getElem?_eq_none (Nat.le_refl _)]
      exact hd _ _ h
theorem sFor_goes {it : MI} {ρ : Rho} {μ μ1 : Mu} {k : Wk} {vs : List Val} (hi : it ρ μ = .ok k μ1) (hv : k.items μ1 = some vs) (I : Nat → Rho → Mu → Prop) (h0 : I 0 ρ μ1) (hget : ∀ i ρ μ, i ≤ vs.length → I i ρ μ → k.items μ = some vs)
    (hs : ∀ i v ρ μ, vs[i]? = some v → I i ρ μ → ∃ ρ1, g v ρ = some ρ1 ∧ Goes (body ρ1 μ) (I (i + 1))) (hd : ∀ ρ μ, I vs.length ρ μ → P ρ μ) : Goes (sFor it g body ρ μ) P := by
  unfold sFor
  rw [hi, R.bind_ok]
  simp only [hv]
  exact for_goes I hget hs hd _ 0 ρ μ1 (by omega) (Nat.zero_le _) h0
/-- over a range -/
theorem sFor_rng {it : MI} {ρ : Rho} {μ μ1 : Mu} {lo : Int} {n : Nat} (hi : it ρ μ = .ok (.rng lo n) μ1) (I : Nat → Rho → Mu → Prop) (h0 : I 0 ρ μ1)
    (hs : ∀ i ρ μ, i < n → I i ρ μ → ∃ ρ1, g (.int (lo + i)) ρ = some ρ1 ∧ Goes (body ρ1 μ) (I (i + 1))) (hd : ∀ ρ μ, I n ρ μ → P ρ μ) : Goes (sFor it g body ρ μ) P := by
  have hlen : (rngM lo n).length = n := by unfold rngM; rw [List.length_map, List.length_range]
  refine sFor_goes (vs := rngM lo n) hi rfl I h0 (fun _ _ _ _ _ => rfl) (fun i v ρ μ hv h => ?_) (fun ρ μ h => hd ρ μ (by rw [hlen] at h; exact h))
  rw [rngM_get] at hv
  split at hv
  · rename_i c
    cases hv
    exact hs i ρ μ c h
  · cases hv
end
end Wn
/-! the law's level: comprehensions, plainly -/
namespace Wn
open PySem PySem.Spec PyProof.Rows L2 LamX He
theorem Mu.new_put (μ : Mu) (o o' : Ob) : (μ.new o).put μ.nx o' = μ.new o' := by
  unfold Mu.put Mu.new
  congr 1
  funext m
  by_cases c : m = μ.nx <;> simp [c]
section
variable {k : Wk} {g : Val → Rho → Option Rho} {c : MT} {elt : ME} {ρ : Rho} {μ : Mu} {vs : List Val} {rv : Val → Rho} {p : Val → Bool} {f : Val → Val}
/-- what is told changes nothing -/
theorem lcM_pure (hz : vs.length ≤ 1000000) (hi : ∀ acc, k.items (μ.new (.lst acc)) = some vs) (hg : ∀ v ∈ vs, g v ρ = some (rv v)) (hc : ∀ v ∈ vs, ∀ acc, c (rv v) (μ.new (.lst acc)) = .ok (p v) (μ.new (.lst acc))) (he : ∀ v ∈ vs, p v = true → ∀ acc, elt (rv v) (μ.new (.lst acc)) = .ok (f v) (μ.new (.lst acc))) :
    ∀ (n i : Nat), i + n = vs.length + 1 → i ≤ vs.length → lcM k.items g c elt μ.nx ρ n i (μ.new (.lst (((vs.take i).filter p).map f))) = .ok () (μ.new (.lst ((vs.filter p).map f)))
  | 0, i, h1, h2 => by omega
  | n + 1, i, h1, h2 => by
    rw [lcM, hi]
    by_cases ci : i < vs.length
    · have hv : vs[i] ∈ vs := List.getElem_mem ci
      have et : vs.take (i + 1) = vs.take i ++ [vs[i]] := by rw [List.take_succ, List.getElem?_eq_getElem ci]; rfl
      simp only [List.getElem?_eq_getElem ci, hg _ hv, hc _ hv, R.cut_ok, R.bind_ok]
      cases hp : p vs[i] with
      | true =>
        have hl : (((vs.take i).filter p).map f).length ≤ 1000000 := by
          rw [List.length_map]
          have := List.length_filter_le p (vs.take i)
          rw [List.length_take] at this
          omega
        rw [if_pos rfl, he _ hv hp, R.cut_ok, R.bind_ok]
        simp only [Mu.new_same]
        rw [if_pos hl, Mu.new_put]
        have z := lcM_pure hz hi hg hc he n (i + 1) (by omega) (by omega)
        rw [et, List.filter_append, List.map_append, List.filter_cons_of_pos hp] at z
        exact z
      | false =>
        rw [if_neg (by decide)]
        have z := lcM_pure hz hi hg hc he n (i + 1) (by omega) (by omega)
        rw [et, List.filter_append, List.map_append, List.filter_cons_of_neg (by rw [hp]; decide), List.filter_nil, List.map_nil, List.append_nil] at z
        exact z
    · have e : i = vs.length := by omega
      subst e
      simp only [List.getElem?_eq_none (Nat.le_refl _)]
      rw [List.take_length]
theorem mLc_pure {it : MI} {own : List Nat} {ρ0 : Rho} {μ0 : Mu} (hit : it ρ0 μ0 = .ok k μ) (h0 : k.items μ = some vs) (hz : vs.length ≤ 1000000) (hi : ∀ acc, k.items (μ.new (.lst acc)) = some vs) (hg : ∀ v ∈ vs, g v (wipeV ρ0 own) = some (rv v)) (hc : ∀ v ∈ vs, ∀ acc, c (rv v) (μ.new (.lst acc)) = .ok (p v) (μ.new (.lst acc))) (he : ∀ v ∈ vs, p v = true → ∀ acc, elt (rv v) (μ.new (.lst acc)) = .ok (f v) (μ.new (.lst acc))) :
    mLc it own g c elt ρ0 μ0 = .ok (.loc μ.nx) (μ.new (.lst ((vs.filter p).map f))) := by
  unfold mLc
  rw [hit, R.bind_ok]
  simp only [h0]
  have z := lcM_pure hz hi hg hc he (vs.length + 1) 0 (by omega) (Nat.zero_le _)
  rw [List.take_zero, List.filter_nil, List.map_nil] at z
  rw [z]
  rfl
end
end Wn
/-! the law's level: the script comes in -/
namespace Wn
open PySem PySem.Spec PyProof.Rows L2 LamX He
theorem law_sp {K : PySem.W.Frag} {d : List Val → Mu → R Val} (hd : ∀ (μ : Mu) (s : Nat) (ns : List Int), ns.length ≤ 63 → seqOf μ s = some (ns.map Val.int) → s < μ.nx → Gets (d [.loc s] μ) fun v _ => v = .bl true)
    (H : Hp) (a : Addr) (ns : List Int) (hl : ns.length ≤ 63) (htb : Tabs (TbK K) H) (h : SqL K H a (ns.map V.int)) : spM K 1 d [.ref a] H (fun v _ => v = .bl true) fun _ _ _ => False := by
  have fin : ∀ (w : Wt) (μ : Mu), w.ad 0 = a → μ.nx = 1 → seqOf μ 0 = some (ns.map Val.int) → Sim K w μ H → spM K 1 d [.ref a] H (fun v _ => v = .bl true) fun _ _ _ => False := fun w μ ha hn hq S => by
    refine ⟨rfl, w, μ, [.loc 0], S, VRs.one ?_, ?_⟩
    · rw [← ha]
      exact VR.loc (by omega)
    · obtain ⟨v, μ', e, rfl⟩ := (hd μ 0 ns hl hq (by omega)).ex
      rw [e]
      intro w' H' u S' r _
      cases r
      rfl
  have hns := VRs.ints (K := K) (ad := fun _ => a) (b := 1) (H := H) ns
  have one : ∀ o : Ob, ObR K ⟨fun _ => a, fun _ => ⟨0, 0, 0, 0, 0, 0, 0, [], []⟩, fun _ => 0⟩ 1 H 0 o → Sim K ⟨fun _ => a, fun _ => ⟨0, 0, 0, 0, 0, 0, 0, [], []⟩, fun _ => 0⟩ ⟨1, fun n => if n = 0 then some o else none⟩ H := fun o ho => by
    refine ⟨fun n hn => if_neg (by have : 1 ≤ n := hn; omega), fun n p hp => ?_, fun n m hnm b hb => ?_, htb⟩
    · by_cases c : n = 0
      · subst c
        have hp : (if (0 : Nat) = 0 then some o else none) = some p := hp
        rw [if_pos rfl] at hp
        cases hp
        exact ho
      · have hp : (if n = 0 then some o else none) = some p := hp
        rw [if_neg c] at hp
        cases hp
    · by_cases c : n = 0
      · have e : (if m = 0 then some o else none : Option Ob) = none := if_neg (by omega)
        show b ∉ ft _ m (if m = 0 then some o else none)
        rw [e]
        exact List.not_mem_nil
      · have hb : b ∈ ft _ n (if n = 0 then some o else none) := hb
        rw [if_neg c] at hb
        cases hb
  rcases h with (h | h) | h
  · exact fin _ ⟨1, fun n => if n = 0 then some (.lst (ns.map Val.int)) else none⟩ rfl rfl rfl (one _ ⟨_, h, hns⟩)
  · exact fin _ ⟨1, fun n => if n = 0 then some (.ro (ns.map Val.int)) else none⟩ rfl rfl rfl (one _ ⟨_, .inl h, hns⟩)
  · exact fin _ ⟨1, fun n => if n = 0 then some (.ro (ns.map Val.int)) else none⟩ rfl rfl rfl (one _ ⟨_, .inr h, hns⟩)
end Wn
/-! the law's level: list.index -/
namespace Wn
open PySem PySem.Spec PyProof.Rows L2 LamX He
def idxM (x : Val) (xs : List Val) (μ : Mu) : R Val := match datM μ x, xs with
  | some (.list ds), [y] => match datM μ y with
    | some d => match ds.findIdx? (fun z => PyData.eqv z d) with
      | some j => .ok (.int (j : Nat)) μ
      | none => .no
    | none => .no
  | _, _ => .no
/-! ### or, and, by truth -/
def truM : Val → Mu → Option Bool
  | .non, _ => some false
  | .bl b, _ => some b
  | .int i, _ => some (i != 0)
  | .tup vs, _ => some (!vs.isEmpty)
  | .loc n, μ => match seqOf μ n with
    | some vs => some (!vs.isEmpty)
    | none => none
  | _, _ => none
theorem vrs_emp {K : PySem.W.Frag} {ad : Nat → Addr} {b : Nat} {H : Hp} {vs : List Val} {us : List V} (h : VRs K ad b H vs us) : us.isEmpty = vs.isEmpty := by
  cases h <;> rfl
theorem truM_ok {K : PySem.W.Frag} {w : Wt} {μ : Mu} {H : Hp} (S : Sim K w μ H) {x : Val} {u : V} {k : Bool} (h : truM x μ = some k) (r : VR K w.ad μ.nx H x u) : TruV K u H k := by
  cases r with
  | non => cases h; rfl
  | bl b => cases h; rfl
  | int i => cases h; rfl
  | str x => cases h
  | tup a b => cases h; exact .inr (.inl ⟨_, a, by rw [vrs_emp b]⟩)
  | @loc n hn =>
    unfold truM at h
    simp only at h
    split at h
    · rename_i vs e
      cases h
      obtain ⟨us, s1, s2⟩ := seqOf_sq S e
      exact .inl ⟨us, s1, by rw [vrs_emp s2]⟩
    · cases h
def mOrT (a b : ME) : ME := fun ρ μ => (a ρ μ).bind fun x μ => match truM x μ with
  | some true => .ok x μ
  | some false => b ρ μ
  | none => .no
def mAndT (a b : ME) : ME := fun ρ μ => (a ρ μ).bind fun x μ => match truM x μ with
  | some true => b ρ μ
  | some false => .ok x μ
  | none => .no
section
variable {X : Cx} {E : XK} {a b : Expr} {rest : List Expr} {pos : Pos} {ma mb : ME}
theorem pm_andT (ha : PM X E a ma) (hb : PM X E (.BoolOp .And (b :: rest) pos) mb) : PM X E (.BoolOp .And (a :: b :: rest) pos) (mAndT ma mb) :=
  PE.imp (pe_andT ha hb) fun σ H Q ⟨w, ρ, μ, S, EN, hp⟩ => ⟨w, ρ, μ, S, EN, Post.bind hp fun x μ1 w1 H1 u1 S1 r1 g1 h1 => by
    cases e : truM x μ1 with
    | none => rw [e] at h1; exact h1.elim
    | some c =>
      rw [e] at h1
      refine ⟨c, truM_ok S1 e r1, ?_⟩
      cases c with
      | true => exact iteT ⟨w1, ρ, μ1, S1, EN.grow g1, h1⟩
      | false => exact iteF (h1 w1 H1 _ S1 r1 .refl)⟩
end
end Wn
/-! the law's level: methods by keywords alone -/
namespace Wn
open PySem PySem.Spec PyProof.Rows L2 LamX He
section
variable {X : Cx} {E : XK} {k n : Nat} {f : Addr} {fd : FuncData} {ps ks : List Str} {sp : Sp} {m : Str} {p pos apos kpos : Pos} {o e : Expr} {es : List Expr} {kws : List Keyword} {mo me : ME} {mr mk : MA} {fm : MSy}
end
end Wn
/-! the law's level: int of truths, list(range(a, b)), dict of pairs -/
namespace Wn
open PySem PySem.Spec PyProof.Rows L2 LamX He
def intBM : List Val → Mu → R Val
  | [.int i], μ => .ok (.int i) μ
  | [.bl k], μ => .ok (.int (if k then 1 else 0)) μ
  | _, _ => .no
@[irreducible] def okR (i : Int) : Bool := decide (-1000000 ≤ i ∧ i ≤ 1000000)
def mListR2 (m : MA) : ME := fun ρ μ => (m ρ μ).bind fun vs μ => match vs with
  | [.int i, .int j] => if okR i = true ∧ okR j = true then .ok (.loc μ.nx) (μ.new (.lst (rngM i (j - i).toNat))) else .no
  | _ => .no
section
variable {K : PySem.W.Frag}
theorem putK_new {kvs : List (Key × V)} {k : Key} {v : V} (h : k ∉ kvs.map (·.1)) : putK kvs k v = kvs ++ [(k, v)] := by
  unfold putK
  rw [if_neg]
  intro z
  obtain ⟨p, hp, q⟩ := List.any_eq_true.mp z
  exact h (List.mem_map.mpr ⟨p, hp, by simpa using q⟩)
theorem mergeK_nd : ∀ (more kvs : List (Key × V)), ((kvs ++ more).map (·.1)).Nodup → mergeK kvs more = kvs ++ more
  | [], kvs, _ => (List.append_nil _).symm
  | p :: more, kvs, h => by
    show mergeK (putK kvs p.1 p.2) more = _
    have h1 : p.1 ∉ kvs.map (·.1) := fun z => by
      rw [List.map_append, List.map_cons] at h
      exact (List.nodup_append.mp h).2.2 _ z _ List.mem_cons_self rfl
    rw [putK_new h1, mergeK_nd more (kvs ++ [(p.1, p.2)]) (by rw [List.append_assoc]; exact h), List.append_assoc]
    rfl
end
section
variable {X : Cx} {E : XK}
end
end Wn
/-! the law's level: list.remove -/
namespace Wn
open PySem PySem.Spec PyProof.Rows L2 LamX He
def remLM (x : Val) (xs : List Val) (μ : Mu) : R Val := match lstOf x μ, xs with
  | some (n, vs), [.int k] => match intsOf vs with
    | some l => match l.findIdx? (fun z => decide (z = k)) with
      | some j => .ok .non (μ.put n (.lst ((l.eraseIdx j).map Val.int)))
      | none => .no
    | none => .no
  | _, _ => .no
end Wn
/-! the law's level: lambdas that are called at once, errors that are caught, repr, dicts -/
namespace Wn
open PySem PySem.Spec PyProof.Rows L2 LamX He

/-! ### a def that makes lambdas: its code object is known -/
section
variable {P : Program} {w : World} {K : PySem.W.Frag} {mg : Str → Option Value} {base : Heap} {x : Str} {params : Arguments} {body : List Stmt} {scope : Scope} {dvs : List V} {kws : List (Str × V)} {fd : FuncData}
end
/-! ### x(lambda: e), where x returns what e is, or tells the error -/
section
variable {K : PySem.W.Frag} {ad : Nat → Addr} {b : Nat} {H : Hp}
end
section
variable {X : Cx} {E : XK}
end
/-! ### repr -/
def repOk (d : PyData) : Prop := d.showable = true ∧ d.hasDict = false ∧ d.depth ≤ 100 ∧ d.shown.length ≤ sizeLine
instance (d : PyData) : Decidable (repOk d) := by unfold repOk; infer_instance
section
variable {K : PySem.W.Frag}
end
/-! ### dicts -/
def intK : List (Key × Val) → Option (List Int)
  | [] => some []
  | (.inl i, _) :: r => match intK r with
    | some l => some (i :: l)
    | none => none
  | (.inr _, _) :: _ => none
section
variable {X : Cx} {E : XK} {K : PySem.W.Frag} {pos : Pos}
/-! ### a, b = a list -/
end
end Wn
/-! the law's level: the tables of those who make lambdas -/
namespace Wn
open PySem PySem.Spec PyProof.Rows L2 LamX He
/-! ### texts compared -/
/-! ### data that repr shows -/
end Wn
/-! the law's level: methods of dicts -/
namespace Wn
open PySem PySem.Spec PyProof.Rows L2 LamX He
def dctV (x : Val) (μ : Mu) : Option (List (Key × Val)) := match x with
  | .loc n => dctOf μ n
  | _ => none
def mDm (f : Val → Val → Mu → R Val) (o k : ME) : ME := fun ρ μ => (o ρ μ).bind fun x μ => match dctV x μ with
  | some _ => (k ρ μ).bind fun y μ => f x y μ
  | none => .no
def popDM : Val → Val → Mu → R Val
  | .loc n, y, μ => match μ.ob n, keyOf y with
    | some (.dct kvs), some k => match kGet kvs k with
      | some v => .ok v (μ.put n (.dct (kDrop kvs k)))
      | none => .no
    | _, _ => .no
  | _, _, _ => .no
def getDM : Val → Val → Mu → R Val
  | .loc n, y, μ => match dctOf μ n, keyOf y with
    | some kvs, some k => .ok ((kGet kvs k).getD .non) μ
    | _, _ => .no
  | _, _, _ => .no
section
variable {X : Cx} {E : XK} {o e : Expr} {apos cpos : Pos} {mo me : ME}
theorem pm_dpop (ho : PM X E o mo) (he : PM X E e me) (m : M1 X o "pop" apos e cpos := by exact ⟨rfl, rfl, rfl, rfl⟩) : PM X E (.Call (.Attribute o "pop" apos) [e] [] cpos) (mDm popDM mo me) :=
  PE.imp (pe_dpop1 ho he m) fun σ H Q ⟨w, ρ, μ, S, EN, hp⟩ => ⟨w, ρ, μ, S, EN, Post.bind hp fun x μ1 w1 H1 u1 S1 r1 g1 h1 => by
    unfold dctV at h1
    split at h1
    · rename_i kv0 hd
      split at hd
      · rename_i n
        cases r1 with
        | loc hn =>
        obtain ⟨us0, d1, d2, d3⟩ := dctOf_rd S1 hd
        refine ⟨_, rfl, .inl ⟨_, d1⟩, w1, ρ, μ1, S1, EN.grow g1, Post.bind h1 fun y μ2 w2 H2 u2 S2 r2 g2 h2 => ?_⟩
        have ea : w2.ad n = w1.ad n := g2.ad n hn
        unfold popDM at h2
        simp only at h2
        split at h2
        · rename_i kvs k hob hk
          split at h2
          · rename_i v hv
            obtain ⟨us, q1, q2, q3⟩ := S2.ok _ _ hob
            have ek := keyOf_kV hk r2
            subst ek
            rcases kGet_rel (k := k) q2 q3 with ⟨v', u', e1, e2, e3⟩ | ⟨e1, e2⟩
            · rw [hv] at e1
              cases e1
              obtain ⟨p1, p2⟩ := kDrop_rel (k := k) q2 q3
              obtain ⟨S4, g4⟩ := S2.setD hob p1 p2
              rw [← ea]
              exact ⟨us, k, u', q1, rfl, e2, h2 w2 _ u' S4 (VR.grow g4 e3) g4⟩
            · rw [hv] at e1
              cases e1
          · exact h2.elim
        · exact h2.elim
      · cases hd
    · exact h1.elim⟩
theorem pm_dget1 (hu : X.A.units + 1 < cLine) (ho : PM X E o mo) (he : PM X E e me) (m : M1 X o "get" apos e cpos := by exact ⟨rfl, rfl, rfl, rfl⟩) : PM X E (.Call (.Attribute o "get" apos) [e] [] cpos) (mDm getDM mo me) :=
  PE.imp (pe_dget1 hu ho he m) fun σ H Q ⟨w, ρ, μ, S, EN, hp⟩ => ⟨w, ρ, μ, S, EN, Post.bind hp fun x μ1 w1 H1 u1 S1 r1 g1 h1 => by
    unfold dctV at h1
    split at h1
    · rename_i kv0 hd
      split at hd
      · rename_i n
        cases r1 with
        | loc hn =>
        obtain ⟨us0, d1, d2, d3⟩ := dctOf_rd S1 hd
        refine ⟨_, rfl, .inl ⟨_, d1⟩, w1, ρ, μ1, S1, EN.grow g1, Post.bind h1 fun y μ2 w2 H2 u2 S2 r2 g2 h2 => ?_⟩
        have ea : w2.ad n = w1.ad n := g2.ad n hn
        unfold getDM at h2
        simp only at h2
        split at h2
        · rename_i kvs k hob hk
          obtain ⟨us, q1, q2, q3⟩ := dctOf_rd S2 hob
          have ek := keyOf_kV hk r2
          subst ek
          have dg : DGet H2 (w2.ad n) (kV k) (valV us k) := .inl ⟨us, k, q1, rfl, rfl⟩
          rw [ea] at dg
          refine ⟨_, dg, ?_⟩
          rcases kGet_rel (k := k) q2 q3 with ⟨v', u', e1, e2, e3⟩ | ⟨e1, e2⟩
          · rw [e1] at h2
            rw [e2]
            exact h2 w2 H2 u' S2 e3 .refl
          · rw [e1] at h2
            rw [e2]
            exact h2 w2 H2 _ S2 .non .refl
        · exact h2.elim
      · cases hd
    · exact h1.elim⟩
end
end Wn
/-! the law's level: dict displays -/
namespace Wn
open PySem PySem.Spec PyProof.Rows L2 LamX He
def mPrs : List (ME × ME) → Rho → Mu → R (List (Val × Val))
  | [], _, μ => .ok [] μ
  | (a, b) :: r, ρ, μ => (a ρ μ).bind fun x μ => (b ρ μ).bind fun y μ => (mPrs r ρ μ).bind fun ps μ => .ok ((x, y) :: ps) μ
def kvOf : List (Val × Val) → Option (List (Key × Val))
  | [] => some []
  | (x, y) :: r => match keyOf x, kvOf r with
    | some k, some l => some ((k, y) :: l)
    | _, _ => none
def mDisp (prs : List (ME × ME)) : ME := fun ρ μ => (mPrs prs ρ (μ.new (.dct []))).bind fun ps μ1 => match kvOf ps, μ1.ob μ.nx with
  | some kvs, some (.dct []) => if (kvs.map (·.1)).Nodup ∧ kvs.length ≤ 15 then .ok (.loc μ.nx) (μ1.put μ.nx (.dct kvs)) else .no
  | _, _ => .no
def relP (K : PySem.W.Frag) : Rel (List (Val × Val)) (List (V × V)) := fun w b H ps us => VRs K w.ad b H (ps.map (·.1)) (us.map (·.1)) ∧ VRs K w.ad b H (ps.map (·.2)) (us.map (·.2))
theorem tPairs_of {K : PySem.W.Frag} {E : XK} : ∀ (prs : List (ME × ME)) (σ : L2.St) (H : Hp) (Q : List (V × V) → Hp → Prop), tM K (relP K) E (mPrs prs) σ H Q → tPairs (prs.map fun p => (tM K (relE K) E p.1, tM K (relE K) E p.2)) σ H Q
  | [], σ, H, Q, ⟨w, ρ, μ, S, EN, hp⟩ => hp w H [] S ⟨.nil, .nil⟩ .refl
  | (a, b) :: r, σ, H, Q, ⟨w, ρ, μ, S, EN, hp⟩ => ⟨w, ρ, μ, S, EN, Post.bind hp fun x μ1 w1 H1 u1 S1 r1 g1 h1 => ⟨w1, ρ, μ1, S1, EN.grow g1, Post.bind h1 fun y μ2 w2 H2 u2 S2 r2 g2 h2 =>
      tPairs_of r σ H2 _ ⟨w2, ρ, μ2, S2, (EN.grow g1).grow g2, Post.bind h2 fun ps μ3 w3 H3 us S3 r3 g3 h3 => h3 w3 H3 ((u1, u2) :: us) S3 ⟨.cons (VR.grow g3 (VR.grow g2 r1)) r3.1, .cons (VR.grow g3 r2) r3.2⟩ .refl⟩⟩⟩
theorem kvOf_rel {K : PySem.W.Frag} {ad : Nat → Addr} {b : Nat} {H : Hp} : ∀ {ps : List (Val × Val)} {us : List (V × V)} {kvs : List (Key × Val)}, kvOf ps = some kvs → VRs K ad b H (ps.map (·.1)) (us.map (·.1)) → VRs K ad b H (ps.map (·.2)) (us.map (·.2)) →
    ∃ ks : List (Key × V), us = ks.map (fun kv => (kV kv.1, kv.2)) ∧ ks.map (·.1) = kvs.map (·.1) ∧ VRs K ad b H (kvs.map (·.2)) (ks.map (·.2))
  | [], [], kvs, h, _, _ => by
    cases h
    exact ⟨[], rfl, rfl, .nil⟩
  | [], _ :: _, kvs, h, r, _ => by cases r
  | (x, y) :: ps, [], kvs, h, r, _ => by cases r
  | (x, y) :: ps, (u, v) :: us, kvs, h, r, s => by
    rw [kvOf] at h
    split at h
    · rename_i k l h1 h2
      cases h
      cases r with
      | cons r1 r2 =>
        cases s with
        | cons s1 s2 =>
          obtain ⟨ks, e1, e2, e3⟩ := kvOf_rel h2 r2 s2
          refine ⟨(k, v) :: ks, ?_, ?_, .cons s1 e3⟩
          · rw [List.map_cons, ← e1]
            show (u, v) :: us = (kV k, v) :: us
            have e : u = kV k := keyOf_kV h1 r1
            rw [e]
          · rw [List.map_cons, List.map_cons, e2]
    · cases h
section
variable {X : Cx} {E : XK} {pos : Pos}
def PMP (X : Cx) (E : XK) (pos : Pos) (keys : List (Option Expr)) (vals : List Expr) (prs : List (ME × ME)) : Prop := PPs X pos keys vals (prs.map fun p => (tM X.K (relE X.K) E p.1, tM X.K (relE X.K) E p.2))
theorem pmp_nil : PMP X E pos [] [] [] := pps_nil
theorem pmp_cons {k v : Expr} {ks : List (Option Expr)} {vs : List Expr} {a b : ME} {prs : List (ME × ME)} (hk : PM X E k a) (hv : PM X E v b) (hr : PMP X E pos ks vs prs) : PMP X E pos (some k :: ks) (v :: vs) ((a, b) :: prs) := pps_cons hk hv hr
theorem pm_disp {keys : List (Option Expr)} {vals : List Expr} {prs : List (ME × ME)} (h : PMP X E pos keys vals prs) (hall : keys.all (·.isSome) = true := by rfl) (hl : keys.length = vals.length := by rfl) (h0 : keys ≠ [] := by exact fun z => nomatch z) (h15 : keys.length ≤ 15 := by decide) : PM X E (.Dict keys vals pos) (mDisp prs) :=
  PE.imp (pe_disp h hall hl h0 h15) fun σ H Q ⟨w, ρ, μ, S, EN, hp⟩ => fun p np => by
    obtain ⟨w0, S0, g0, e0⟩ := S.newD np (kvs := []) (us := []) rfl .nil
    unfold mDisp at hp
    have hp' := Post.grow hp g0
    refine tPairs_of prs σ _ _ ⟨w0, ρ, μ.new (.dct []), S0, EN.grow g0, Post.bind hp' fun ps μ1 w1 H1 us S1 r1 g1 h1 => ?_⟩
    split at h1
    · rename_i kvs hk hob
      split at h1
      · rename_i hc
        obtain ⟨us0, q1, q2, q3⟩ := S1.ok _ _ hob
        have ea : w1.ad μ.nx = p := (g1.ad μ.nx (Nat.lt_succ_self _)).trans e0
        have e2 : us0 = [] := List.map_eq_nil_iff.mp q2
        subst e2
        obtain ⟨ks, k1, k2, k3⟩ := kvOf_rel hk r1.1 r1.2
        obtain ⟨S4, g4⟩ := S1.setD hob k2 k3
        rw [ea] at q1 S4 g4
        have hm : mergeK [] ks = ks := by
          have := mergeK_nd ks [] (by rw [List.nil_append, k2]; exact hc.1)
          rw [List.nil_append] at this
          exact this
        have hlen : ks.length = kvs.length := by
          have := congrArg List.length k2
          simpa using this
        refine ⟨q1, ks, k1, by rw [hlen]; exact hc.2, ?_⟩
        rw [hm]
        refine h1 w1 _ _ S4 ?_ g4
        rw [← ea]
        exact VR.loc (S1.lt hob)
      · exact h1.elim
    · exact h1.elim
end
end Wn
/-! the law's level: chains of comparisons, isinstance, a dict against {}, two stores at once -/
namespace Wn
open PySem PySem.Spec PyProof.Rows L2 LamX He
section
variable {X : Cx} {E : XK} {e a b c o : Expr} {m ma mb mc mo mi mv : ME} {pos : Pos}
def mChain (f g : Val → Val → Mu → R Val) (a b c : ME) : ME := fun ρ μ => (a ρ μ).bind fun x μ => (b ρ μ).bind fun y μ => (f x y μ).bind fun z μ => match z with
  | .bl true => (c ρ μ).bind fun t μ => g y t μ
  | .bl false => .ok (.bl false) μ
  | _ => .no
/-- isinstance(x, int), isinstance(x, bool) -/
def isiM (bo : Bool) (x : Val) (μ : Mu) : R Val := match x with
  | .int _ => .ok (.bl (!bo)) μ
  | .bl _ => .ok (.bl true) μ
  | .non => .ok (.bl false) μ
  | .str _ => .ok (.bl false) μ
  | .tup _ => .ok (.bl false) μ
  | .loc n => match seqOf μ n with
    | some _ => .ok (.bl false) μ
    | none => .no
def sDst2 (m o1 i1 o2 i2 : ME) : MS := fun ρ μ => (m ρ μ).bind fun v μ => match v with
  | .tup [a, b] => (o1 ρ μ).bind fun o μ => (i1 ρ μ).bind fun i μ => (dstoM o i a μ).bind fun _ μ => (o2 ρ μ).bind fun o μ => (i2 ρ μ).bind fun i μ => (dstoM o i b μ).bind fun _ μ => .ok (.nx ρ) μ
  | _ => .no
def neD0M : Val → Val → Mu → R Val
  | .loc n, .loc m, μ => match μ.ob n, μ.ob m with
    | some (.dct kvs), some (.dct []) => .ok (.bl (!kvs.isEmpty)) μ
    | _, _ => .no
  | _, _, _ => .no
end
end Wn
/-! any, all of a list of truths; what is never reached -/
namespace Wn
open PySem PySem.Spec PyProof.Rows L2 LamX He
theorem ps_no {X : Cx} {st : Stmt} : PS X st (fun _ _ _ => False) := ⟨fun _ _ _ _ _ _ h => h.elim⟩
theorem bls_plain : ∀ bs : List Bool, PyData.plainAll (bs.map PyData.bool) = true
  | [] => rfl
  | b :: bs => by
    rw [List.map_cons, PyData.plainAll, bls_plain bs]
    rfl
theorem bls_dp {K : PySem.W.Frag} {H : Hp} : ∀ bs : List Bool, DpAll K H (bs.map V.bl) (bs.map PyData.bool)
  | [] => .nil
  | b :: bs => .cons (.bl b) (bls_dp bs)
theorem bls_truthy (bs : List Bool) : (bs.map PyData.bool).any PyData.truthy = bs.any id ∧ (bs.map PyData.bool).all PyData.truthy = bs.all id := by
  induction bs with
  | nil => exact ⟨rfl, rfl⟩
  | cons b bs ih => exact ⟨by rw [List.map_cons, List.any_cons, List.any_cons, ih.1]; rfl, by rw [List.map_cons, List.all_cons, List.all_cons, ih.2]; rfl⟩
section
variable {X : Cx}
theorem cr_anyB (hc : X.calm = true) : CallR X (.builtin "any") (fun vs H Q => ∃ (a : Addr) (bs : List Bool), vs = [V.ref a] ∧ SqL X.K H a (bs.map V.bl) ∧ Q (.bl (bs.any id)) H) := by
  intro pins s σ H vs us Q I r h
  obtain ⟨a, bs, rfl, hs, q⟩ := h
  obtain ⟨its, rv, hl, _⟩ := I.list hs
  rw [Vals.ref1 r]
  obtain ⟨as, ra⟩ := Dp.readsAll I _ _ its (bls_dp bs) rv
  refine PySem.W.any_list_data (I.ok.hd hc) hl.isList (by simpa using ra) (bls_plain bs) (fun x hx => ?_) fun h' tk hk => ?_
  · obtain ⟨b, _, rfl⟩ := List.mem_map.mp hx
    trivial
  · rw [(bls_truthy bs).1]
    exact ⟨.bl _, H, I.kept hk, rfl, q⟩
end
end Wn
/-! d.values(): x in d.values(), list(d.values()) -/
namespace VaI
open PySem PySem.Spec PyProof.Rows L2
theorem entry_ci : entryFor table "proto.contains_iter" = some Builtin.«proto.contains_iter» := entryFor_of_fast (by kernel_rfl)
theorem plain_ci : plainId "proto.contains_iter" = true := by decide +kernel
theorem no_contains : typeLookup (.type "dict_values") "__contains__" = pure none := by rw [typeLookup_type, builtinLookup_eq_fast]; kernel_rfl
def EqTo (prog : Program) (w : World) (A : Around) (P : Nat → Value → Prop) (x : Value) (tr : Nat → Bool) : Prop :=
  ∀ i v (s : Shared) (Q : Bool → Shared → Prop) (E : Value → Shared → Prop), P i v → Q (tr i) s → wpAny (model prog w) A (eqBool v x) Q E s
section
variable {prog : Program} {w : World} {A : Around} {R : Result → Shared → Prop} {I : Addr} {fp wr : List Addr} {n : Nat} {P : Nat → Value → Prop} {St : Nat → Heap → Prop} {x : Value}
theorem codeAny_ci (W : Walks prog w A.in1 I fp wr n P St) (tr : Nat → Bool) (htr : EqTo prog w A.in1 P x tr) : ∀ (k i : Nat) (s : Shared), n - i = k → i ≤ n → St i s.heap →
    (∀ h' tk, (∀ b o, b ∉ wr → s.heap.get? b = some o → h'.get? b = some o) → R (.ok (.ret (.bool (((List.range n).drop i).any tr)))) { s with heap := h', toks := tk }) →
    codeAny (model prog w) A (.builtin "proto.contains_iter" ⟨[.ref I, x], []⟩) R s := by
  intro k
  induction k with
  | zero =>
    intro i s hk hi hst hR
    have hin : i = n := by omega
    subst hin
    refine codeAny_builtin entry_ci ?_
    rw [Around.under_plainId plain_ci _]
    show wpAny _ A.in1 (pyNext (.ref I) >>= _) _ _ s
    refine wpAny_bind (W.done s _ _ hst fun h' tk hk' => ?_)
    refine wpAny_bind (wpAny_rule (wpAny_pure ?_))
    have := hR h' tk hk'
    rw [List.drop_of_length_le (by simp)] at this
    exact this
  | succ k ih =>
    intro i s hk hi hst hR
    have hlt : i < n := by omega
    have hd : (List.range n).drop i = i :: (List.range n).drop (i + 1) := by
      rw [List.drop_eq_getElem_cons (by simpa using hlt)]; simp
    refine codeAny_builtin entry_ci ?_
    rw [Around.under_plainId plain_ci _]
    show wpAny _ A.in1 (pyNext (.ref I) >>= _) _ _ s
    refine wpAny_bind (W.item i s _ _ hlt hst fun v h' tk hP hst' hk' => ?_)
    refine wpAny_bind (htr i v _ _ _ hP ?_)
    cases hb : tr i with
    | false =>
      simp only [Bool.false_eq_true, if_false]
      refine wpAny_pure ⟨plainId_quiet plain_ci _, ih (i + 1) _ (by omega) hlt hst' fun h'' tk'' hk'' => ?_⟩
      have := hR h'' tk'' fun b o hbw e => hk'' b o hbw (hk' b o hbw e)
      rw [hd, List.any_cons, hb, Bool.false_or] at this
      exact this
    | true =>
      simp only [if_true]
      refine wpAny_bind (wpAny_rule (wpAny_pure ?_))
      have := hR h' tk hk'
      rw [hd, List.any_cons, hb, Bool.true_or] at this
      exact this
end
section
variable {prog : Program} {w : World} {K : Type} [DecidableEq K] {knd : KeyKind prog w K} {A : Around} {E : Value → Shared → Prop} {s : Shared} {d v : Addr} {kvs : List (K × Value)} {ep : Nat} {x : Value} {Q : Value → Shared → Prop}
theorem in_values (hh : A.handled = none) (hv : s.heap.IsValuesView v d) (hm : s.heap.DictAt knd d kvs ep) (tr : Nat → Bool) (htr : ∀ A', EqTo prog w A' (fun i u => ∃ k, kvs[i]? = some (k, u)) x tr)
    (h : ∀ h' tk, (∀ b o, s.heap.get? b = some o → h'.get? b = some o) → Q (.bool ((List.range kvs.length).any tr)) { s with heap := h', toks := tk }) : wpAny (model prog w) A (compareOp .In x (.ref v)) Q E s := by
  show wpAny _ _ (do return .bool (← contains (.ref v) x)) Q E s
  refine wpAny_bind ?_
  unfold contains
  refine wpAny_holding ?_
  rw [stdlibNamesSay?_of_typeIs hv.typeIs]
  refine wpAny_bind (wpAny_specialOf hv.typeIs no_contains ?_)
  show wpAny _ _ (if ((none : Option Value) == some Value.none) = true then _ else _) _ _ _
  rw [if_neg (by simp)]
  refine wpAny_bind (wpAny_callSpecialUnlessNone?_none hv.typeIs no_contains ?_)
  refine wpAny_bind (wpAny_rule ?_)
  refine wpAny_bind (wpAny_tryCatch (wpAny_pyIter_values hv hm ?_))
  have lt := hm.lt_size
  have W := Walks.dictValues (A := A.in1) (knd := knd) hh s.heap.objs.size d (Nat.ne_of_lt lt) kvs ep
  refine wpAny_bind (wpAny_runValue (codeAny_ci W tr (htr _) _ 0 _ rfl (Nat.zero_le _) ⟨⟨_, Heap.get?_push_size _ rfl, rfl, rfl⟩, hm.push _⟩ fun h' tk hk => ?_))
  refine wpAny_pure (wpAny_pure ?_)
  have := h h' tk fun b o e => hk b o (fun z => by
    have e2 := Heap.lt_size e
    rw [List.mem_singleton.mp z] at e2
    exact absurd e2 (Nat.lt_irrefl _)) (Heap.get?_push_of_some _ e)
  simpa using this
end
section
variable {X : Cx} {e o : Expr} {te to : TE} {apos cpos pos : Pos}
def tInVals (te to : TE) : TT := fun σ H Q => te σ H fun x H1 => to σ H1 fun y H2 => ∃ (d : Addr) (kvs : List (Key × V)) (z : Str) (ys : List Str), x = .str z ∧ y = .ref d ∧ H2 d = some (.dK kvs) ∧ kvs.map (·.2) = ys.map V.str ∧ Q (decide (z ∈ ys)) H2
theorem paired_back {α β : Type} {F : α → β → Prop} : ∀ {xs : List α} {ys : List β}, Paired F xs ys → ∀ {i : Nat} {y : β}, ys[i]? = some y → ∃ x, xs[i]? = some x ∧ F x y
  | _, _, .nil, i, x, h => by cases h
  | _, _, .cons r t, 0, x, h => by
    have e := Option.some.inj h
    subst e
    exact ⟨_, rfl, r⟩
  | _, _, .cons r t, i + 1, x, h => paired_back t h
theorem range_mem (ys : List Str) (z : Str) : ((List.range ys.length).any fun i => ys.getD i "" == z) = decide (z ∈ ys) := by
  rw [Bool.eq_iff_iff, List.any_eq_true, decide_eq_true_eq]
  constructor
  · rintro ⟨i, hi, e⟩
    have hl := List.mem_range.mp hi
    have e := eq_of_beq e
    rw [List.getD_eq_getElem?_getD, List.getElem?_eq_getElem hl] at e
    exact e ▸ List.getElem_mem hl
  · intro h
    obtain ⟨i, hi, e⟩ := List.mem_iff_getElem.mp h
    refine ⟨i, List.mem_range.mpr hi, ?_⟩
    rw [List.getD_eq_getElem?_getD, List.getElem?_eq_getElem hi]
    simp [e]
theorem pt_inVals (hc : X.calm = true) (he : PE X e te) (ho : PE X o to) (hbase : attributeBase o "values" X.env (eval o X.env) = eval o X.env := by rfl) (hline : (apos.endLine == cpos.line) = true := by rfl)
    (hm : behindInMarks .In (.Call (.Attribute o "values" apos) [] [] cpos) = false := by first | exact nomark _ | rfl) : PT X (.Compare e [.In] [.Call (.Attribute o "values" apos) [] [] cpos] pos) (tInVals te to) := by
  refine ⟨fun pins s σ H Q I h => ?_⟩
  refine wpAny_isTrue_Compare1 (thn (he.run pins s σ H _ I h) fun v0 s0 ⟨x, H1, I1, r1, q1⟩ => ?_) hm
  refine wpAny_Call_method (T := "dict") (id := "dict.values") hbase rfl hline F.plainAttrs_dict F.slot_dict_values F.type_dict_values (thn (ho.run pins s0 σ H1 _ I1 q1) fun u s1 ⟨y, H2, I2, ry, d, kvs, z, ys, ex, ey, hd, hys, q⟩ => ?_)
  subst ex
  subst ey
  obtain ⟨t, rfl⟩ := (show ∃ t, v0 = Value.str z t from r1)
  obtain rfl : u = Value.ref d := ry
  obtain ⟨hz, hs0, vs, kv, hdo⟩ := I2.hok d _ hd
  obtain ⟨ep, hat⟩ := hdo.dictAt
  have lk : kvs.length = vs.length := Paired.length kv
  have lys : kvs.length = ys.length := by
    have := congrArg List.length hys
    simpa using this
  have I3 : Inv X pins σ H2 { s1 with heap := s1.heap.push { cls := .type "dict_values", data := .fields #[.ref d] } } := I2.kept (t' := s1.toks) fun b ob q => Heap.get?_push_of_some _ q
  refine ⟨hdo.typeIs, hdo.mapOf.noDict, ?_⟩
  show wpAny _ _ (callWith cpos (.builtin "dict.values") [.ref d] [] []) _ X.xe s1
  refine method_meetsIn F.slot_dict_values F.entry_dict_values rfl (PySem.evalArgs_none ⟨rfl, hdo.typeIs, F.args_dict_values_1 _, _, meets_dict_values (mixKind X.prog X.w) d hs0, ⟨vs, hdo⟩, ?_⟩)
  refine in_values (knd := mixKind X.prog X.w) (kvs := vs) (ep := ep) (I2.ok.hd hc) ⟨_, Heap.get?_push_size _ rfl, rfl, rfl⟩ (hat.push _) (fun i => ys.getD i "" == z) (fun A' i v s' Q' E' ⟨k, hk⟩ hq => ?_) fun h' tk hk => ?_
  · obtain ⟨p, g1, g2, g3⟩ := paired_back kv hk
    have gy : (kvs.map (·.2))[i]? = some p.2 := by rw [List.getElem?_map, g1]; rfl
    rw [hys, List.getElem?_map] at gy
    cases ey : ys[i]? with
    | none => rw [ey] at gy; cases gy
    | some y =>
      rw [ey] at gy
      have e2 : V.str y = p.2 := Option.some.inj gy
      rw [← e2] at g3
      obtain ⟨t2, e3⟩ := (show ∃ t, v = Value.str y t from g3)
      subst e3
      refine eqBool_str ?_
      have : ys.getD i "" = y := by rw [List.getD_eq_getElem?_getD, ey]; rfl
      have hq : Q' (ys.getD i "" == z) s' := hq
      rw [this] at hq
      exact hq
  · rw [← lk, lys, range_mem]
    exact wpAny_truthy_bool ⟨H2, I3.kept (t' := tk) hk, q⟩
end
section
variable {X : Cx} {apos cpos pos : Pos}
def rValsL : V → Hp → VK → Prop := fun x H Q => ∃ (d : Addr) (kvs : List (Key × V)), x = .ref d ∧ H d = some (.dK kvs) ∧ ∀ p, H p = none → Q (.ref p) (upd H p (.lst (kvs.map (·.2))))
def tListVals (te : TE) : TE := fun σ H Q => te σ H fun x H1 => rValsL x H1 Q
theorem vals_of {F : Key × V → Key × Value → Prop} (hF : ∀ p q, F p q → RelV p.2 q.2) : ∀ {kvs : List (Key × V)} {vs : List (Key × Value)}, Paired F kvs vs → ∀ as : List Value, as.length = vs.length → (∀ (j : Nat) (v : Value), as[j]? = some v → ∃ k : Key, vs[j]? = some (k, v)) → Vals (kvs.map (·.2)) as
  | _, _, .nil, [], _, _ => .nil
  | _, _, .nil, _ :: _, h, _ => by cases h
  | _, _, .cons r t, [], h, _ => by cases h
  | _, _, @Paired.cons _ _ _ p q _ _ r t, a :: as, h, e => by
    refine .cons ?_ (vals_of hF t as (Nat.succ.inj h) fun j v g => e (j + 1) v g)
    obtain ⟨k, hk⟩ := e 0 a rfl
    have hk : q = (k, a) := Option.some.inj hk
    have := hF _ _ r
    rw [hk] at this
    exact this
/-- list(e.values()) -/
theorem pe_listVals {p : Pos} {e : Expr} {te : TE} (hc : X.calm = true) (he : PE X e te) (hg : Gl X "list") (hm : X.mg "list" = none) (hv : bootBuiltins "list" = some (.type "list")) (hbase : attributeBase e "values" X.env (eval e X.env) = eval e X.env := by rfl) (hline : (apos.endLine == cpos.line) = true := by rfl)
    (hs : starEach [.Call (.Attribute e "values" apos) [] [] cpos] X.env = (false, eval (.Call (.Attribute e "values" apos) [] [] cpos) X.env) :: starEach [] X.env := by rfl) :
    PE X (.Call (.Name "list" p) [.Call (.Attribute e "values" apos) [] [] cpos] [] pos) (tListVals te) := by
  refine ⟨fun pins s σ H Q I hq => ?_⟩
  refine wpAny_Call_Name_kw (ld_blt I hg hm hv ?_)
  refine PyProof.Rows.callWith_type1 ?_ hs rfl
  rw [hs]
  show wpAny _ _ (spliced ((false, eval (.Call (.Attribute e "values" apos) [] [] cpos) X.env) :: backTo pos (starEach [] X.env))) _ _ s
  refine Calls.spliced_cons ?_
  refine wpAny_Call_method (T := "dict") (id := "dict.values") hbase rfl hline F.plainAttrs_dict F.slot_dict_values F.type_dict_values (thn (he.run pins s σ H _ I hq) fun u s1 ⟨x, H1, I1, rx, d, kvs, ex, hd, q⟩ => ?_)
  subst ex
  obtain rfl : u = Value.ref d := rx
  obtain ⟨hz, hs0, vs, kv, hdo⟩ := I1.hok d _ hd
  obtain ⟨ep, hat⟩ := hdo.dictAt
  have lk : kvs.length = vs.length := Paired.length kv
  have I2 : Inv X pins σ H1 { s1 with heap := s1.heap.push { cls := .type "dict_values", data := .fields #[.ref d] } } := I1.kept (t' := s1.toks) fun b ob q => Heap.get?_push_of_some _ q
  refine ⟨hdo.typeIs, hdo.mapOf.noDict, ?_⟩
  show wpAny _ _ (callWith cpos (.builtin "dict.values") [.ref d] [] []) _ X.xe s1
  refine method_meetsIn F.slot_dict_values F.entry_dict_values rfl (PySem.evalArgs_none ⟨rfl, hdo.typeIs, F.args_dict_values_1 _, _, meets_dict_values (mixKind X.prog X.w) d hs0, ⟨vs, hdo⟩, ?_⟩)
  refine Calls.spliced_nil ?_
  refine PySem.W.kdl_call (PySem.W.kdl_values (knd := mixKind X.prog X.w) (kvs := vs) (ep := ep)) (I1.ok.hd hc) ⟨⟨_, Heap.get?_push_size _ rfl, rfl, rfl⟩, hat.push _⟩ (by omega) fun h' tk acc c hk hS hacc => ?_
  have J := I2.laid (a := (s1.heap.push { cls := .type "dict_values", data := .fields #[.ref d] }).objs.size) (o := .lst (kvs.map (·.2))) (t' := tk) (h' := h') hk (Nat.le_refl _) ⟨by rw [List.length_map]; exact hz, acc.toList, c, vals_of (fun p q r => r.2) kv _ (by rw [Array.length_toList]; exact hacc.1) (fun j v e => hacc.2 j v (by rw [← Array.getElem?_toList]; exact e)), by rw [Array.toArray_toList]; exact hS⟩
  exact ⟨.ref _, _, J, rfl, q _ (I2.hok.fresh (Nat.le_refl _))⟩
end
end VaI
/-! ### the law's level -/
namespace Wn
open PySem PySem.Spec PyProof.Rows L2 LamX He
def strOf : Val → Option Str
  | .str y => some y
  | _ => none
theorem strOf_eq {x : Val} {y : Str} (h : strOf x = some y) : x = .str y := by
  cases x <;> cases h
  rfl
def strsOf : List (Key × Val) → Option (List Str)
  | [] => some []
  | p :: r => match strOf p.2, strsOf r with
    | some y, some l => some (y :: l)
    | _, _ => none
theorem strsOf_rel {K : PySem.W.Frag} {ad : Nat → Addr} {b : Nat} {H : Hp} : ∀ {kvs : List (Key × Val)} {us : List (Key × V)} {ys : List Str}, strsOf kvs = some ys → VRs K ad b H (kvs.map (·.2)) (us.map (·.2)) → us.map (·.2) = ys.map V.str
  | [], [], ys, h, _ => by cases h; rfl
  | [], _ :: _, ys, h, r => by cases r
  | p :: kvs, [], ys, h, r => by cases r
  | (k, x) :: kvs, (k2, u) :: us, ys, h, r => by
    rw [strsOf] at h
    split at h
    · rename_i y l hy hl
      cases h
      cases r with
      | cons r1 r2 =>
        rw [List.map_cons, List.map_cons, strsOf_rel hl r2]
        have hy : x = .str y := strOf_eq hy
        subst hy
        have r1 : VR K ad b H (.str y) u := r1
        cases r1
        rfl
    · cases h
def mInVals (a o : ME) : MT := fun ρ μ => (a ρ μ).bind fun x μ => (o ρ μ).bind fun y μ => match x, y with
  | .str z, .loc n => match μ.ob n with
    | some (.dct kvs) => match strsOf kvs with
      | some ys => .ok (decide (z ∈ ys)) μ
      | none => .no
    | _ => .no
  | _, _ => .no
def mListVals (o : ME) : ME := fun ρ μ => (o ρ μ).bind fun y μ => match y with
  | .loc n => match μ.ob n with
    | some (.dct kvs) => .ok (.loc μ.nx) (μ.new (.lst (kvs.map (·.2))))
    | _ => .no
  | _ => .no
def dictDM : List Val → Mu → R Val
  | [.loc n], μ => match dctOf μ n with
    | some kvs => .ok (.loc μ.nx) (μ.new (.dct kvs))
    | none => .no
  | _, _ => .no
section
variable {X : Cx} {E : XK} {e o : Expr} {apos cpos pos : Pos} {mo me : ME} {K : PySem.W.Frag}
theorem pmt_inVals (hc : X.calm = true) (he : PM X E e me) (ho : PM X E o mo) (hbase : attributeBase o "values" X.env (eval o X.env) = eval o X.env := by rfl) (hline : (apos.endLine == cpos.line) = true := by rfl)
    (hm : behindInMarks .In (.Call (.Attribute o "values" apos) [] [] cpos) = false := by first | exact nomark _ | rfl) : PMT X E (.Compare e [.In] [.Call (.Attribute o "values" apos) [] [] cpos] pos) (mInVals me mo) :=
  PT.imp (VaI.pt_inVals hc he ho hbase hline hm) fun σ H Q ⟨w, ρ, μ, S, EN, hp⟩ => ⟨w, ρ, μ, S, EN, Post.bind hp fun x μ1 w1 H1 u1 S1 r1 g1 h1 => ⟨w1, ρ, μ1, S1, EN.grow g1, Post.bind h1 fun y μ2 w2 H2 u2 S2 r2 g2 h2 => by
    split at h2
    · rename_i z n
      split at h2
      · rename_i kvs e
        split at h2
        · rename_i ys hs
          obtain ⟨us, q1, q2, q3⟩ := S2.ok _ _ e
          cases r1
          cases r2
          exact ⟨w2.ad n, us, z, ys, rfl, rfl, q1, strsOf_rel hs q3, h2 w2 H2 _ S2 rfl .refl⟩
        · exact h2.elim
      · exact h2.elim
    · exact h2.elim⟩⟩
theorem pm_listVals {p : Pos} (hc : X.calm = true) (ho : PM X E o mo) (hg : Gl X "list") (hm : X.mg "list" = none) (hv : bootBuiltins "list" = some (.type "list")) (hbase : attributeBase o "values" X.env (eval o X.env) = eval o X.env := by rfl) (hline : (apos.endLine == cpos.line) = true := by rfl)
    (hs : starEach [.Call (.Attribute o "values" apos) [] [] cpos] X.env = (false, eval (.Call (.Attribute o "values" apos) [] [] cpos) X.env) :: starEach [] X.env := by rfl) :
    PM X E (.Call (.Name "list" p) [.Call (.Attribute o "values" apos) [] [] cpos] [] pos) (mListVals mo) :=
  PE.imp (VaI.pe_listVals hc ho hg hm hv hbase hline hs) fun σ H Q ⟨w, ρ, μ, S, EN, hp⟩ => ⟨w, ρ, μ, S, EN, Post.bind hp fun x μ1 w1 H1 u1 S1 r1 g1 h1 => by
    split at h1
    · rename_i n
      split at h1
      · rename_i kvs e
        obtain ⟨us, q1, q2, q3⟩ := S1.ok _ _ e
        cases r1
        refine ⟨_, us, rfl, q1, fun p np => ?_⟩
        obtain ⟨w2, S2, g2, e3⟩ := S1.newL np q3
        exact h1 w2 _ _ S2 (by rw [← e3]; exact VR.loc (Nat.lt_succ_self _)) g2
      · exact h1.elim
    · exact h1.elim⟩
theorem p_dictD : PrimA K (fun xs H Q => ∃ (a : Addr) (kvs : List (Key × V)), xs = [.ref a] ∧ Rd H a (.dK kvs) ∧ ∀ p, H p = none → Q (.ref p) (upd H p (.dK kvs))) dictDM := by
  intro E w μ H xs us Q S r hp
  unfold dictDM at hp
  split at hp
  · cases r with
    | cons r1 r2 =>
      cases r2; cases r1
      split at hp
      · rename_i kvs hk
        obtain ⟨us, q1, q2, q3⟩ := dctOf_rd S hk
        refine ⟨_, us, rfl, q1, fun p np => ?_⟩
        obtain ⟨w4, S4, g4, e4⟩ := S.newD np q2 q3
        exact hp w4 _ _ S4 (by rw [← e4]; exact VR.loc (Nat.lt_succ_self _)) g4
      · exact hp.elim
  · exact hp.elim
end
/-! ### a def of the program that is given a system first -/
def mFnS (f : MSy) (m : MA) : ME := fun ρ μ => (m ρ μ).bind fun xs μ => match xs with
  | .loc n :: r => match μ.ob n with
    | some (.sys v) => f n v r μ
    | _ => .no
  | _ => .no
section
variable {X : Cx} {E : XK} {CX : CXT} {k : Nat} {f : Addr} {fd : FuncData} {ps : List Str} {sp : Sp} {x : Str} {p pos : Pos} {e : Expr} {es : List Expr} {mr : MA} {fm : MSy}
theorem pm_fnS (F : FnOk X.prog X.w X.K X.mg X.base CX k f fd ps sp) (hr : Room k X.A) (hg : Gl X x) (hm : X.mg x = some (.ref f)) (hk : PySem.W.keepIn X.K (.ref f) = true) (hb : Binds X.K fd ps []) (hx : Passes CX X E) (hf : PrimS X.K sp fm)
    (ha : PMA X E (e :: es) mr) (hdb : (x == ("__debug__" : Str)) = false := by decide) (he : starEach (e :: es) X.env = (false, eval e X.env) :: starEach es X.env := by rfl) (hpl : (backTo pos (starEach es X.env)).any (·.1) = false := by rfl) :
    PM X E (.Call (.Name x p) (e :: es) [] pos) (mFnS fm mr) :=
  PE.imp (pe_call F hr hg hm hk hb .nil hx ha hdb he hpl) fun σ H Q ⟨w, ρ, μ, S, EN, hp⟩ => ⟨w, ρ, μ, S, EN, Post.bind hp fun xs μ1 w1 H1 us S1 r1 g1 h1 => by
    split at h1
    · rename_i n r
      split at h1
      · rename_i v hob
        cases r1 with
        | cons r1 r2 =>
          cases r1
          rw [List.append_nil]
          exact hf E w1 μ1 H1 n v r _ Q S1 hob r2 h1
      · exact h1.elim
    · exact h1.elim⟩
end
end Wn
namespace Wn
open PySem PySem.Spec PyProof.Rows L2 LamX He

/-! ### the text by places -/
def top (i : Nat) : Stmt := PySem.Challenge.pw_waitnumbers_k60_registrations_left_behin.main.body.getD i (.Pass ⟨0, 0, 0, 0⟩)
abbrev s_numbers_of : Stmt := top 2
abbrev s_holds_both : Stmt := top 3
abbrev s_is_reached : Stmt := top 4
abbrev s_is_sealed : Stmt := top 5
abbrev s_NoProcess___init__ : Stmt := inClass (top 7) 0
abbrev s_NotOpen___init__ : Stmt := inClass (top 8) 0
abbrev s_NoNumber___init__ : Stmt := inClass (top 9) 0
abbrev s_NotRegistered___init__ : Stmt := inClass (top 10) 0
abbrev s_NoRegistration___init__ : Stmt := inClass (top 11) 0
abbrev s_NotASource___init__ : Stmt := inClass (top 12) 0
abbrev s_NotASet___init__ : Stmt := inClass (top 13) 0
abbrev s_BadCount___init__ : Stmt := inClass (top 14) 0
abbrev s_BadLabel___init__ : Stmt := inClass (top 15) 0
abbrev s_BadWord___init__ : Stmt := inClass (top 16) 0
abbrev s_BadLimit___init__ : Stmt := inClass (top 17) 0
abbrev s_Full___init__ : Stmt := inClass (top 18) 0
abbrev s_NoRoom___init__ : Stmt := inClass (top 19) 0
abbrev s_Registered___init__ : Stmt := inClass (top 20) 0
abbrev s_Taken___init__ : Stmt := inClass (top 21) 0
abbrev s_is_integer : Stmt := top 28
abbrev s_is_between : Stmt := top 29
abbrev s_Source___init__ : Stmt := inClass (top 30) 0
abbrev s_Source_kind : Stmt := inClass (top 30) 1
abbrev s_Source_is_ready : Stmt := inClass (top 30) 2
abbrev s_Source_taken : Stmt := inClass (top 30) 3
abbrev s_Entry___init__ : Stmt := inClass (top 31) 0
abbrev s_WaitSet___init__ : Stmt := inClass (top 32) 0
abbrev s_WaitSet_kind : Stmt := inClass (top 32) 1
abbrev s_WaitSet_keyed : Stmt := inClass (top 32) 2
abbrev s_WaitSet_labelled : Stmt := inClass (top 32) 3
abbrev s_WaitSet_append_pending : Stmt := inClass (top 32) 4
abbrev s_WaitSet_drop : Stmt := inClass (top 32) 5
abbrev s_WaitSet_forget : Stmt := inClass (top 32) 6
abbrev s_look_count : Stmt := top 38
abbrev s_look_word : Stmt := top 39
abbrev s_System___init__ : Stmt := inClass (top 40) 2
abbrev s_System_limits : Stmt := inClass (top 40) 4
abbrev s_System_alive : Stmt := inClass (top 40) 5
abbrev s_System_table_of : Stmt := inClass (top 40) 6
abbrev s_System_serial_at : Stmt := inClass (top 40) 7
abbrev s_System_source_at : Stmt := inClass (top 40) 8
abbrev s_System_set_at : Stmt := inClass (top 40) 9
abbrev s_System_holders : Stmt := inClass (top 40) 10
abbrev s_System_name_of : Stmt := inClass (top 40) 11
abbrev s_System_serial_named : Stmt := inClass (top 40) 12
abbrev s_System_set_serials : Stmt := inClass (top 40) 13
abbrev s_System_found_entry : Stmt := inClass (top 40) 14
abbrev s_System_lowest_free : Stmt := inClass (top 40) 15
abbrev s_System_placed : Stmt := inClass (top 40) 16
abbrev s_System_new_source : Stmt := inClass (top 40) 17
abbrev s_System_new_set : Stmt := inClass (top 40) 18
abbrev s_System_copy : Stmt := inClass (top 40) 19
abbrev s_System_close : Stmt := inClass (top 40) 20
abbrev s_System_fork : Stmt := inClass (top 40) 21
abbrev s_System_read : Stmt := inClass (top 40) 26
abbrev s_System_add : Stmt := inClass (top 40) 27
abbrev s_System_keyed_entry : Stmt := inClass (top 40) 28
abbrev s_System_remove : Stmt := inClass (top 40) 30
abbrev s_System_numbers : Stmt := inClass (top 40) 32
abbrev s_System_same : Stmt := inClass (top 40) 33
abbrev s_System_units : Stmt := inClass (top 40) 34
abbrev s_System_name : Stmt := inClass (top 40) 35
abbrev s_System_registrations : Stmt := inClass (top 40) 37
abbrev s_System___eq__ : Stmt := inClass (top 40) 44
abbrev s_System___len__ : Stmt := inClass (top 40) 45
abbrev s_System___contains__ : Stmt := inClass (top 40) 46
abbrev s_System___repr__ : Stmt := inClass (top 40) 47
abbrev s_picture_of : Stmt := top 41
abbrev s__law_bag : Stmt := top 43
abbrev s__law_take : Stmt := top 44
abbrev s__law_of : Stmt := top 45
abbrev s__law_due : Stmt := top 46
abbrev s__law_found : Stmt := top 47
abbrev s__law_right : Stmt := top 48
abbrev s_law : Stmt := top 49
/-! ### what the walk asks of the top -/
structure Tx (K : PySem.W.Frag) (mg : Str → Option Value) : Prop where
  g_BadCount : mg "BadCount" = some (.ref (ga K "BadCount"))
  g_BadLabel : mg "BadLabel" = some (.ref (ga K "BadLabel"))
  g_BadLimit : mg "BadLimit" = some (.ref (ga K "BadLimit"))
  g_BadWord : mg "BadWord" = some (.ref (ga K "BadWord"))
  t_EDGE : ∃ t, mg "EDGE" = some (.str "edge" t)
  g_Entry : mg "Entry" = some (.ref (ga K "Entry"))
  g_Full : mg "Full" = some (.ref (ga K "Full"))
  i_LEAST_NUMBERS : ∃ t, mg "LEAST_NUMBERS" = some (.int 3 t)
  i_LEAST_PROCESSES : ∃ t, mg "LEAST_PROCESSES" = some (.int 2 t)
  t_LEVEL : ∃ t, mg "LEVEL" = some (.str "level" t)
  i_MOST_COUNT : ∃ t, mg "MOST_COUNT" = some (.int 1000000 t)
  i_MOST_LABEL : ∃ t, mg "MOST_LABEL" = some (.int 999999 t)
  g_NoNumber : mg "NoNumber" = some (.ref (ga K "NoNumber"))
  g_NoProcess : mg "NoProcess" = some (.ref (ga K "NoProcess"))
  g_NoRegistration : mg "NoRegistration" = some (.ref (ga K "NoRegistration"))
  g_NoRoom : mg "NoRoom" = some (.ref (ga K "NoRoom"))
  g_NotASet : mg "NotASet" = some (.ref (ga K "NotASet"))
  g_NotASource : mg "NotASource" = some (.ref (ga K "NotASource"))
  g_NotOpen : mg "NotOpen" = some (.ref (ga K "NotOpen"))
  g_NotRegistered : mg "NotRegistered" = some (.ref (ga K "NotRegistered"))
  t_ONCE : ∃ t, mg "ONCE" = some (.str "once" t)
  g_Registered : mg "Registered" = some (.ref (ga K "Registered"))
  t_SET : ∃ t, mg "SET" = some (.str "set" t)
  t_SOURCE : ∃ t, mg "SOURCE" = some (.str "source" t)
  g_Source : mg "Source" = some (.ref (ga K "Source"))
  g_System : mg "System" = some (.ref (ga K "System"))
  g_Taken : mg "Taken" = some (.ref (ga K "Taken"))
  g_WaitSet : mg "WaitSet" = some (.ref (ga K "WaitSet"))
  g__law_bag : mg "_law_bag" = some (.ref (ga K "_law_bag"))
  g__law_due : mg "_law_due" = some (.ref (ga K "_law_due"))
  g__law_found : mg "_law_found" = some (.ref (ga K "_law_found"))
  g__law_of : mg "_law_of" = some (.ref (ga K "_law_of"))
  g__law_right : mg "_law_right" = some (.ref (ga K "_law_right"))
  g__law_take : mg "_law_take" = some (.ref (ga K "_law_take"))
  free_abs : mg "abs" = none
  free_any : mg "any" = none
  free_bool : mg "bool" = none
  free_dict : mg "dict" = none
  free_enumerate : mg "enumerate" = none
  g_holds_both : mg "holds_both" = some (.ref (ga K "holds_both"))
  free_int : mg "int" = none
  g_is_between : mg "is_between" = some (.ref (ga K "is_between"))
  g_is_integer : mg "is_integer" = some (.ref (ga K "is_integer"))
  g_is_reached : mg "is_reached" = some (.ref (ga K "is_reached"))
  g_is_sealed : mg "is_sealed" = some (.ref (ga K "is_sealed"))
  free_isinstance : mg "isinstance" = none
  g_law : mg "law" = some (.ref (ga K "law"))
  free_len : mg "len" = none
  free_list : mg "list" = none
  g_look_count : mg "look_count" = some (.ref (ga K "look_count"))
  g_look_word : mg "look_word" = some (.ref (ga K "look_word"))
  free_max : mg "max" = none
  free_min : mg "min" = none
  g_numbers_of : mg "numbers_of" = some (.ref (ga K "numbers_of"))
  g_picture_of : mg "picture_of" = some (.ref (ga K "picture_of"))
  free_range : mg "range" = none
  free_sorted : mg "sorted" = none
  free_str : mg "str" = none
  free_tuple : mg "tuple" = none
  x_NoProcess : XT K "NoProcess" "LookupError" "LookupError.__new__" "LookupError.__init__" [.type "LookupError", .type "Exception", .type "BaseException", .type "object"] ["caption", "process"]
  o_NoProcess : PySem.W.mroIn K (ga K "NoProcess") (.type "object") = some true
  x_NotOpen : XT K "NotOpen" "LookupError" "LookupError.__new__" "LookupError.__init__" [.type "LookupError", .type "Exception", .type "BaseException", .type "object"] ["caption", "number"]
  o_NotOpen : PySem.W.mroIn K (ga K "NotOpen") (.type "object") = some true
  x_NoNumber : XT K "NoNumber" "LookupError" "LookupError.__new__" "LookupError.__init__" [.type "LookupError", .type "Exception", .type "BaseException", .type "object"] ["caption", "number"]
  o_NoNumber : PySem.W.mroIn K (ga K "NoNumber") (.type "object") = some true
  x_NotRegistered : XT K "NotRegistered" "LookupError" "LookupError.__new__" "LookupError.__init__" [.type "LookupError", .type "Exception", .type "BaseException", .type "object"] ["caption", "number"]
  o_NotRegistered : PySem.W.mroIn K (ga K "NotRegistered") (.type "object") = some true
  x_NoRegistration : XT K "NoRegistration" "LookupError" "LookupError.__new__" "LookupError.__init__" [.type "LookupError", .type "Exception", .type "BaseException", .type "object"] ["caption", "set_name", "label"]
  o_NoRegistration : PySem.W.mroIn K (ga K "NoRegistration") (.type "object") = some true
  x_NotASource : XT K "NotASource" "TypeError" "TypeError.__new__" "TypeError.__init__" [.type "TypeError", .type "Exception", .type "BaseException", .type "object"] ["caption", "number"]
  o_NotASource : PySem.W.mroIn K (ga K "NotASource") (.type "object") = some true
  x_NotASet : XT K "NotASet" "TypeError" "TypeError.__new__" "TypeError.__init__" [.type "TypeError", .type "Exception", .type "BaseException", .type "object"] ["caption", "number"]
  o_NotASet : PySem.W.mroIn K (ga K "NotASet") (.type "object") = some true
  x_BadCount : XT K "BadCount" "ValueError" "ValueError.__new__" "ValueError.__init__" [.type "ValueError", .type "Exception", .type "BaseException", .type "object"] ["caption", "count"]
  o_BadCount : PySem.W.mroIn K (ga K "BadCount") (.type "object") = some true
  x_BadLabel : XT K "BadLabel" "ValueError" "ValueError.__new__" "ValueError.__init__" [.type "ValueError", .type "Exception", .type "BaseException", .type "object"] ["caption", "label"]
  o_BadLabel : PySem.W.mroIn K (ga K "BadLabel") (.type "object") = some true
  x_BadWord : XT K "BadWord" "ValueError" "ValueError.__new__" "ValueError.__init__" [.type "ValueError", .type "Exception", .type "BaseException", .type "object"] ["caption", "word"]
  o_BadWord : PySem.W.mroIn K (ga K "BadWord") (.type "object") = some true
  x_BadLimit : XT K "BadLimit" "ValueError" "ValueError.__new__" "ValueError.__init__" [.type "ValueError", .type "Exception", .type "BaseException", .type "object"] ["caption", "limit"]
  o_BadLimit : PySem.W.mroIn K (ga K "BadLimit") (.type "object") = some true
  x_Full : XT K "Full" "OverflowError" "OverflowError.__new__" "OverflowError.__init__" [.type "OverflowError", .type "ArithmeticError", .type "Exception", .type "BaseException", .type "object"] ["caption", "process"]
  o_Full : PySem.W.mroIn K (ga K "Full") (.type "object") = some true
  x_NoRoom : XT K "NoRoom" "OverflowError" "OverflowError.__new__" "OverflowError.__init__" [.type "OverflowError", .type "ArithmeticError", .type "Exception", .type "BaseException", .type "object"] ["caption"]
  o_NoRoom : PySem.W.mroIn K (ga K "NoRoom") (.type "object") = some true
  x_Registered : XT K "Registered" "RuntimeError" "RuntimeError.__new__" "RuntimeError.__init__" [.type "RuntimeError", .type "Exception", .type "BaseException", .type "object"] ["caption", "number"]
  o_Registered : PySem.W.mroIn K (ga K "Registered") (.type "object") = some true
  x_Taken : XT K "Taken" "RuntimeError" "RuntimeError.__new__" "RuntimeError.__init__" [.type "RuntimeError", .type "Exception", .type "BaseException", .type "object"] ["caption", "label"]
  o_Taken : PySem.W.mroIn K (ga K "Taken") (.type "object") = some true
  c_Source : Cls K (ga K "Source")
  ci_Source : PySem.W.findIn K (.ref (ga K "Source")) "__class__" = some (some (.builtin "object.__class__"))
  o_Source : PySem.W.mroIn K (ga K "Source") (.type "object") = some true
  n_Source_unread : NoAttr K (ga K "Source") "unread"
  n_Source_finished : NoAttr K (ga K "Source") "finished"
  k_Source : Mk K (ga K "Source") (mA "Source" "__init__" K)
  c_Entry : Cls K (ga K "Entry")
  ci_Entry : PySem.W.findIn K (.ref (ga K "Entry")) "__class__" = some (some (.builtin "object.__class__"))
  o_Entry : PySem.W.mroIn K (ga K "Entry") (.type "object") = some true
  n_Entry_number : NoAttr K (ga K "Entry") "number"
  n_Entry_serial : NoAttr K (ga K "Entry") "serial"
  n_Entry_label : NoAttr K (ga K "Entry") "label"
  n_Entry_word : NoAttr K (ga K "Entry") "word"
  n_Entry_armed : NoAttr K (ga K "Entry") "armed"
  k_Entry : Mk K (ga K "Entry") (mA "Entry" "__init__" K)
  c_WaitSet : Cls K (ga K "WaitSet")
  ci_WaitSet : PySem.W.findIn K (.ref (ga K "WaitSet")) "__class__" = some (some (.builtin "object.__class__"))
  o_WaitSet : PySem.W.mroIn K (ga K "WaitSet") (.type "object") = some true
  n_WaitSet_entries : NoAttr K (ga K "WaitSet") "entries"
  n_WaitSet_row : NoAttr K (ga K "WaitSet") "row"
  k_WaitSet : Mk K (ga K "WaitSet") (mA "WaitSet" "__init__" K)
  c_System : Cls K (ga K "System")
  ci_System : PySem.W.findIn K (.ref (ga K "System")) "__class__" = some (some (.builtin "object.__class__"))
  o_System : PySem.W.mroIn K (ga K "System") (.type "object") = some true
  n_System_process_limit : NoAttr K (ga K "System") "process_limit"
  n_System_number_limit : NoAttr K (ga K "System") "number_limit"
  n_System_tables : NoAttr K (ga K "System") "tables"
  n_System_things : NoAttr K (ga K "System") "things"
  n_System_serials_made : NoAttr K (ga K "System") "serials_made"
  k_System : Mk K (ga K "System") (mA "System" "__init__" K)
  v_System_MOST_PROCESSES : ClX.CRead K (ga K "System") (.type "type") ∧ ∃ u, ClX.CVal K (ga K "System") (.type "type") "MOST_PROCESSES" (Dv.v K (.int 6)) u
  v_System_MOST_NUMBERS : ClX.CRead K (ga K "System") (.type "type") ∧ ∃ u, ClX.CVal K (ga K "System") (.type "type") "MOST_NUMBERS" (Dv.v K (.int 8)) u
  p_Source_kind : PropOf K (ga K "Source") "kind" (mA "Source" "kind" K) (pA "Source" "kind" K)
  p_Source_is_ready : PropOf K (ga K "Source") "is_ready" (mA "Source" "is_ready" K) (pA "Source" "is_ready" K)
  m_Source_taken : Meth K (ga K "Source") "taken" (mA "Source" "taken" K)
  p_WaitSet_kind : PropOf K (ga K "WaitSet") "kind" (mA "WaitSet" "kind" K) (pA "WaitSet" "kind" K)
  m_WaitSet_keyed : Meth K (ga K "WaitSet") "keyed" (mA "WaitSet" "keyed" K)
  m_WaitSet_labelled : Meth K (ga K "WaitSet") "labelled" (mA "WaitSet" "labelled" K)
  m_WaitSet_append_pending : Meth K (ga K "WaitSet") "append_pending" (mA "WaitSet" "append_pending" K)
  m_WaitSet_drop : Meth K (ga K "WaitSet") "drop" (mA "WaitSet" "drop" K)
  m_WaitSet_forget : Meth K (ga K "WaitSet") "forget" (mA "WaitSet" "forget" K)
  p_System_limits : PropOf K (ga K "System") "limits" (mA "System" "limits" K) (pA "System" "limits" K)
  m_System_alive : Meth K (ga K "System") "alive" (mA "System" "alive" K)
  m_System_table_of : Meth K (ga K "System") "table_of" (mA "System" "table_of" K)
  m_System_serial_at : Meth K (ga K "System") "serial_at" (mA "System" "serial_at" K)
  m_System_source_at : Meth K (ga K "System") "source_at" (mA "System" "source_at" K)
  m_System_set_at : Meth K (ga K "System") "set_at" (mA "System" "set_at" K)
  m_System_holders : Meth K (ga K "System") "holders" (mA "System" "holders" K)
  m_System_name_of : Meth K (ga K "System") "name_of" (mA "System" "name_of" K)
  m_System_serial_named : Meth K (ga K "System") "serial_named" (mA "System" "serial_named" K)
  m_System_set_serials : Meth K (ga K "System") "set_serials" (mA "System" "set_serials" K)
  m_System_found_entry : Meth K (ga K "System") "found_entry" (mA "System" "found_entry" K)
  m_System_lowest_free : Meth K (ga K "System") "lowest_free" (mA "System" "lowest_free" K)
  m_System_placed : Meth K (ga K "System") "placed" (mA "System" "placed" K)
  m_System_new_source : Meth K (ga K "System") "new_source" (mA "System" "new_source" K)
  m_System_new_set : Meth K (ga K "System") "new_set" (mA "System" "new_set" K)
  m_System_copy : Meth K (ga K "System") "copy" (mA "System" "copy" K)
  m_System_close : Meth K (ga K "System") "close" (mA "System" "close" K)
  m_System_fork : Meth K (ga K "System") "fork" (mA "System" "fork" K)
  m_System_read : Meth K (ga K "System") "read" (mA "System" "read" K)
  m_System_add : Meth K (ga K "System") "add" (mA "System" "add" K)
  m_System_keyed_entry : Meth K (ga K "System") "keyed_entry" (mA "System" "keyed_entry" K)
  m_System_remove : Meth K (ga K "System") "remove" (mA "System" "remove" K)
  m_System_numbers : Meth K (ga K "System") "numbers" (mA "System" "numbers" K)
  m_System_same : Meth K (ga K "System") "same" (mA "System" "same" K)
  m_System_units : Meth K (ga K "System") "units" (mA "System" "units" K)
  m_System_name : Meth K (ga K "System") "name" (mA "System" "name" K)
  m_System_registrations : Meth K (ga K "System") "registrations" (mA "System" "registrations" K)
  m_System___eq__ : Meth K (ga K "System") "__eq__" (mA "System" "__eq__" K)
  m_System___len__ : Meth K (ga K "System") "__len__" (mA "System" "__len__" K)
  m_System___contains__ : Meth K (ga K "System") "__contains__" (mA "System" "__contains__" K)
  m_System___repr__ : Meth K (ga K "System") "__repr__" (mA "System" "__repr__" K)
  bm_System_name_of : PySem.W.specialIn K (.ref (mA "System" "name_of" K)) "__get__" = some (some (.builtin "function.__get__")) ∧ PySem.W.takesIn K (.ref (mA "System" "name_of" K)) = some false ∧ PySem.W.fnIn K (mA "System" "name_of" K) = true
  q_Source_Source : PySem.W.kitOne K (.ref (ga K "Source")) (.ref (ga K "Source")) = some true
  q_Entry_Source : PySem.W.kitOne K (.ref (ga K "Entry")) (.ref (ga K "Source")) = some false
  q_WaitSet_Source : PySem.W.kitOne K (.ref (ga K "WaitSet")) (.ref (ga K "Source")) = some false
  q_System_Source : PySem.W.kitOne K (.ref (ga K "System")) (.ref (ga K "Source")) = some false
  q_Source_System : PySem.W.kitOne K (.ref (ga K "Source")) (.ref (ga K "System")) = some false
  q_Entry_System : PySem.W.kitOne K (.ref (ga K "Entry")) (.ref (ga K "System")) = some false
  q_WaitSet_System : PySem.W.kitOne K (.ref (ga K "WaitSet")) (.ref (ga K "System")) = some false
  q_System_System : PySem.W.kitOne K (.ref (ga K "System")) (.ref (ga K "System")) = some true
  q_Source_WaitSet : PySem.W.kitOne K (.ref (ga K "Source")) (.ref (ga K "WaitSet")) = some false
  q_Entry_WaitSet : PySem.W.kitOne K (.ref (ga K "Entry")) (.ref (ga K "WaitSet")) = some false
  q_WaitSet_WaitSet : PySem.W.kitOne K (.ref (ga K "WaitSet")) (.ref (ga K "WaitSet")) = some true
  q_System_WaitSet : PySem.W.kitOne K (.ref (ga K "System")) (.ref (ga K "WaitSet")) = some false
  f_numbers_of : FD K "numbers_of" "numbers_of" s_numbers_of [] [] (gA "numbers_of" K)
  f_holds_both : FD K "holds_both" "holds_both" s_holds_both [] [] (gA "holds_both" K)
  f_is_reached : FD K "is_reached" "is_reached" s_is_reached [] [] (gA "is_reached" K)
  f_is_sealed : FD K "is_sealed" "is_sealed" s_is_sealed [] [] (gA "is_sealed" K)
  f_NoProcess___init__ : FD K "__init__" "NoProcess.__init__" s_NoProcess___init__ [] [] (mA "NoProcess" "__init__" K)
  f_NotOpen___init__ : FD K "__init__" "NotOpen.__init__" s_NotOpen___init__ [] [] (mA "NotOpen" "__init__" K)
  f_NoNumber___init__ : FD K "__init__" "NoNumber.__init__" s_NoNumber___init__ [] [] (mA "NoNumber" "__init__" K)
  f_NotRegistered___init__ : FD K "__init__" "NotRegistered.__init__" s_NotRegistered___init__ [] [] (mA "NotRegistered" "__init__" K)
  f_NoRegistration___init__ : FD K "__init__" "NoRegistration.__init__" s_NoRegistration___init__ [] [] (mA "NoRegistration" "__init__" K)
  f_NotASource___init__ : FD K "__init__" "NotASource.__init__" s_NotASource___init__ [] [] (mA "NotASource" "__init__" K)
  f_NotASet___init__ : FD K "__init__" "NotASet.__init__" s_NotASet___init__ [] [] (mA "NotASet" "__init__" K)
  f_BadCount___init__ : FD K "__init__" "BadCount.__init__" s_BadCount___init__ [] [] (mA "BadCount" "__init__" K)
  f_BadLabel___init__ : FD K "__init__" "BadLabel.__init__" s_BadLabel___init__ [] [] (mA "BadLabel" "__init__" K)
  f_BadWord___init__ : FD K "__init__" "BadWord.__init__" s_BadWord___init__ [] [] (mA "BadWord" "__init__" K)
  f_BadLimit___init__ : FD K "__init__" "BadLimit.__init__" s_BadLimit___init__ [] [] (mA "BadLimit" "__init__" K)
  f_Full___init__ : FD K "__init__" "Full.__init__" s_Full___init__ [] [] (mA "Full" "__init__" K)
  f_NoRoom___init__ : FD K "__init__" "NoRoom.__init__" s_NoRoom___init__ [] [] (mA "NoRoom" "__init__" K)
  f_Registered___init__ : FD K "__init__" "Registered.__init__" s_Registered___init__ [] [] (mA "Registered" "__init__" K)
  f_Taken___init__ : FD K "__init__" "Taken.__init__" s_Taken___init__ [] [] (mA "Taken" "__init__" K)
  f_is_integer : FD K "is_integer" "is_integer" s_is_integer [] [] (gA "is_integer" K)
  f_is_between : FD K "is_between" "is_between" s_is_between [] [] (gA "is_between" K)
  f_Source___init__ : FD K "__init__" "Source.__init__" s_Source___init__ [.int 0, .bl false] [] (mA "Source" "__init__" K)
  f_Source_kind : FD K "kind" "Source.kind" s_Source_kind [] [] (pA "Source" "kind" K)
  f_Source_is_ready : FD K "is_ready" "Source.is_ready" s_Source_is_ready [] [] (pA "Source" "is_ready" K)
  f_Source_taken : FD K "taken" "Source.taken" s_Source_taken [] [] (mA "Source" "taken" K)
  f_Entry___init__ : FD K "__init__" "Entry.__init__" s_Entry___init__ [.bl true] [] (mA "Entry" "__init__" K)
  f_WaitSet___init__ : FD K "__init__" "WaitSet.__init__" s_WaitSet___init__ [] [] (mA "WaitSet" "__init__" K)
  f_WaitSet_kind : FD K "kind" "WaitSet.kind" s_WaitSet_kind [] [] (pA "WaitSet" "kind" K)
  f_WaitSet_keyed : FD K "keyed" "WaitSet.keyed" s_WaitSet_keyed [] [] (mA "WaitSet" "keyed" K)
  f_WaitSet_labelled : FD K "labelled" "WaitSet.labelled" s_WaitSet_labelled [] [] (mA "WaitSet" "labelled" K)
  f_WaitSet_append_pending : FD K "append_pending" "WaitSet.append_pending" s_WaitSet_append_pending [] [] (mA "WaitSet" "append_pending" K)
  f_WaitSet_drop : FD K "drop" "WaitSet.drop" s_WaitSet_drop [] [] (mA "WaitSet" "drop" K)
  f_WaitSet_forget : FD K "forget" "WaitSet.forget" s_WaitSet_forget [] [] (mA "WaitSet" "forget" K)
  f_look_count : FD K "look_count" "look_count" s_look_count [] [] (gA "look_count" K)
  f_look_word : FD K "look_word" "look_word" s_look_word [] [] (gA "look_word" K)
  f_System___init__ : FD K "__init__" "System.__init__" s_System___init__ [] [("processes", .int 4), ("numbers", .int 8)] (mA "System" "__init__" K)
  f_System_limits : FD K "limits" "System.limits" s_System_limits [] [] (pA "System" "limits" K)
  f_System_alive : FD K "alive" "System.alive" s_System_alive [] [] (mA "System" "alive" K)
  f_System_table_of : FD K "table_of" "System.table_of" s_System_table_of [] [] (mA "System" "table_of" K)
  f_System_serial_at : FD K "serial_at" "System.serial_at" s_System_serial_at [] [] (mA "System" "serial_at" K)
  f_System_source_at : FD K "source_at" "System.source_at" s_System_source_at [] [] (mA "System" "source_at" K)
  f_System_set_at : FD K "set_at" "System.set_at" s_System_set_at [] [] (mA "System" "set_at" K)
  f_System_holders : FD K "holders" "System.holders" s_System_holders [] [] (mA "System" "holders" K)
  f_System_name_of : FD K "name_of" "System.name_of" s_System_name_of [] [] (mA "System" "name_of" K)
  f_System_serial_named : FD K "serial_named" "System.serial_named" s_System_serial_named [] [] (mA "System" "serial_named" K)
  f_System_set_serials : FD K "set_serials" "System.set_serials" s_System_set_serials [] [] (mA "System" "set_serials" K)
  f_System_found_entry : FD K "found_entry" "System.found_entry" s_System_found_entry [] [] (mA "System" "found_entry" K)
  f_System_lowest_free : FD K "lowest_free" "System.lowest_free" s_System_lowest_free [] [] (mA "System" "lowest_free" K)
  f_System_placed : FD K "placed" "System.placed" s_System_placed [] [] (mA "System" "placed" K)
  f_System_new_source : FD K "new_source" "System.new_source" s_System_new_source [] [] (mA "System" "new_source" K)
  f_System_new_set : FD K "new_set" "System.new_set" s_System_new_set [] [] (mA "System" "new_set" K)
  f_System_copy : FD K "copy" "System.copy" s_System_copy [.non] [] (mA "System" "copy" K)
  f_System_close : FD K "close" "System.close" s_System_close [] [] (mA "System" "close" K)
  f_System_fork : FD K "fork" "System.fork" s_System_fork [] [] (mA "System" "fork" K)
  f_System_read : FD K "read" "System.read" s_System_read [.non] [] (mA "System" "read" K)
  f_System_add : FD K "add" "System.add" s_System_add [] [("word", .str "level")] (mA "System" "add" K)
  f_System_keyed_entry : FD K "keyed_entry" "System.keyed_entry" s_System_keyed_entry [] [] (mA "System" "keyed_entry" K)
  f_System_remove : FD K "remove" "System.remove" s_System_remove [] [] (mA "System" "remove" K)
  f_System_numbers : FD K "numbers" "System.numbers" s_System_numbers [] [] (mA "System" "numbers" K)
  f_System_same : FD K "same" "System.same" s_System_same [] [] (mA "System" "same" K)
  f_System_units : FD K "units" "System.units" s_System_units [] [] (mA "System" "units" K)
  f_System_name : FD K "name" "System.name" s_System_name [] [] (mA "System" "name" K)
  f_System_registrations : FD K "registrations" "System.registrations" s_System_registrations [] [] (mA "System" "registrations" K)
  f_System___eq__ : FD K "__eq__" "System.__eq__" s_System___eq__ [] [] (mA "System" "__eq__" K)
  f_System___len__ : FD K "__len__" "System.__len__" s_System___len__ [] [] (mA "System" "__len__" K)
  f_System___contains__ : FD K "__contains__" "System.__contains__" s_System___contains__ [] [] (mA "System" "__contains__" K)
  f_System___repr__ : FD K "__repr__" "System.__repr__" s_System___repr__ [] [] (mA "System" "__repr__" K)
  f_picture_of : FD K "picture_of" "picture_of" s_picture_of [] [] (gA "picture_of" K)
  f__law_bag : FD K "_law_bag" "_law_bag" s__law_bag [] [] (gA "_law_bag" K)
  f__law_take : FD K "_law_take" "_law_take" s__law_take [] [] (gA "_law_take" K)
  f__law_of : FD K "_law_of" "_law_of" s__law_of [] [] (gA "_law_of" K)
  f__law_due : FD K "_law_due" "_law_due" s__law_due [] [] (gA "_law_due" K)
  f__law_found : FD K "_law_found" "_law_found" s__law_found [] [] (gA "_law_found" K)
  f__law_right : FD K "_law_right" "_law_right" s__law_right [] [] (gA "_law_right" K)
  f_law : FD K "law" "law" s_law [] [] (gA "law" K)
def fcL : List Fc := [
  .fa (.glo "BadCount"),
  .fa (.glo "BadLabel"),
  .fa (.glo "BadLimit"),
  .fa (.glo "BadWord"),
  .fa (.str "EDGE" "edge"),
  .fa (.glo "Entry"),
  .fa (.glo "Full"),
  .fa (.int "LEAST_NUMBERS" 3),
  .fa (.int "LEAST_PROCESSES" 2),
  .fa (.str "LEVEL" "level"),
  .fa (.int "MOST_COUNT" 1000000),
  .fa (.int "MOST_LABEL" 999999),
  .fa (.glo "NoNumber"),
  .fa (.glo "NoProcess"),
  .fa (.glo "NoRegistration"),
  .fa (.glo "NoRoom"),
  .fa (.glo "NotASet"),
  .fa (.glo "NotASource"),
  .fa (.glo "NotOpen"),
  .fa (.glo "NotRegistered"),
  .fa (.str "ONCE" "once"),
  .fa (.glo "Registered"),
  .fa (.str "SET" "set"),
  .fa (.str "SOURCE" "source"),
  .fa (.glo "Source"),
  .fa (.glo "System"),
  .fa (.glo "Taken"),
  .fa (.glo "WaitSet"),
  .fa (.glo "_law_bag"),
  .fa (.glo "_law_due"),
  .fa (.glo "_law_found"),
  .fa (.glo "_law_of"),
  .fa (.glo "_law_right"),
  .fa (.glo "_law_take"),
  .fa (.free "abs"),
  .fa (.free "any"),
  .fa (.free "bool"),
  .fa (.free "dict"),
  .fa (.free "enumerate"),
  .fa (.glo "holds_both"),
  .fa (.free "int"),
  .fa (.glo "is_between"),
  .fa (.glo "is_integer"),
  .fa (.glo "is_reached"),
  .fa (.glo "is_sealed"),
  .fa (.free "isinstance"),
  .fa (.glo "law"),
  .fa (.free "len"),
  .fa (.free "list"),
  .fa (.glo "look_count"),
  .fa (.glo "look_word"),
  .fa (.free "max"),
  .fa (.free "min"),
  .fa (.glo "numbers_of"),
  .fa (.glo "picture_of"),
  .fa (.free "range"),
  .fa (.free "sorted"),
  .fa (.free "str"),
  .fa (.free "tuple"),
  .exc "NoProcess" [.type "LookupError", .type "Exception", .type "BaseException", .type "object"] "LookupError.__new__" ["caption", "process"],
  .mro "NoProcess",
  .exc "NotOpen" [.type "LookupError", .type "Exception", .type "BaseException", .type "object"] "LookupError.__new__" ["caption", "number"],
  .mro "NotOpen",
  .exc "NoNumber" [.type "LookupError", .type "Exception", .type "BaseException", .type "object"] "LookupError.__new__" ["caption", "number"],
  .mro "NoNumber",
  .exc "NotRegistered" [.type "LookupError", .type "Exception", .type "BaseException", .type "object"] "LookupError.__new__" ["caption", "number"],
  .mro "NotRegistered",
  .exc "NoRegistration" [.type "LookupError", .type "Exception", .type "BaseException", .type "object"] "LookupError.__new__" ["caption", "set_name", "label"],
  .mro "NoRegistration",
  .exc "NotASource" [.type "TypeError", .type "Exception", .type "BaseException", .type "object"] "TypeError.__new__" ["caption", "number"],
  .mro "NotASource",
  .exc "NotASet" [.type "TypeError", .type "Exception", .type "BaseException", .type "object"] "TypeError.__new__" ["caption", "number"],
  .mro "NotASet",
  .exc "BadCount" [.type "ValueError", .type "Exception", .type "BaseException", .type "object"] "ValueError.__new__" ["caption", "count"],
  .mro "BadCount",
  .exc "BadLabel" [.type "ValueError", .type "Exception", .type "BaseException", .type "object"] "ValueError.__new__" ["caption", "label"],
  .mro "BadLabel",
  .exc "BadWord" [.type "ValueError", .type "Exception", .type "BaseException", .type "object"] "ValueError.__new__" ["caption", "word"],
  .mro "BadWord",
  .exc "BadLimit" [.type "ValueError", .type "Exception", .type "BaseException", .type "object"] "ValueError.__new__" ["caption", "limit"],
  .mro "BadLimit",
  .exc "Full" [.type "OverflowError", .type "ArithmeticError", .type "Exception", .type "BaseException", .type "object"] "OverflowError.__new__" ["caption", "process"],
  .mro "Full",
  .exc "NoRoom" [.type "OverflowError", .type "ArithmeticError", .type "Exception", .type "BaseException", .type "object"] "OverflowError.__new__" ["caption"],
  .mro "NoRoom",
  .exc "Registered" [.type "RuntimeError", .type "Exception", .type "BaseException", .type "object"] "RuntimeError.__new__" ["caption", "number"],
  .mro "Registered",
  .exc "Taken" [.type "RuntimeError", .type "Exception", .type "BaseException", .type "object"] "RuntimeError.__new__" ["caption", "label"],
  .mro "Taken",
  .fa (.cls "Source"),
  .ins "Source",
  .mro "Source",
  .fa (.noat "Source" "unread"),
  .fa (.noat "Source" "finished"),
  .fa (.mkr "Source"),
  .fa (.cls "Entry"),
  .ins "Entry",
  .mro "Entry",
  .fa (.noat "Entry" "number"),
  .fa (.noat "Entry" "serial"),
  .fa (.noat "Entry" "label"),
  .fa (.noat "Entry" "word"),
  .fa (.noat "Entry" "armed"),
  .fa (.mkr "Entry"),
  .fa (.cls "WaitSet"),
  .ins "WaitSet",
  .mro "WaitSet",
  .fa (.noat "WaitSet" "entries"),
  .fa (.noat "WaitSet" "row"),
  .fa (.mkr "WaitSet"),
  .fa (.cls "System"),
  .ins "System",
  .mro "System",
  .fa (.noat "System" "process_limit"),
  .fa (.noat "System" "number_limit"),
  .fa (.noat "System" "tables"),
  .fa (.noat "System" "things"),
  .fa (.noat "System" "serials_made"),
  .fa (.mkr "System"),
  .cval "System" "MOST_PROCESSES" (.int 6),
  .cval "System" "MOST_NUMBERS" (.int 8),
  .prop "Source" "kind",
  .prop "Source" "is_ready",
  .fa (.meth "Source" "taken"),
  .prop "WaitSet" "kind",
  .fa (.meth "WaitSet" "keyed"),
  .fa (.meth "WaitSet" "labelled"),
  .fa (.meth "WaitSet" "append_pending"),
  .fa (.meth "WaitSet" "drop"),
  .fa (.meth "WaitSet" "forget"),
  .prop "System" "limits",
  .fa (.meth "System" "alive"),
  .fa (.meth "System" "table_of"),
  .fa (.meth "System" "serial_at"),
  .fa (.meth "System" "source_at"),
  .fa (.meth "System" "set_at"),
  .fa (.meth "System" "holders"),
  .fa (.meth "System" "name_of"),
  .fa (.meth "System" "serial_named"),
  .fa (.meth "System" "set_serials"),
  .fa (.meth "System" "found_entry"),
  .fa (.meth "System" "lowest_free"),
  .fa (.meth "System" "placed"),
  .fa (.meth "System" "new_source"),
  .fa (.meth "System" "new_set"),
  .fa (.meth "System" "copy"),
  .fa (.meth "System" "close"),
  .fa (.meth "System" "fork"),
  .fa (.meth "System" "read"),
  .fa (.meth "System" "add"),
  .fa (.meth "System" "keyed_entry"),
  .fa (.meth "System" "remove"),
  .fa (.meth "System" "numbers"),
  .fa (.meth "System" "same"),
  .fa (.meth "System" "units"),
  .fa (.meth "System" "name"),
  .fa (.meth "System" "registrations"),
  .fa (.meth "System" "__eq__"),
  .fa (.meth "System" "__len__"),
  .fa (.meth "System" "__contains__"),
  .fa (.meth "System" "__repr__"),
  .bmt "System" "name_of",
  .isc "Source" "Source" true,
  .isc "Entry" "Source" false,
  .isc "WaitSet" "Source" false,
  .isc "System" "Source" false,
  .isc "Source" "System" false,
  .isc "Entry" "System" false,
  .isc "WaitSet" "System" false,
  .isc "System" "System" true,
  .isc "Source" "WaitSet" false,
  .isc "Entry" "WaitSet" false,
  .isc "WaitSet" "WaitSet" true,
  .isc "System" "WaitSet" false]
def fwL : List DefW := [
  ⟨(gA "numbers_of"), "numbers_of", "numbers_of", s_numbers_of, [], []⟩,
  ⟨(gA "holds_both"), "holds_both", "holds_both", s_holds_both, [], []⟩,
  ⟨(gA "is_reached"), "is_reached", "is_reached", s_is_reached, [], []⟩,
  ⟨(gA "is_sealed"), "is_sealed", "is_sealed", s_is_sealed, [], []⟩,
  ⟨(mA "NoProcess" "__init__"), "__init__", "NoProcess.__init__", s_NoProcess___init__, [], []⟩,
  ⟨(mA "NotOpen" "__init__"), "__init__", "NotOpen.__init__", s_NotOpen___init__, [], []⟩,
  ⟨(mA "NoNumber" "__init__"), "__init__", "NoNumber.__init__", s_NoNumber___init__, [], []⟩,
  ⟨(mA "NotRegistered" "__init__"), "__init__", "NotRegistered.__init__", s_NotRegistered___init__, [], []⟩,
  ⟨(mA "NoRegistration" "__init__"), "__init__", "NoRegistration.__init__", s_NoRegistration___init__, [], []⟩,
  ⟨(mA "NotASource" "__init__"), "__init__", "NotASource.__init__", s_NotASource___init__, [], []⟩,
  ⟨(mA "NotASet" "__init__"), "__init__", "NotASet.__init__", s_NotASet___init__, [], []⟩,
  ⟨(mA "BadCount" "__init__"), "__init__", "BadCount.__init__", s_BadCount___init__, [], []⟩,
  ⟨(mA "BadLabel" "__init__"), "__init__", "BadLabel.__init__", s_BadLabel___init__, [], []⟩,
  ⟨(mA "BadWord" "__init__"), "__init__", "BadWord.__init__", s_BadWord___init__, [], []⟩,
  ⟨(mA "BadLimit" "__init__"), "__init__", "BadLimit.__init__", s_BadLimit___init__, [], []⟩,
  ⟨(mA "Full" "__init__"), "__init__", "Full.__init__", s_Full___init__, [], []⟩,
  ⟨(mA "NoRoom" "__init__"), "__init__", "NoRoom.__init__", s_NoRoom___init__, [], []⟩,
  ⟨(mA "Registered" "__init__"), "__init__", "Registered.__init__", s_Registered___init__, [], []⟩,
  ⟨(mA "Taken" "__init__"), "__init__", "Taken.__init__", s_Taken___init__, [], []⟩,
  ⟨(gA "is_integer"), "is_integer", "is_integer", s_is_integer, [], []⟩,
  ⟨(gA "is_between"), "is_between", "is_between", s_is_between, [], []⟩,
  ⟨(mA "Source" "__init__"), "__init__", "Source.__init__", s_Source___init__, [.int 0, .bl false], []⟩,
  ⟨(pA "Source" "kind"), "kind", "Source.kind", s_Source_kind, [], []⟩,
  ⟨(pA "Source" "is_ready"), "is_ready", "Source.is_ready", s_Source_is_ready, [], []⟩,
  ⟨(mA "Source" "taken"), "taken", "Source.taken", s_Source_taken, [], []⟩,
  ⟨(mA "Entry" "__init__"), "__init__", "Entry.__init__", s_Entry___init__, [.bl true], []⟩,
  ⟨(mA "WaitSet" "__init__"), "__init__", "WaitSet.__init__", s_WaitSet___init__, [], []⟩,
  ⟨(pA "WaitSet" "kind"), "kind", "WaitSet.kind", s_WaitSet_kind, [], []⟩,
  ⟨(mA "WaitSet" "keyed"), "keyed", "WaitSet.keyed", s_WaitSet_keyed, [], []⟩,
  ⟨(mA "WaitSet" "labelled"), "labelled", "WaitSet.labelled", s_WaitSet_labelled, [], []⟩,
  ⟨(mA "WaitSet" "append_pending"), "append_pending", "WaitSet.append_pending", s_WaitSet_append_pending, [], []⟩,
  ⟨(mA "WaitSet" "drop"), "drop", "WaitSet.drop", s_WaitSet_drop, [], []⟩,
  ⟨(mA "WaitSet" "forget"), "forget", "WaitSet.forget", s_WaitSet_forget, [], []⟩,
  ⟨(gA "look_count"), "look_count", "look_count", s_look_count, [], []⟩,
  ⟨(gA "look_word"), "look_word", "look_word", s_look_word, [], []⟩,
  ⟨(mA "System" "__init__"), "__init__", "System.__init__", s_System___init__, [], [("processes", .int 4), ("numbers", .int 8)]⟩,
  ⟨(pA "System" "limits"), "limits", "System.limits", s_System_limits, [], []⟩,
  ⟨(mA "System" "alive"), "alive", "System.alive", s_System_alive, [], []⟩,
  ⟨(mA "System" "table_of"), "table_of", "System.table_of", s_System_table_of, [], []⟩,
  ⟨(mA "System" "serial_at"), "serial_at", "System.serial_at", s_System_serial_at, [], []⟩,
  ⟨(mA "System" "source_at"), "source_at", "System.source_at", s_System_source_at, [], []⟩,
  ⟨(mA "System" "set_at"), "set_at", "System.set_at", s_System_set_at, [], []⟩,
  ⟨(mA "System" "holders"), "holders", "System.holders", s_System_holders, [], []⟩,
  ⟨(mA "System" "name_of"), "name_of", "System.name_of", s_System_name_of, [], []⟩,
  ⟨(mA "System" "serial_named"), "serial_named", "System.serial_named", s_System_serial_named, [], []⟩,
  ⟨(mA "System" "set_serials"), "set_serials", "System.set_serials", s_System_set_serials, [], []⟩,
  ⟨(mA "System" "found_entry"), "found_entry", "System.found_entry", s_System_found_entry, [], []⟩,
  ⟨(mA "System" "lowest_free"), "lowest_free", "System.lowest_free", s_System_lowest_free, [], []⟩,
  ⟨(mA "System" "placed"), "placed", "System.placed", s_System_placed, [], []⟩,
  ⟨(mA "System" "new_source"), "new_source", "System.new_source", s_System_new_source, [], []⟩,
  ⟨(mA "System" "new_set"), "new_set", "System.new_set", s_System_new_set, [], []⟩,
  ⟨(mA "System" "copy"), "copy", "System.copy", s_System_copy, [.non], []⟩,
  ⟨(mA "System" "close"), "close", "System.close", s_System_close, [], []⟩,
  ⟨(mA "System" "fork"), "fork", "System.fork", s_System_fork, [], []⟩,
  ⟨(mA "System" "read"), "read", "System.read", s_System_read, [.non], []⟩,
  ⟨(mA "System" "add"), "add", "System.add", s_System_add, [], [("word", .str "level")]⟩,
  ⟨(mA "System" "keyed_entry"), "keyed_entry", "System.keyed_entry", s_System_keyed_entry, [], []⟩,
  ⟨(mA "System" "remove"), "remove", "System.remove", s_System_remove, [], []⟩,
  ⟨(mA "System" "numbers"), "numbers", "System.numbers", s_System_numbers, [], []⟩,
  ⟨(mA "System" "same"), "same", "System.same", s_System_same, [], []⟩,
  ⟨(mA "System" "units"), "units", "System.units", s_System_units, [], []⟩,
  ⟨(mA "System" "name"), "name", "System.name", s_System_name, [], []⟩,
  ⟨(mA "System" "registrations"), "registrations", "System.registrations", s_System_registrations, [], []⟩,
  ⟨(mA "System" "__eq__"), "__eq__", "System.__eq__", s_System___eq__, [], []⟩,
  ⟨(mA "System" "__len__"), "__len__", "System.__len__", s_System___len__, [], []⟩,
  ⟨(mA "System" "__contains__"), "__contains__", "System.__contains__", s_System___contains__, [], []⟩,
  ⟨(mA "System" "__repr__"), "__repr__", "System.__repr__", s_System___repr__, [], []⟩,
  ⟨(gA "picture_of"), "picture_of", "picture_of", s_picture_of, [], []⟩,
  ⟨(gA "_law_bag"), "_law_bag", "_law_bag", s__law_bag, [], []⟩,
  ⟨(gA "_law_take"), "_law_take", "_law_take", s__law_take, [], []⟩,
  ⟨(gA "_law_of"), "_law_of", "_law_of", s__law_of, [], []⟩,
  ⟨(gA "_law_due"), "_law_due", "_law_due", s__law_due, [], []⟩,
  ⟨(gA "_law_found"), "_law_found", "_law_found", s__law_found, [], []⟩,
  ⟨(gA "_law_right"), "_law_right", "_law_right", s__law_right, [], []⟩,
  ⟨(gA "law"), "law", "law", s_law, [], []⟩]
def tsL : List Tab := []
def tfL : List Defn := []
theorem tx_of {K : PySem.W.Frag} {mg : Str → Option Value} {w : World} {h : Heap} (X : K.In h) (G : h.Ns mainGlobals mg) (c : SaysW fcL fwL tsL tfL w h K) : Tx K mg where
  g_BadCount := glo_ok X G (c.fact 0 (f := .fa (.glo "BadCount")))
  g_BadLabel := glo_ok X G (c.fact 1 (f := .fa (.glo "BadLabel")))
  g_BadLimit := glo_ok X G (c.fact 2 (f := .fa (.glo "BadLimit")))
  g_BadWord := glo_ok X G (c.fact 3 (f := .fa (.glo "BadWord")))
  t_EDGE := str_ok X G (c.fact 4 (f := .fa (.str "EDGE" "edge")))
  g_Entry := glo_ok X G (c.fact 5 (f := .fa (.glo "Entry")))
  g_Full := glo_ok X G (c.fact 6 (f := .fa (.glo "Full")))
  i_LEAST_NUMBERS := int_ok X G (c.fact 7 (f := .fa (.int "LEAST_NUMBERS" 3)))
  i_LEAST_PROCESSES := int_ok X G (c.fact 8 (f := .fa (.int "LEAST_PROCESSES" 2)))
  t_LEVEL := str_ok X G (c.fact 9 (f := .fa (.str "LEVEL" "level")))
  i_MOST_COUNT := int_ok X G (c.fact 10 (f := .fa (.int "MOST_COUNT" 1000000)))
  i_MOST_LABEL := int_ok X G (c.fact 11 (f := .fa (.int "MOST_LABEL" 999999)))
  g_NoNumber := glo_ok X G (c.fact 12 (f := .fa (.glo "NoNumber")))
  g_NoProcess := glo_ok X G (c.fact 13 (f := .fa (.glo "NoProcess")))
  g_NoRegistration := glo_ok X G (c.fact 14 (f := .fa (.glo "NoRegistration")))
  g_NoRoom := glo_ok X G (c.fact 15 (f := .fa (.glo "NoRoom")))
  g_NotASet := glo_ok X G (c.fact 16 (f := .fa (.glo "NotASet")))
  g_NotASource := glo_ok X G (c.fact 17 (f := .fa (.glo "NotASource")))
  g_NotOpen := glo_ok X G (c.fact 18 (f := .fa (.glo "NotOpen")))
  g_NotRegistered := glo_ok X G (c.fact 19 (f := .fa (.glo "NotRegistered")))
  t_ONCE := str_ok X G (c.fact 20 (f := .fa (.str "ONCE" "once")))
  g_Registered := glo_ok X G (c.fact 21 (f := .fa (.glo "Registered")))
  t_SET := str_ok X G (c.fact 22 (f := .fa (.str "SET" "set")))
  t_SOURCE := str_ok X G (c.fact 23 (f := .fa (.str "SOURCE" "source")))
  g_Source := glo_ok X G (c.fact 24 (f := .fa (.glo "Source")))
  g_System := glo_ok X G (c.fact 25 (f := .fa (.glo "System")))
  g_Taken := glo_ok X G (c.fact 26 (f := .fa (.glo "Taken")))
  g_WaitSet := glo_ok X G (c.fact 27 (f := .fa (.glo "WaitSet")))
  g__law_bag := glo_ok X G (c.fact 28 (f := .fa (.glo "_law_bag")))
  g__law_due := glo_ok X G (c.fact 29 (f := .fa (.glo "_law_due")))
  g__law_found := glo_ok X G (c.fact 30 (f := .fa (.glo "_law_found")))
  g__law_of := glo_ok X G (c.fact 31 (f := .fa (.glo "_law_of")))
  g__law_right := glo_ok X G (c.fact 32 (f := .fa (.glo "_law_right")))
  g__law_take := glo_ok X G (c.fact 33 (f := .fa (.glo "_law_take")))
  free_abs := free_ok X G (c.fact 34 (f := .fa (.free "abs")))
  free_any := free_ok X G (c.fact 35 (f := .fa (.free "any")))
  free_bool := free_ok X G (c.fact 36 (f := .fa (.free "bool")))
  free_dict := free_ok X G (c.fact 37 (f := .fa (.free "dict")))
  free_enumerate := free_ok X G (c.fact 38 (f := .fa (.free "enumerate")))
  g_holds_both := glo_ok X G (c.fact 39 (f := .fa (.glo "holds_both")))
  free_int := free_ok X G (c.fact 40 (f := .fa (.free "int")))
  g_is_between := glo_ok X G (c.fact 41 (f := .fa (.glo "is_between")))
  g_is_integer := glo_ok X G (c.fact 42 (f := .fa (.glo "is_integer")))
  g_is_reached := glo_ok X G (c.fact 43 (f := .fa (.glo "is_reached")))
  g_is_sealed := glo_ok X G (c.fact 44 (f := .fa (.glo "is_sealed")))
  free_isinstance := free_ok X G (c.fact 45 (f := .fa (.free "isinstance")))
  g_law := glo_ok X G (c.fact 46 (f := .fa (.glo "law")))
  free_len := free_ok X G (c.fact 47 (f := .fa (.free "len")))
  free_list := free_ok X G (c.fact 48 (f := .fa (.free "list")))
  g_look_count := glo_ok X G (c.fact 49 (f := .fa (.glo "look_count")))
  g_look_word := glo_ok X G (c.fact 50 (f := .fa (.glo "look_word")))
  free_max := free_ok X G (c.fact 51 (f := .fa (.free "max")))
  free_min := free_ok X G (c.fact 52 (f := .fa (.free "min")))
  g_numbers_of := glo_ok X G (c.fact 53 (f := .fa (.glo "numbers_of")))
  g_picture_of := glo_ok X G (c.fact 54 (f := .fa (.glo "picture_of")))
  free_range := free_ok X G (c.fact 55 (f := .fa (.free "range")))
  free_sorted := free_ok X G (c.fact 56 (f := .fa (.free "sorted")))
  free_str := free_ok X G (c.fact 57 (f := .fa (.free "str")))
  free_tuple := free_ok X G (c.fact 58 (f := .fa (.free "tuple")))
  x_NoProcess := exc_okW PySem.F.excBase_LookupError PySem.F.store_LookupError (c.fact 59 (f := .exc "NoProcess" [.type "LookupError", .type "Exception", .type "BaseException", .type "object"] "LookupError.__new__" ["caption", "process"]))
  o_NoProcess := of_decide_eq_true (c.fact 60 (f := .mro "NoProcess"))
  x_NotOpen := exc_okW PySem.F.excBase_LookupError PySem.F.store_LookupError (c.fact 61 (f := .exc "NotOpen" [.type "LookupError", .type "Exception", .type "BaseException", .type "object"] "LookupError.__new__" ["caption", "number"]))
  o_NotOpen := of_decide_eq_true (c.fact 62 (f := .mro "NotOpen"))
  x_NoNumber := exc_okW PySem.F.excBase_LookupError PySem.F.store_LookupError (c.fact 63 (f := .exc "NoNumber" [.type "LookupError", .type "Exception", .type "BaseException", .type "object"] "LookupError.__new__" ["caption", "number"]))
  o_NoNumber := of_decide_eq_true (c.fact 64 (f := .mro "NoNumber"))
  x_NotRegistered := exc_okW PySem.F.excBase_LookupError PySem.F.store_LookupError (c.fact 65 (f := .exc "NotRegistered" [.type "LookupError", .type "Exception", .type "BaseException", .type "object"] "LookupError.__new__" ["caption", "number"]))
  o_NotRegistered := of_decide_eq_true (c.fact 66 (f := .mro "NotRegistered"))
  x_NoRegistration := exc_okW PySem.F.excBase_LookupError PySem.F.store_LookupError (c.fact 67 (f := .exc "NoRegistration" [.type "LookupError", .type "Exception", .type "BaseException", .type "object"] "LookupError.__new__" ["caption", "set_name", "label"]))
  o_NoRegistration := of_decide_eq_true (c.fact 68 (f := .mro "NoRegistration"))
  x_NotASource := exc_okW PySem.F.excBase_TypeError PySem.F.store_TypeError (c.fact 69 (f := .exc "NotASource" [.type "TypeError", .type "Exception", .type "BaseException", .type "object"] "TypeError.__new__" ["caption", "number"]))
  o_NotASource := of_decide_eq_true (c.fact 70 (f := .mro "NotASource"))
  x_NotASet := exc_okW PySem.F.excBase_TypeError PySem.F.store_TypeError (c.fact 71 (f := .exc "NotASet" [.type "TypeError", .type "Exception", .type "BaseException", .type "object"] "TypeError.__new__" ["caption", "number"]))
  o_NotASet := of_decide_eq_true (c.fact 72 (f := .mro "NotASet"))
  x_BadCount := exc_okW PySem.F.excBase_ValueError PySem.F.store_ValueError (c.fact 73 (f := .exc "BadCount" [.type "ValueError", .type "Exception", .type "BaseException", .type "object"] "ValueError.__new__" ["caption", "count"]))
  o_BadCount := of_decide_eq_true (c.fact 74 (f := .mro "BadCount"))
  x_BadLabel := exc_okW PySem.F.excBase_ValueError PySem.F.store_ValueError (c.fact 75 (f := .exc "BadLabel" [.type "ValueError", .type "Exception", .type "BaseException", .type "object"] "ValueError.__new__" ["caption", "label"]))
  o_BadLabel := of_decide_eq_true (c.fact 76 (f := .mro "BadLabel"))
  x_BadWord := exc_okW PySem.F.excBase_ValueError PySem.F.store_ValueError (c.fact 77 (f := .exc "BadWord" [.type "ValueError", .type "Exception", .type "BaseException", .type "object"] "ValueError.__new__" ["caption", "word"]))
  o_BadWord := of_decide_eq_true (c.fact 78 (f := .mro "BadWord"))
  x_BadLimit := exc_okW PySem.F.excBase_ValueError PySem.F.store_ValueError (c.fact 79 (f := .exc "BadLimit" [.type "ValueError", .type "Exception", .type "BaseException", .type "object"] "ValueError.__new__" ["caption", "limit"]))
  o_BadLimit := of_decide_eq_true (c.fact 80 (f := .mro "BadLimit"))
  x_Full := exc_okW PySem.F.excBase_OverflowError PySem.F.store_OverflowError (c.fact 81 (f := .exc "Full" [.type "OverflowError", .type "ArithmeticError", .type "Exception", .type "BaseException", .type "object"] "OverflowError.__new__" ["caption", "process"]))
  o_Full := of_decide_eq_true (c.fact 82 (f := .mro "Full"))
  x_NoRoom := exc_okW PySem.F.excBase_OverflowError PySem.F.store_OverflowError (c.fact 83 (f := .exc "NoRoom" [.type "OverflowError", .type "ArithmeticError", .type "Exception", .type "BaseException", .type "object"] "OverflowError.__new__" ["caption"]))
  o_NoRoom := of_decide_eq_true (c.fact 84 (f := .mro "NoRoom"))
  x_Registered := exc_okW PySem.F.excBase_RuntimeError PySem.F.store_RuntimeError (c.fact 85 (f := .exc "Registered" [.type "RuntimeError", .type "Exception", .type "BaseException", .type "object"] "RuntimeError.__new__" ["caption", "number"]))
  o_Registered := of_decide_eq_true (c.fact 86 (f := .mro "Registered"))
  x_Taken := exc_okW PySem.F.excBase_RuntimeError PySem.F.store_RuntimeError (c.fact 87 (f := .exc "Taken" [.type "RuntimeError", .type "Exception", .type "BaseException", .type "object"] "RuntimeError.__new__" ["caption", "label"]))
  o_Taken := of_decide_eq_true (c.fact 88 (f := .mro "Taken"))
  c_Source := cls_ok (c.fact 89 (f := .fa (.cls "Source")))
  ci_Source := eqO_ok (c.fact 90 (f := .ins "Source"))
  o_Source := of_decide_eq_true (c.fact 91 (f := .mro "Source"))
  n_Source_unread := noat_ok (c.fact 92 (f := .fa (.noat "Source" "unread")))
  n_Source_finished := noat_ok (c.fact 93 (f := .fa (.noat "Source" "finished")))
  k_Source := mkr_ok (c.fact 94 (f := .fa (.mkr "Source")))
  c_Entry := cls_ok (c.fact 95 (f := .fa (.cls "Entry")))
  ci_Entry := eqO_ok (c.fact 96 (f := .ins "Entry"))
  o_Entry := of_decide_eq_true (c.fact 97 (f := .mro "Entry"))
  n_Entry_number := noat_ok (c.fact 98 (f := .fa (.noat "Entry" "number")))
  n_Entry_serial := noat_ok (c.fact 99 (f := .fa (.noat "Entry" "serial")))
  n_Entry_label := noat_ok (c.fact 100 (f := .fa (.noat "Entry" "label")))
  n_Entry_word := noat_ok (c.fact 101 (f := .fa (.noat "Entry" "word")))
  n_Entry_armed := noat_ok (c.fact 102 (f := .fa (.noat "Entry" "armed")))
  k_Entry := mkr_ok (c.fact 103 (f := .fa (.mkr "Entry")))
  c_WaitSet := cls_ok (c.fact 104 (f := .fa (.cls "WaitSet")))
  ci_WaitSet := eqO_ok (c.fact 105 (f := .ins "WaitSet"))
  o_WaitSet := of_decide_eq_true (c.fact 106 (f := .mro "WaitSet"))
  n_WaitSet_entries := noat_ok (c.fact 107 (f := .fa (.noat "WaitSet" "entries")))
  n_WaitSet_row := noat_ok (c.fact 108 (f := .fa (.noat "WaitSet" "row")))
  k_WaitSet := mkr_ok (c.fact 109 (f := .fa (.mkr "WaitSet")))
  c_System := cls_ok (c.fact 110 (f := .fa (.cls "System")))
  ci_System := eqO_ok (c.fact 111 (f := .ins "System"))
  o_System := of_decide_eq_true (c.fact 112 (f := .mro "System"))
  n_System_process_limit := noat_ok (c.fact 113 (f := .fa (.noat "System" "process_limit")))
  n_System_number_limit := noat_ok (c.fact 114 (f := .fa (.noat "System" "number_limit")))
  n_System_tables := noat_ok (c.fact 115 (f := .fa (.noat "System" "tables")))
  n_System_things := noat_ok (c.fact 116 (f := .fa (.noat "System" "things")))
  n_System_serials_made := noat_ok (c.fact 117 (f := .fa (.noat "System" "serials_made")))
  k_System := mkr_ok (c.fact 118 (f := .fa (.mkr "System")))
  v_System_MOST_PROCESSES := cval_ok (c.fact 119 (f := .cval "System" "MOST_PROCESSES" (.int 6)))
  v_System_MOST_NUMBERS := cval_ok (c.fact 120 (f := .cval "System" "MOST_NUMBERS" (.int 8)))
  p_Source_kind := prop_ok (c.fact 121 (f := .prop "Source" "kind"))
  p_Source_is_ready := prop_ok (c.fact 122 (f := .prop "Source" "is_ready"))
  m_Source_taken := meth_ok (c.fact 123 (f := .fa (.meth "Source" "taken")))
  p_WaitSet_kind := prop_ok (c.fact 124 (f := .prop "WaitSet" "kind"))
  m_WaitSet_keyed := meth_ok (c.fact 125 (f := .fa (.meth "WaitSet" "keyed")))
  m_WaitSet_labelled := meth_ok (c.fact 126 (f := .fa (.meth "WaitSet" "labelled")))
  m_WaitSet_append_pending := meth_ok (c.fact 127 (f := .fa (.meth "WaitSet" "append_pending")))
  m_WaitSet_drop := meth_ok (c.fact 128 (f := .fa (.meth "WaitSet" "drop")))
  m_WaitSet_forget := meth_ok (c.fact 129 (f := .fa (.meth "WaitSet" "forget")))
  p_System_limits := prop_ok (c.fact 130 (f := .prop "System" "limits"))
  m_System_alive := meth_ok (c.fact 131 (f := .fa (.meth "System" "alive")))
  m_System_table_of := meth_ok (c.fact 132 (f := .fa (.meth "System" "table_of")))
  m_System_serial_at := meth_ok (c.fact 133 (f := .fa (.meth "System" "serial_at")))
  m_System_source_at := meth_ok (c.fact 134 (f := .fa (.meth "System" "source_at")))
  m_System_set_at := meth_ok (c.fact 135 (f := .fa (.meth "System" "set_at")))
  m_System_holders := meth_ok (c.fact 136 (f := .fa (.meth "System" "holders")))
  m_System_name_of := meth_ok (c.fact 137 (f := .fa (.meth "System" "name_of")))
  m_System_serial_named := meth_ok (c.fact 138 (f := .fa (.meth "System" "serial_named")))
  m_System_set_serials := meth_ok (c.fact 139 (f := .fa (.meth "System" "set_serials")))
  m_System_found_entry := meth_ok (c.fact 140 (f := .fa (.meth "System" "found_entry")))
  m_System_lowest_free := meth_ok (c.fact 141 (f := .fa (.meth "System" "lowest_free")))
  m_System_placed := meth_ok (c.fact 142 (f := .fa (.meth "System" "placed")))
  m_System_new_source := meth_ok (c.fact 143 (f := .fa (.meth "System" "new_source")))
  m_System_new_set := meth_ok (c.fact 144 (f := .fa (.meth "System" "new_set")))
  m_System_copy := meth_ok (c.fact 145 (f := .fa (.meth "System" "copy")))
  m_System_close := meth_ok (c.fact 146 (f := .fa (.meth "System" "close")))
  m_System_fork := meth_ok (c.fact 147 (f := .fa (.meth "System" "fork")))
  m_System_read := meth_ok (c.fact 148 (f := .fa (.meth "System" "read")))
  m_System_add := meth_ok (c.fact 149 (f := .fa (.meth "System" "add")))
  m_System_keyed_entry := meth_ok (c.fact 150 (f := .fa (.meth "System" "keyed_entry")))
  m_System_remove := meth_ok (c.fact 151 (f := .fa (.meth "System" "remove")))
  m_System_numbers := meth_ok (c.fact 152 (f := .fa (.meth "System" "numbers")))
  m_System_same := meth_ok (c.fact 153 (f := .fa (.meth "System" "same")))
  m_System_units := meth_ok (c.fact 154 (f := .fa (.meth "System" "units")))
  m_System_name := meth_ok (c.fact 155 (f := .fa (.meth "System" "name")))
  m_System_registrations := meth_ok (c.fact 156 (f := .fa (.meth "System" "registrations")))
  m_System___eq__ := meth_ok (c.fact 157 (f := .fa (.meth "System" "__eq__")))
  m_System___len__ := meth_ok (c.fact 158 (f := .fa (.meth "System" "__len__")))
  m_System___contains__ := meth_ok (c.fact 159 (f := .fa (.meth "System" "__contains__")))
  m_System___repr__ := meth_ok (c.fact 160 (f := .fa (.meth "System" "__repr__")))
  bm_System_name_of := bm_ok (c.fact 161 (f := .bmt "System" "name_of"))
  q_Source_Source := of_decide_eq_true (c.fact 162 (f := .isc "Source" "Source" true))
  q_Entry_Source := of_decide_eq_true (c.fact 163 (f := .isc "Entry" "Source" false))
  q_WaitSet_Source := of_decide_eq_true (c.fact 164 (f := .isc "WaitSet" "Source" false))
  q_System_Source := of_decide_eq_true (c.fact 165 (f := .isc "System" "Source" false))
  q_Source_System := of_decide_eq_true (c.fact 166 (f := .isc "Source" "System" false))
  q_Entry_System := of_decide_eq_true (c.fact 167 (f := .isc "Entry" "System" false))
  q_WaitSet_System := of_decide_eq_true (c.fact 168 (f := .isc "WaitSet" "System" false))
  q_System_System := of_decide_eq_true (c.fact 169 (f := .isc "System" "System" true))
  q_Source_WaitSet := of_decide_eq_true (c.fact 170 (f := .isc "Source" "WaitSet" false))
  q_Entry_WaitSet := of_decide_eq_true (c.fact 171 (f := .isc "Entry" "WaitSet" false))
  q_WaitSet_WaitSet := of_decide_eq_true (c.fact 172 (f := .isc "WaitSet" "WaitSet" true))
  q_System_WaitSet := of_decide_eq_true (c.fact 173 (f := .isc "System" "WaitSet" false))
  f_numbers_of := c.def_ 0 (d := ⟨(gA "numbers_of"), "numbers_of", "numbers_of", s_numbers_of, [], []⟩)
  f_holds_both := c.def_ 1 (d := ⟨(gA "holds_both"), "holds_both", "holds_both", s_holds_both, [], []⟩)
  f_is_reached := c.def_ 2 (d := ⟨(gA "is_reached"), "is_reached", "is_reached", s_is_reached, [], []⟩)
  f_is_sealed := c.def_ 3 (d := ⟨(gA "is_sealed"), "is_sealed", "is_sealed", s_is_sealed, [], []⟩)
  f_NoProcess___init__ := c.def_ 4 (d := ⟨(mA "NoProcess" "__init__"), "__init__", "NoProcess.__init__", s_NoProcess___init__, [], []⟩)
  f_NotOpen___init__ := c.def_ 5 (d := ⟨(mA "NotOpen" "__init__"), "__init__", "NotOpen.__init__", s_NotOpen___init__, [], []⟩)
  f_NoNumber___init__ := c.def_ 6 (d := ⟨(mA "NoNumber" "__init__"), "__init__", "NoNumber.__init__", s_NoNumber___init__, [], []⟩)
  f_NotRegistered___init__ := c.def_ 7 (d := ⟨(mA "NotRegistered" "__init__"), "__init__", "NotRegistered.__init__", s_NotRegistered___init__, [], []⟩)
  f_NoRegistration___init__ := c.def_ 8 (d := ⟨(mA "NoRegistration" "__init__"), "__init__", "NoRegistration.__init__", s_NoRegistration___init__, [], []⟩)
  f_NotASource___init__ := c.def_ 9 (d := ⟨(mA "NotASource" "__init__"), "__init__", "NotASource.__init__", s_NotASource___init__, [], []⟩)
  f_NotASet___init__ := c.def_ 10 (d := ⟨(mA "NotASet" "__init__"), "__init__", "NotASet.__init__", s_NotASet___init__, [], []⟩)
  f_BadCount___init__ := c.def_ 11 (d := ⟨(mA "BadCount" "__init__"), "__init__", "BadCount.__init__", s_BadCount___init__, [], []⟩)
  f_BadLabel___init__ := c.def_ 12 (d := ⟨(mA "BadLabel" "__init__"), "__init__", "BadLabel.__init__", s_BadLabel___init__, [], []⟩)
  f_BadWord___init__ := c.def_ 13 (d := ⟨(mA "BadWord" "__init__"), "__init__", "BadWord.__init__", s_BadWord___init__, [], []⟩)
  f_BadLimit___init__ := c.def_ 14 (d := ⟨(mA "BadLimit" "__init__"), "__init__", "BadLimit.__init__", s_BadLimit___init__, [], []⟩)
  f_Full___init__ := c.def_ 15 (d := ⟨(mA "Full" "__init__"), "__init__", "Full.__init__", s_Full___init__, [], []⟩)
  f_NoRoom___init__ := c.def_ 16 (d := ⟨(mA "NoRoom" "__init__"), "__init__", "NoRoom.__init__", s_NoRoom___init__, [], []⟩)
  f_Registered___init__ := c.def_ 17 (d := ⟨(mA "Registered" "__init__"), "__init__", "Registered.__init__", s_Registered___init__, [], []⟩)
  f_Taken___init__ := c.def_ 18 (d := ⟨(mA "Taken" "__init__"), "__init__", "Taken.__init__", s_Taken___init__, [], []⟩)
  f_is_integer := c.def_ 19 (d := ⟨(gA "is_integer"), "is_integer", "is_integer", s_is_integer, [], []⟩)
  f_is_between := c.def_ 20 (d := ⟨(gA "is_between"), "is_between", "is_between", s_is_between, [], []⟩)
  f_Source___init__ := c.def_ 21 (d := ⟨(mA "Source" "__init__"), "__init__", "Source.__init__", s_Source___init__, [.int 0, .bl false], []⟩)
  f_Source_kind := c.def_ 22 (d := ⟨(pA "Source" "kind"), "kind", "Source.kind", s_Source_kind, [], []⟩)
  f_Source_is_ready := c.def_ 23 (d := ⟨(pA "Source" "is_ready"), "is_ready", "Source.is_ready", s_Source_is_ready, [], []⟩)
  f_Source_taken := c.def_ 24 (d := ⟨(mA "Source" "taken"), "taken", "Source.taken", s_Source_taken, [], []⟩)
  f_Entry___init__ := c.def_ 25 (d := ⟨(mA "Entry" "__init__"), "__init__", "Entry.__init__", s_Entry___init__, [.bl true], []⟩)
  f_WaitSet___init__ := c.def_ 26 (d := ⟨(mA "WaitSet" "__init__"), "__init__", "WaitSet.__init__", s_WaitSet___init__, [], []⟩)
  f_WaitSet_kind := c.def_ 27 (d := ⟨(pA "WaitSet" "kind"), "kind", "WaitSet.kind", s_WaitSet_kind, [], []⟩)
  f_WaitSet_keyed := c.def_ 28 (d := ⟨(mA "WaitSet" "keyed"), "keyed", "WaitSet.keyed", s_WaitSet_keyed, [], []⟩)
  f_WaitSet_labelled := c.def_ 29 (d := ⟨(mA "WaitSet" "labelled"), "labelled", "WaitSet.labelled", s_WaitSet_labelled, [], []⟩)
  f_WaitSet_append_pending := c.def_ 30 (d := ⟨(mA "WaitSet" "append_pending"), "append_pending", "WaitSet.append_pending", s_WaitSet_append_pending, [], []⟩)
  f_WaitSet_drop := c.def_ 31 (d := ⟨(mA "WaitSet" "drop"), "drop", "WaitSet.drop", s_WaitSet_drop, [], []⟩)
  f_WaitSet_forget := c.def_ 32 (d := ⟨(mA "WaitSet" "forget"), "forget", "WaitSet.forget", s_WaitSet_forget, [], []⟩)
  f_look_count := c.def_ 33 (d := ⟨(gA "look_count"), "look_count", "look_count", s_look_count, [], []⟩)
  f_look_word := c.def_ 34 (d := ⟨(gA "look_word"), "look_word", "look_word", s_look_word, [], []⟩)
  f_System___init__ := c.def_ 35 (d := ⟨(mA "System" "__init__"), "__init__", "System.__init__", s_System___init__, [], [("processes", .int 4), ("numbers", .int 8)]⟩)
  f_System_limits := c.def_ 36 (d := ⟨(pA "System" "limits"), "limits", "System.limits", s_System_limits, [], []⟩)
  f_System_alive := c.def_ 37 (d := ⟨(mA "System" "alive"), "alive", "System.alive", s_System_alive, [], []⟩)
  f_System_table_of := c.def_ 38 (d := ⟨(mA "System" "table_of"), "table_of", "System.table_of", s_System_table_of, [], []⟩)
  f_System_serial_at := c.def_ 39 (d := ⟨(mA "System" "serial_at"), "serial_at", "System.serial_at", s_System_serial_at, [], []⟩)
  f_System_source_at := c.def_ 40 (d := ⟨(mA "System" "source_at"), "source_at", "System.source_at", s_System_source_at, [], []⟩)
  f_System_set_at := c.def_ 41 (d := ⟨(mA "System" "set_at"), "set_at", "System.set_at", s_System_set_at, [], []⟩)
  f_System_holders := c.def_ 42 (d := ⟨(mA "System" "holders"), "holders", "System.holders", s_System_holders, [], []⟩)
  f_System_name_of := c.def_ 43 (d := ⟨(mA "System" "name_of"), "name_of", "System.name_of", s_System_name_of, [], []⟩)
  f_System_serial_named := c.def_ 44 (d := ⟨(mA "System" "serial_named"), "serial_named", "System.serial_named", s_System_serial_named, [], []⟩)
  f_System_set_serials := c.def_ 45 (d := ⟨(mA "System" "set_serials"), "set_serials", "System.set_serials", s_System_set_serials, [], []⟩)
  f_System_found_entry := c.def_ 46 (d := ⟨(mA "System" "found_entry"), "found_entry", "System.found_entry", s_System_found_entry, [], []⟩)
  f_System_lowest_free := c.def_ 47 (d := ⟨(mA "System" "lowest_free"), "lowest_free", "System.lowest_free", s_System_lowest_free, [], []⟩)
  f_System_placed := c.def_ 48 (d := ⟨(mA "System" "placed"), "placed", "System.placed", s_System_placed, [], []⟩)
  f_System_new_source := c.def_ 49 (d := ⟨(mA "System" "new_source"), "new_source", "System.new_source", s_System_new_source, [], []⟩)
  f_System_new_set := c.def_ 50 (d := ⟨(mA "System" "new_set"), "new_set", "System.new_set", s_System_new_set, [], []⟩)
  f_System_copy := c.def_ 51 (d := ⟨(mA "System" "copy"), "copy", "System.copy", s_System_copy, [.non], []⟩)
  f_System_close := c.def_ 52 (d := ⟨(mA "System" "close"), "close", "System.close", s_System_close, [], []⟩)
  f_System_fork := c.def_ 53 (d := ⟨(mA "System" "fork"), "fork", "System.fork", s_System_fork, [], []⟩)
  f_System_read := c.def_ 54 (d := ⟨(mA "System" "read"), "read", "System.read", s_System_read, [.non], []⟩)
  f_System_add := c.def_ 55 (d := ⟨(mA "System" "add"), "add", "System.add", s_System_add, [], [("word", .str "level")]⟩)
  f_System_keyed_entry := c.def_ 56 (d := ⟨(mA "System" "keyed_entry"), "keyed_entry", "System.keyed_entry", s_System_keyed_entry, [], []⟩)
  f_System_remove := c.def_ 57 (d := ⟨(mA "System" "remove"), "remove", "System.remove", s_System_remove, [], []⟩)
  f_System_numbers := c.def_ 58 (d := ⟨(mA "System" "numbers"), "numbers", "System.numbers", s_System_numbers, [], []⟩)
  f_System_same := c.def_ 59 (d := ⟨(mA "System" "same"), "same", "System.same", s_System_same, [], []⟩)
  f_System_units := c.def_ 60 (d := ⟨(mA "System" "units"), "units", "System.units", s_System_units, [], []⟩)
  f_System_name := c.def_ 61 (d := ⟨(mA "System" "name"), "name", "System.name", s_System_name, [], []⟩)
  f_System_registrations := c.def_ 62 (d := ⟨(mA "System" "registrations"), "registrations", "System.registrations", s_System_registrations, [], []⟩)
  f_System___eq__ := c.def_ 63 (d := ⟨(mA "System" "__eq__"), "__eq__", "System.__eq__", s_System___eq__, [], []⟩)
  f_System___len__ := c.def_ 64 (d := ⟨(mA "System" "__len__"), "__len__", "System.__len__", s_System___len__, [], []⟩)
  f_System___contains__ := c.def_ 65 (d := ⟨(mA "System" "__contains__"), "__contains__", "System.__contains__", s_System___contains__, [], []⟩)
  f_System___repr__ := c.def_ 66 (d := ⟨(mA "System" "__repr__"), "__repr__", "System.__repr__", s_System___repr__, [], []⟩)
  f_picture_of := c.def_ 67 (d := ⟨(gA "picture_of"), "picture_of", "picture_of", s_picture_of, [], []⟩)
  f__law_bag := c.def_ 68 (d := ⟨(gA "_law_bag"), "_law_bag", "_law_bag", s__law_bag, [], []⟩)
  f__law_take := c.def_ 69 (d := ⟨(gA "_law_take"), "_law_take", "_law_take", s__law_take, [], []⟩)
  f__law_of := c.def_ 70 (d := ⟨(gA "_law_of"), "_law_of", "_law_of", s__law_of, [], []⟩)
  f__law_due := c.def_ 71 (d := ⟨(gA "_law_due"), "_law_due", "_law_due", s__law_due, [], []⟩)
  f__law_found := c.def_ 72 (d := ⟨(gA "_law_found"), "_law_found", "_law_found", s__law_found, [], []⟩)
  f__law_right := c.def_ 73 (d := ⟨(gA "_law_right"), "_law_right", "_law_right", s__law_right, [], []⟩)
  f_law := c.def_ 74 (d := ⟨(gA "law"), "law", "law", s_law, [], []⟩)
section
variable {K : PySem.W.Frag} {mg : Str → Option Value}
theorem entT (T : Tx K mg) : EntF K := ⟨T.c_Entry, T.n_Entry_number, T.n_Entry_serial, T.n_Entry_label, T.n_Entry_word, T.n_Entry_armed⟩
theorem ent_of (T : Tx K mg) {α : Type} {es : List α} {x : α} (_ : x ∈ es) (_ : es.length ≤ mostE) : EntF K := entT T
end
/-! ### the head: the top is run -/
abbrev RwH : PySem.W.OpenRow := PySem.W.OpenLaw.row PySem.Challenge.rw_waitnumbers_k60_registrations_left_behin
abbrev hk : PySem.W.Hook := hookW 6 fcL fwL tsL tfL
def obs (s : PySem.W.SharedT) : AlW := obsW 6 fcL fwL tsL tfL (HandSHeadRun.getT s)
theorem obs_eq (s : PySem.W.SharedT) : obs s = hk.obs s.abs := obsW_eq (HandSHeadRun.getT_eq s)
def loose0 : List Str := ["_wall", "__name__", "numbers_of", "holds_both", "is_reached", "is_sealed", "NoProcess", "NotOpen", "NoNumber", "NotRegistered", "NoRegistration", "NotASource", "NotASet", "BadCount", "BadLabel", "BadWord", "BadLimit", "Full", "NoRoom", "Registered", "Taken", "SOURCE", "SET", "LEVEL"]
def loose1 : List Str := ["EDGE", "ONCE", "is_integer", "is_between", "Source", "Entry", "WaitSet", "LEAST_PROCESSES", "LEAST_NUMBERS", "MOST_COUNT", "MOST_LABEL", "look_count", "look_word", "System", "picture_of", "_law_bag", "_law_take", "_law_of", "_law_due", "_law_found", "_law_right"]
def loose : List Str := loose0 ++ loose1
theorem run_look : RunP RwH 20000 (lookP RwH) (fun _ => true) := by
  intro w os
  kernel_rfl
theorem run_seen : RunP RwH 20000 (seenP RwH (PySem.W.view RwH.prog [49]) loose) (fun _ => PySem.W.openGood (PySem.W.view RwH.prog [49]) loose) := by
  intro w os
  kernel_rfl
theorem run_tab : RunP RwH 20000 (tbP 6 tsL tfL) (fun w => (valT [] tsL w, true)) := by
  intro w os
  kernel_rfl
theorem run_fc0 : RunP RwH 20000 (fcP 6 (fcL.take 87)) (fun _ => true) := by
  intro w os
  kernel_rfl
theorem run_fc1 : RunP RwH 20000 (fcP 6 (fcL.drop 87)) (fun _ => true) := by
  intro w os
  kernel_rfl
theorem run_fw0 : RunP RwH 20000 (fwP 6 (fwL.take 38)) (fun _ => (true, ((fwL.take 38)).map DefW.val)) := by
  intro w os
  kernel_rfl
theorem run_fw1 : RunP RwH 20000 (fwP 6 (fwL.drop 38)) (fun _ => (true, ((fwL.drop 38)).map DefW.val)) := by
  intro w os
  kernel_rfl
theorem run (w : World) : HandSHeadRun.RunEq RwH (PySem.W.view RwH.prog [49]) hk obs 20000 loose w := run_of (H := hk) run_look run_seen (ob_of run_tab (fc_cut 87 run_fc0 run_fc1) (fw_cut 38 run_fw0 run_fw1)) w
/-! ### is_integer, is_between -/
/-- an object as a value: None, a truth, a whole number, a text, a list or a tuple that is tracked -/
def Obj' (H : Hp) : V → Prop
  | .non => True
  | .bl _ => True
  | .int _ => True
  | .str _ => True
  | .ref a => (∃ xs, H a = some (.lst xs)) ∨ ∃ xs, H a = some (.tup xs)
  | _ => False
def isI : V → Bool
  | .int _ => true
  | _ => false
def betw (x : V) (lo hi : Int) : Bool := match x with
  | .int i => decide (lo ≤ i) && decide (i ≤ hi)
  | _ => false
theorem Obj'.same {H H' : Hp} (e : Same H H') : ∀ {x : V}, Obj' H x → Obj' H' x
  | .non, h => h
  | .bl _, h => h
  | .int _, h => h
  | .str _, h => h
  | .ref a, h => by
    rcases h with ⟨xs, h⟩ | ⟨xs, h⟩
    · exact .inl ⟨xs, e _ _ h⟩
    · exact .inr ⟨xs, e _ _ h⟩
  | .byt _, h => h.elim
  | .flt _, h => h.elim
  | .ty _, h => h.elim
/-- its type, and what isinstance tells of int, bool -/
theorem obj_ty {K : PySem.W.Frag} {H : Hp} : ∀ {x : V}, Obj' H x → ∃ (t : Value) (b c : Bool), TyX K H x t ∧ PySem.W.kitOne K t (.type "int") = some b ∧ PySem.W.kitOne K t (.type "bool") = some c ∧ (b && !c) = isI x
  | .non, _ => ⟨.type "NoneType", false, false, .base .non, kit_ty (by decide +kernel), kit_ty (by decide +kernel), rfl⟩
  | .bl y, _ => ⟨.type "bool", true, true, .base (.bl y), kit_ty (by decide +kernel), kit_ty (by decide +kernel), rfl⟩
  | .int i, _ => ⟨.type "int", true, false, .base (.int i), kit_ty (by decide +kernel), kit_ty (by decide +kernel), rfl⟩
  | .str y, _ => ⟨.type "str", false, false, .base (.str y), kit_ty (by decide +kernel), kit_ty (by decide +kernel), rfl⟩
  | .ref a, h => by
    rcases h with ⟨xs, h⟩ | ⟨xs, h⟩
    · exact ⟨.type "list", false, false, .base (.lst h), kit_ty (by decide +kernel), kit_ty (by decide +kernel), rfl⟩
    · exact ⟨.type "tuple", false, false, .base (.tup h), kit_ty (by decide +kernel), kit_ty (by decide +kernel), rfl⟩
  | .byt _, h => h.elim
  | .flt _, h => h.elim
  | .ty _, h => h.elim
def sp_is_integer : Sp := fun vs H Q _ => ∃ x, vs = [x] ∧ Obj' H x ∧ Q (.bl (isI x)) H
def sp_is_between : Sp := fun vs H Q _ => ∃ x lo hi, vs = [x, .int lo, .int hi] ∧ Obj' H x ∧ Q (.bl (betw x lo hi)) H
section
variable {P : Program} {w : World} {K : PySem.W.Frag} {mg : Str → Option Value} {base : Heap}
theorem sc_is_integer : FnScope ["thing"] ["thing"] (defScope s_is_integer) := ⟨rfl, rfl, rfl, by decide +kernel, rfl, by decide +kernel, by decide +kernel⟩
theorem ok_is_integer (T : Tx K mg) : FnOk P w K mg base CX0 1 (gA "is_integer" K) (fdAt K (gA "is_integer" K)) ["thing"] sp_is_integer := by
  refine FunD.ok T.f_is_integer sc_is_integer (fun vs H Q E h => ?_) (fun cdv A outer s H vs Q E hr h => ?_)
  · obtain ⟨x, rfl, _⟩ := h
    rfl
  · obtain ⟨x, rfl, hx, q⟩ := h
    refine ⟨_, PSs.nox (pss_one (ps_ret (pe_and (pe_callB call_isi (by rfl) T.free_isinstance (by decide +kernel) (pa_cons (pv 0) (pa_cons (pe_bltn (v := .ty "int") (by rfl) T.free_int (by decide +kernel) rfl) pa_nil)))
      (pe_one (pe_not (pe_callB call_isi (by rfl) T.free_isinstance (by decide +kernel) (pa_cons (pv 0) (pa_cons (pe_bltn (v := .ty "bool") (by rfl) T.free_bool (by decide +kernel) rfl) pa_nil)))))))), ?_⟩
    obtain ⟨t, b, c, ty, h1, h2, e⟩ := obj_ty (K := K) hx
    refine ⟨_, rfl, _, _, t, .type "int", b, rfl, .ty "int", ty, h1, b, rfl, ?_⟩
    cases b with
    | false =>
      refine iteF ?_
      rw [← e] at q
      exact q
    | true =>
      refine iteT ?_
      refine ⟨_, rfl, _, _, t, .type "bool", c, rfl, .ty "bool", ty, h2, c, rfl, ?_⟩
      rw [← e] at q
      exact q
theorem b_is_integer (T : Tx K mg) : Binds K (fdAt K (gA "is_integer" K)) ["thing"] [] := FunD.bindsN T.f_is_integer fun _ _ _ _ _ _ us hl => match us, hl with | [_], _ => rfl
theorem sc_is_between : FnScope ["thing", "low", "high"] ["thing", "low", "high"] (defScope s_is_between) := ⟨rfl, rfl, rfl, by decide +kernel, rfl, by decide +kernel, by decide +kernel⟩
theorem ok_is_between (T : Tx K mg) : FnOk P w K mg base CX0 2 (gA "is_between" K) (fdAt K (gA "is_between" K)) ["thing", "low", "high"] sp_is_between := by
  refine FunD.ok T.f_is_between sc_is_between (fun vs H Q E h => ?_) (fun cdv A outer s H vs Q E hr h => ?_)
  · obtain ⟨x, lo, hi, rfl, _⟩ := h
    rfl
  · obtain ⟨x, lo, hi, rfl, hx, q⟩ := h
    refine ⟨_, PSs.nox (pss_one (ps_ret (pe_and (pe_call (ok_is_integer T) hr (by rfl) T.g_is_integer T.f_is_integer.kp (b_is_integer T) .nil pass0 (pa_cons (pv 0) pa_nil))
      (pe_one (pe_chain op_le op_le (pv 1) (pv 0) (pv 2)))))), ?_⟩
    refine ⟨_, rfl, x, rfl, hx, isI x, rfl, ?_⟩
    cases x with
    | int i =>
      refine iteT ?_
      refine ⟨_, rfl, _, rfl, lo, i, rfl, rfl, _, rfl, ?_⟩
      by_cases c : lo ≤ i
      · rw [decide_eq_true c]
        refine iteT ?_
        refine ⟨_, rfl, i, hi, rfl, rfl, ?_⟩
        have e : betw (.int i) lo hi = decide (i ≤ hi) := by show (decide (lo ≤ i) && decide (i ≤ hi)) = _; rw [decide_eq_true c]; rfl
        rw [e] at q
        exact q
      · rw [decide_eq_false c]
        refine iteF ?_
        have e : betw (.int i) lo hi = false := by show (decide (lo ≤ i) && decide (i ≤ hi)) = _; rw [decide_eq_false c]; rfl
        rw [e] at q
        exact q
    | _ => exact iteF q
theorem b_is_between (T : Tx K mg) : Binds K (fdAt K (gA "is_between" K)) ["thing", "low", "high"] [] := FunD.bindsN T.f_is_between fun _ _ _ _ _ _ us hl => match us, hl with | [_, _, _], _ => rfl
end

/-! ### errors -/
section
variable {P : Program} {w : World} {K : PySem.W.Frag} {mg : Str → Option Value} {base : Heap}
theorem ei_NoProcess (T : Tx K mg) : FnOk P w K mg base CX0 1 (mA "NoProcess" "__init__" K) (fdAt K (mA "NoProcess" "__init__" K)) ["self", "process"] (spErr (ga K "NoProcess") "process" "NoProcess") :=
  err_init T.x_NoProcess T.f_NoProcess___init__ ⟨rfl, rfl, rfl, by decide +kernel, rfl, by decide +kernel, by decide +kernel⟩ rfl ⟨by decide, by decide⟩ ⟨by decide, by decide⟩ (fun _ => ⟨rfl, rfl⟩) ⟨.inl rfl, .inl rfl⟩
theorem eb_NoProcess (T : Tx K mg) : Binds K (fdAt K (mA "NoProcess" "__init__" K)) ["self", "process"] [] := FunD.bindsN T.f_NoProcess___init__ fun _ _ _ _ _ _ us hl => match us, hl with | [_, _], _ => rfl
end
/-- an error: for every heap that extends H, its own dict d new -/
def Raised (K : PySem.W.Frag) (H : Hp) (E : XK) (C : Str) (fs : List (Str × V)) : Prop := ∀ H' d, Same H H' → H d = none → H' d = some (.xd fs) → E (.ref (ga K C)) (some d) H'
theorem Raised.here {K : PySem.W.Frag} {H : Hp} {E : XK} {C : Str} {fs : List (Str × V)} (h : Raised K H E C fs) {d : Addr} (hd : H d = none) : E (.ref (ga K C)) (some d) (upd H d (.xd fs)) :=
  h _ d (fun b o e => by rw [upd_ne (ne_of_none e hd)]; exact e) hd upd_same
theorem Raised.ext {K : PySem.W.Frag} {H H1 : Hp} {E : XK} {C : Str} {fs : List (Str × V)} (e : Same H H1) (h : Raised K H E C fs) : Raised K H1 E C fs := fun H' d s1 hd h2 => h H' d (e.trans s1) (e.free hd) h2
def sp_table_of (K : PySem.W.Frag) : Sp := fun vs H Q E => ∃ (s : Sy) (x : V), vs = [.ref s.p, x] ∧ SyAt K H s ∧ Obj' H x ∧
  ((∃ i t, x = .int i ∧ lk s.tabs i = some t ∧ Q (.ref t.ad) H) ∨ ((∀ i, x = .int i → lk s.tabs i = none) ∧ Raised K H E "NoProcess" [("process", x), ("caption", .str "NoProcess")]))
section
variable {P : Program} {w : World} {K : PySem.W.Frag} {mg : Str → Option Value} {base : Heap}
theorem sc_table_of : FnScope ["self", "process"] ["self", "process"] (defScope s_System_table_of) := ⟨rfl, rfl, rfl, by decide +kernel, rfl, by decide +kernel, by decide +kernel⟩
theorem ok_table_of (T : Tx K mg) : FnOk P w K mg base (L2.CX P w) 3 (mA "System" "table_of" K) (fdAt K (mA "System" "table_of" K)) ["self", "process"] (sp_table_of K) := by
  refine FunD.ok T.f_System_table_of sc_table_of (fun vs H Q E h => ?_) (fun cdv A outer s H vs Q E hr h => ?_)
  · obtain ⟨x, lo, rfl, _⟩ := h
    rfl
  · obtain ⟨S, x, rfl, hS, hx, q⟩ := h
    have hu := hu_of hr
    refine ⟨_, pss_cons (ps_if (PW.pt (pw_or (pt_not (pt_val (pe_call (ok_is_integer T) (hr.mono (by decide)) (by rfl) T.g_is_integer T.f_is_integer.kp (b_is_integer T) .nil pass0 (pa_cons (pv 1) pa_nil)))) (pw_or1 (pt_cmp (pc_dnotin hu (pv 1) (pe_fld (pv 0) rfl))))))
        (pss_one (ps_raise rfl (takes_of rfl rfl rfl rfl) (pmk_err T.x_NoProcess (ei_NoProcess T) hr (eb_NoProcess T) pass0 (by rfl) T.g_NoProcess (pv 1)))) pss_nil)
      (pss_one (ps_ret (pe_dget hu (pe_fld (pv 0) rfl) (pv 1) (fun _ _ => rfl)))), ?_⟩
    refine ⟨_, rfl, x, rfl, hx, isI x, rfl, ?_⟩
    have rs : ∀ (i : Int) {Q' : VK}, Q' (.bl (!(lk S.tabs i).isSome)) H → tDNotIn (tVar 1) (tFld K (tVar 0) "tables") [some (.ref S.p), some (.int i)] H Q' := fun i Q' h => by
      refine ⟨_, rfl, _, rfl, _, _, _, _, _, rfl, hS.ob, T.c_System, T.n_System_tables, rfl, _, _, rfl, DGet.k (k := Sum.inl i) hS.tb, ?_⟩
      rw [val_kv, Option.isSome_map]
      exact h
    have er : ∀ {D : Ends}, Raised K H E "NoProcess" [("process", x), ("caption", .str "NoProcess")] → (∃ v, ([some (V.ref S.p), some x] : L2.St)[1]? = some (some v) ∧ ∀ d, H d = none → E (.ref (ga K "NoProcess")) (some d) (upd H d (.xd [("process", v), ("caption", .str "NoProcess")]))) := fun {D} hq => ⟨x, rfl, fun d hd => hq.here hd⟩
    cases x with
    | int i =>
      refine iteF ?_
      refine rs i ⟨_, rfl, ?_⟩
      rcases q with ⟨j, t, e, hl, q⟩ | ⟨hn, q⟩
      · cases e
        rw [hl]
        refine iteF ?_
        refine ⟨_, rfl, _, _, _, _, _, rfl, hS.ob, T.c_System, T.n_System_tables, rfl, _, rfl, _, _, rfl, ?_, q⟩
        have e := DGet.k (k := Sum.inl i) hS.tb
        rw [val_kv, hl] at e
        exact e
      · rw [hn i rfl]
        exact iteT (er (D := { nx := fun _ _ => True, rt := fun _ _ => True }) q)
    | _ =>
      refine iteT ?_
      rcases q with ⟨j, t, e, _⟩ | ⟨hn, q⟩
      · cases e
      · exact er (D := { nx := fun _ _ => True, rt := fun _ _ => True }) q
end

/-! ### a system is made -/
section
variable {P : Program} {w : World} {K : PySem.W.Frag} {mg : Str → Option Value} {base : Heap}
theorem ei_BadLimit (T : Tx K mg) : FnOk P w K mg base CX0 1 (mA "BadLimit" "__init__" K) (fdAt K (mA "BadLimit" "__init__" K)) ["self", "limit"] (spErr (ga K "BadLimit") "limit" "BadLimit") :=
  err_init T.x_BadLimit T.f_BadLimit___init__ ⟨rfl, rfl, rfl, by decide +kernel, rfl, by decide +kernel, by decide +kernel⟩ rfl ⟨by decide, by decide⟩ ⟨by decide, by decide⟩ (fun _ => ⟨rfl, rfl⟩) ⟨.inl rfl, .inl rfl⟩
theorem eb_BadLimit (T : Tx K mg) : Binds K (fdAt K (mA "BadLimit" "__init__" K)) ["self", "limit"] [] := FunD.bindsN T.f_BadLimit___init__ fun _ _ _ _ _ _ us hl => match us, hl with | [_, _], _ => rfl
end
/-- a new system -/
def newSv (P N : Int) : Sv := ⟨P, N, 0, [(0, [])], []⟩
def sp_Sys_init (K : PySem.W.Frag) : Sp := fun vs H Q E => ∃ (p dx : Addr) (x y : V), vs = [.ref p, x, y] ∧ H p = some (.ins (ga K "System") dx []) ∧ Obj' H x ∧ Obj' H y ∧
  (betw x 2 6 = false → Raised K H E "BadLimit" [("limit", x), ("caption", .str "BadLimit")]) ∧
  (betw x 2 6 = true → betw y 3 8 = false → Raised K H E "BadLimit" [("limit", y), ("caption", .str "BadLimit")]) ∧
  (∀ a b, x = .int a → y = .int b → 2 ≤ a → a ≤ 6 → 3 ≤ b → b ≤ 8 → ∀ H' s, SyAt K H' s → s.p = p → s.v = newSv a b → (∀ c o, H c = some o → c ≠ p → H' c = some o) → (∀ c ∈ s.foot, c = p ∨ H c = none) → Q .non H')
section
variable {P : Program} {w : World} {K : PySem.W.Frag} {mg : Str → Option Value} {base : Heap}
theorem sc_Sys_init : FnScope ["self", "processes", "numbers"] ["self", "processes", "numbers"] (defScope s_System___init__) := ⟨rfl, rfl, rfl, by decide +kernel, rfl, by decide +kernel, by decide +kernel⟩
theorem betw_int {x : V} {lo hi : Int} (h : betw x lo hi = true) : ∃ i, x = .int i ∧ lo ≤ i ∧ i ≤ hi := by
  cases x with
  | int i =>
    obtain ⟨h1, h2⟩ := ba (show (decide (lo ≤ i) && decide (i ≤ hi)) = true from h)
    exact ⟨i, rfl, of_decide_eq_true h1, of_decide_eq_true h2⟩
  | _ => cases h
theorem ok_Sys_init (T : Tx K mg) : FnOk P w K mg base (L2.CX P w) 4 (mA "System" "__init__" K) (fdAt K (mA "System" "__init__" K)) ["self", "processes", "numbers"] (sp_Sys_init K) := by
  refine FunD.ok T.f_System___init__ sc_Sys_init (fun vs H Q E h => ?_) (fun cdv A outer s H vs Q E hr h => ?_)
  · obtain ⟨p, dx, x, y, rfl, _⟩ := h
    rfl
  · obtain ⟨p, dx, x, y, rfl, hp, hx, hy, q1, q2, q3⟩ := h
    have hu := hu_of hr
    obtain ⟨t1, i1⟩ := T.i_LEAST_PROCESSES
    obtain ⟨t2, i2⟩ := T.i_LEAST_NUMBERS
    obtain ⟨rd, u1, v1⟩ := T.v_System_MOST_PROCESSES
    obtain ⟨_, u2, v2⟩ := T.v_System_MOST_NUMBERS
    refine ⟨_, pss_cons (ps_if (pt_not (pt_val (pe_call (ok_is_between T) (hr.mono (by decide)) (by rfl) T.g_is_between T.f_is_between.kp (b_is_between T) .nil pass0 (pa_cons (pv 1) (pa_cons (pe_glob (v := .int 2) (by rfl) i1 ⟨_, rfl⟩) (pa_cons (ClX.pe_cval (pe_glob (v := .ref (ga K "System")) (by rfl) T.g_System rfl)) pa_nil))))))
        (pss_one (ps_raise rfl (takes_of rfl rfl rfl rfl) (pmk_err T.x_BadLimit (ei_BadLimit T) (hr.mono (by decide)) (eb_BadLimit T) pass0 (by rfl) T.g_BadLimit (pv 1)))) pss_nil)
      (pss_cons (ps_if (pt_not (pt_val (pe_call (ok_is_between T) (hr.mono (by decide)) (by rfl) T.g_is_between T.f_is_between.kp (b_is_between T) .nil pass0 (pa_cons (pv 2) (pa_cons (pe_glob (v := .int 3) (by rfl) i2 ⟨_, rfl⟩) (pa_cons (ClX.pe_cval (pe_glob (v := .ref (ga K "System")) (by rfl) T.g_System rfl)) pa_nil))))))
        (pss_one (ps_raise rfl (takes_of rfl rfl rfl rfl) (pmk_err T.x_BadLimit (ei_BadLimit T) (hr.mono (by decide)) (eb_BadLimit T) pass0 (by rfl) T.g_BadLimit (pv 2)))) pss_nil)
      (pss_cons (ps_fld (pv 0) (pv 1) rfl)
      (pss_cons (ps_fld (pv 0) (pv 2) rfl)
      (pss_cons (ps_fld (pv 0) (pe_disp (pps_cons pe_int pe_dnewK pps_nil) (by rfl) (by rfl) (fun z => by cases z) (by decide)) rfl)
      (pss_cons (ps_fld (pv 0) pe_dnewK rfl)
      (pss_one (ps_fld (pv 0) pe_int rfl))))))), ?_⟩
    refine ⟨_, rfl, _, _, _, _, rfl, rd, v1, x, 2, 6, rfl, hx, _, rfl, ?_⟩
    cases c1 : betw x 2 6 with
    | false => exact iteT ⟨_, rfl, fun d hd => (q1 c1).here hd⟩
    | true =>
      refine iteF ?_
      refine ⟨_, rfl, _, _, _, _, rfl, rd, v2, y, 3, 8, rfl, hy, _, rfl, ?_⟩
      cases c2 : betw y 3 8 with
      | false => exact iteT ⟨_, rfl, fun d hd => (q2 c1 c2).here hd⟩
      | true =>
        refine iteF ?_
        obtain ⟨a, rfl, a1, a2⟩ := betw_int c1
        obtain ⟨b, rfl, b1, b2⟩ := betw_int c2
        refine ⟨_, rfl, _, rfl, p, _, dx, _, rfl, hp, T.c_System, T.n_System_process_limit, (by show 0 < 1000; decide), ?_⟩
        refine ⟨_, rfl, _, rfl, p, _, dx, _, rfl, upd_same, T.c_System, T.n_System_number_limit, (by show 1 < 1000; decide), ?_⟩
        intro tT nT tt ntt
        have nTp : tT ≠ p := fun z => by rw [z, upd_same] at nT; cases nT
        have e1 : ∀ {c : Addr}, c ≠ p → upd (upd H p (.ins (ga K "System") dx (putF "process_limit" (.int a) []))) p (.ins (ga K "System") dx (putF "number_limit" (.int b) (putF "process_limit" (.int a) []))) c = H c := fun hc => by rw [upd_ne hc, upd_ne hc]
        have ntT : tt ≠ tT := fun z => by rw [z, upd_same] at ntt; cases ntt
        have ntp : tt ≠ p := fun z => by rw [z, upd_ne (Ne.symm nTp), upd_same] at ntt; cases ntt
        refine ⟨by rw [upd_ne (Ne.symm ntT), upd_same], [(Sum.inl 0, .ref tt)], rfl, (by show 1 ≤ 15; decide), ?_⟩
        refine ⟨_, rfl, p, _, dx, putF "number_limit" (.int b) (putF "process_limit" (.int a) []), rfl, by rw [upd_ne (Ne.symm nTp), upd_ne (Ne.symm ntp), upd_ne (Ne.symm nTp), upd_same], T.c_System, T.n_System_tables, (by show 2 < 1000; decide), ?_⟩
        intro tG nG
        have nGp : tG ≠ p := fun z => by rw [z, upd_same] at nG; cases nG
        rw [upd_ne nGp] at nG
        have nGT : tG ≠ tT := fun z => by rw [z, upd_same] at nG; cases nG
        rw [upd_ne nGT] at nG
        have nGt : tG ≠ tt := fun z => by rw [z, upd_same] at nG; cases nG
        rw [upd_ne nGt, upd_ne nGT, e1 nGp] at nG
        refine ⟨_, rfl, p, _, dx, _, rfl, by rw [upd_ne (Ne.symm nGp), upd_same], T.c_System, T.n_System_things, (by show 3 < 1000; decide), ?_⟩
        refine ⟨_, rfl, p, _, dx, _, rfl, upd_same, T.c_System, T.n_System_serials_made, (by show 4 < 1000; decide), ?_⟩
        have hT0 : H tT = none := by rw [e1 nTp] at nT; exact nT
        have ht0 : H tt = none := by rw [upd_ne ntT, e1 ntp] at ntt; exact ntt
        refine q3 a b rfl rfl a1 a2 b1 b2 _ ⟨p, dx, tT, tG, a, b, 0, [(0, ⟨tt, []⟩)], []⟩ ⟨upd_same, ?_, ?_, ?_, fun t h => (nomatch h), ?_, List.nodup_nil, List.nodup_nil, List.nodup_nil⟩ rfl rfl (fun c o e hc => ?_) fun c hc => ?_
        · show _ = some (HO.dK [(Sum.inl 0, .ref tt)])
          rw [upd_ne nTp, upd_ne nTp, upd_ne (Ne.symm nGT), upd_ne nTp, upd_same]
          rfl
        · intro t ht
          cases List.mem_singleton.mp ht
          show _ = some (HO.dK [])
          rw [upd_ne ntp, upd_ne ntp, upd_ne (Ne.symm nGt), upd_ne ntp, upd_ne ntT, upd_same]
        · show _ = some (HO.dK [])
          rw [upd_ne nGp, upd_ne nGp, upd_same]
        · show ([tT, tG, tt] : List Addr).Nodup
          simp only [List.nodup_cons, List.mem_cons, List.not_mem_nil, or_false, not_or, List.nodup_nil, and_true]
          exact ⟨⟨Ne.symm nGT, Ne.symm ntT⟩, nGt, not_false⟩
        · have c1 : c ≠ tT := ne_of_none e hT0
          have c2 : c ≠ tt := ne_of_none e ht0
          have c3 : c ≠ tG := ne_of_none e nG
          rw [upd_ne hc, upd_ne hc, upd_ne c3, upd_ne hc, upd_ne c1, upd_ne c2, upd_ne c1, e1 hc]
          exact e
        · have h2 : c = p ∨ c = tT ∨ c = tG ∨ c = tt := by
            have z : c ∈ ([p, tT, tG, tt] : List Addr) := hc
            simpa using z
          rcases h2 with z | z | z | z
          · exact .inl z
          · exact .inr (z ▸ hT0)
          · exact .inr (z ▸ nG)
          · exact .inr (z ▸ ht0)
end

/-! ### looks at the limits and the processes -/
/-- a new list of data; a new tuple -/
structure NewL (K : PySem.W.Frag) (H H' : Hp) (p : Addr) (vs : List V) (ds : List PyData) : Prop where
  same : Same H H'
  new : H p = none
  at_ : H' p = some (.lst vs)
  dat : DpAll K H' vs ds
theorem NewL.dp {K : PySem.W.Frag} {H H' : Hp} {p : Addr} {vs : List V} {ds : List PyData} (n : NewL K H H' p vs ds) : Dp K H' (.ref p) (.list ds) := .lst (SqL.of n.at_) n.dat
theorem new_same {H : Hp} {p : Addr} {o : HO} (h : H p = none) : Same H (upd H p o) := fun b u e => by rw [upd_ne (ne_of_none e h)]; exact e
def sp_alive (K : PySem.W.Frag) : Sp := fun vs H Q _ => ∃ s : Sy, vs = [.ref s.p] ∧ SyAt K H s ∧ s.tabs.length < 64 ∧ ∀ p, H p = none → Q (.ref p) (upd H p (.lst ((srtI (s.tabs.map (·.1))).map V.int)))
section
variable {P : Program} {w : World} {K : PySem.W.Frag} {mg : Str → Option Value} {base : Heap}
theorem kv_keys {α : Type} (g : α → V) (l : List (Int × α)) : (kv g l).map (·.1) = (l.map (·.1)).map Sum.inl := by
  unfold kv
  rw [List.map_map, List.map_map]
  rfl
theorem sc_alive : FnScope ["self"] ["self"] (defScope s_System_alive) := ⟨rfl, rfl, rfl, by decide +kernel, rfl, by decide +kernel, by decide +kernel⟩
theorem ok_alive (T : Tx K mg) : FnOk P w K mg base CX0 1 (mA "System" "alive" K) (fdAt K (mA "System" "alive" K)) ["self"] (sp_alive K) := by
  refine FunD.ok T.f_System_alive sc_alive (fun vs H Q E h => ?_) (fun cdv A outer s H vs Q E hr h => ?_)
  · obtain ⟨x, rfl, _⟩ := h
    rfl
  · obtain ⟨S, rfl, hS, h64, q⟩ := h
    refine ⟨_, PSs.nox (pss_one (ps_ret (pe_callB (call_sortedDI rfl) (by rfl) T.free_sorted (by decide +kernel) (pa_cons (pe_fld (pv 0) rfl) pa_nil)))), ?_⟩
    refine ⟨_, rfl, _, _, _, _, _, rfl, hS.ob, T.c_System, T.n_System_tables, rfl, _, _, S.tabs.map (·.1), rfl, .inl hS.tb, kv_keys _ _, by rw [List.length_map]; exact h64, fun ys p h1 h2 np => ?_⟩
    rw [srtI_eq h1 h2]
    exact q p np
theorem b_alive (T : Tx K mg) : Binds K (fdAt K (mA "System" "alive" K)) ["self"] [] := FunD.bindsN T.f_System_alive fun _ _ _ _ _ _ us hl => match us, hl with | [_], _ => rfl
/-! ### new things -/
theorem sc_Src_init : FnScope ["self", "unread", "finished"] ["self", "unread", "finished"] (defScope s_Source___init__) := ⟨rfl, rfl, rfl, by decide +kernel, rfl, by decide +kernel, by decide +kernel⟩
theorem sc_Set_init : FnScope ["self"] ["self"] (defScope s_WaitSet___init__) := ⟨rfl, rfl, rfl, by decide +kernel, rfl, by decide +kernel, by decide +kernel⟩
end
def sp_Src_init (K : PySem.W.Frag) : Sp := fun vs H Q _ => ∃ (p dx : Addr) (u : Int) (f : Bool), vs = [.ref p, .int u, .bl f] ∧ H p = some (.ins (ga K "Source") dx []) ∧ Q .non (upd H p (.ins (ga K "Source") dx (srcF u f)))
def sp_Set_init (K : PySem.W.Frag) : Sp := fun vs H Q _ => ∃ (p dx : Addr), vs = [.ref p] ∧ H p = some (.ins (ga K "WaitSet") dx []) ∧ ∀ L R, H L = none → H R = none → L ≠ R → ∀ H', (∀ b o, H b = some o → b ≠ p → H' b = some o) → H' p = some (.ins (ga K "WaitSet") dx (setF L R)) → H' L = some (.lst []) → H' R = some (.lst []) → Q .non H'
section
variable {P : Program} {w : World} {K : PySem.W.Frag} {mg : Str → Option Value} {base : Heap}
theorem ok_Src_init (T : Tx K mg) : FnOk P w K mg base CX0 1 (mA "Source" "__init__" K) (fdAt K (mA "Source" "__init__" K)) ["self", "unread", "finished"] (sp_Src_init K) := by
  refine FunD.ok T.f_Source___init__ sc_Src_init (fun vs H Q E h => ?_) (fun cdv A outer s H vs Q E hr h => ?_)
  · obtain ⟨p, dx, u, f, rfl, _⟩ := h
    rfl
  · obtain ⟨p, dx, u, f, rfl, hp, q⟩ := h
    refine ⟨_, PSs.nox (pss_cons (ps_fld (pv 0) (pv 1) rfl) (pss_one (ps_fld (pv 0) (pv 2) rfl))), ?_⟩
    refine ⟨_, rfl, _, rfl, p, _, dx, _, rfl, hp, T.c_Source, T.n_Source_unread, (by show 0 < 1000; decide), _, rfl, _, rfl, p, _, dx, _, rfl, upd_same, T.c_Source, T.n_Source_finished, (by show 1 < 1000; decide), ?_⟩
    rw [upd_upd]
    exact q
theorem b_Src0 (T : Tx K mg) : ∃ ds, Vals [.int 0, .bl false] ds ∧ Binds K (fdAt K (mA "Source" "__init__" K)) ["self", "unread", "finished"] ds := by
  have z := FunD.binds1 (ps := ["self", "unread", "finished"]) T.f_Source___init__ 1 0 (fun z => nomatch z) rfl fun T kV doc pm an cdv ct us its l1 l2 => match us, its, l1, l2 with | [_], [_, _], _, _ => ⟨_, rfl, rfl⟩
  exact z
theorem ok_Set_init (T : Tx K mg) : FnOk P w K mg base CX0 1 (mA "WaitSet" "__init__" K) (fdAt K (mA "WaitSet" "__init__" K)) ["self"] (sp_Set_init K) := by
  refine FunD.ok T.f_WaitSet___init__ sc_Set_init (fun vs H Q E h => ?_) (fun cdv A outer s H vs Q E hr h => ?_)
  · obtain ⟨p, dx, rfl, _⟩ := h
    rfl
  · obtain ⟨p, dx, rfl, hp, q⟩ := h
    refine ⟨_, PSs.nox (pss_cons (ps_fld (pv 0) (pe_lst pa_nil) rfl) (pss_one (ps_fld (pv 0) (pe_lst pa_nil) rfl))), ?_⟩
    refine ⟨by decide, fun L nL => ?_⟩
    have pL : p ≠ L := ne_of_none hp nL
    refine ⟨_, rfl, p, _, dx, _, rfl, by rw [upd_ne pL]; exact hp, T.c_WaitSet, T.n_WaitSet_entries, (by show 0 < 1000; decide), (by decide), fun R nR => ?_⟩
    have pR : p ≠ R := fun z => by rw [← z, upd_same] at nR; cases nR
    rw [upd_ne (Ne.symm pR)] at nR
    have LR : L ≠ R := fun z => by rw [← z, upd_same] at nR; cases nR
    rw [upd_ne (Ne.symm LR)] at nR
    refine ⟨_, rfl, p, _, dx, _, rfl, by rw [upd_ne pR, upd_same], T.c_WaitSet, T.n_WaitSet_row, (by show 1 < 1000; decide), ?_⟩
    refine q L R nL nR LR _ (fun b o e hb => ?_) upd_same ?_ ?_
    · rw [upd_ne hb, upd_ne (ne_of_none e nR), upd_ne hb, upd_ne (ne_of_none e nL)]
      exact e
    · rw [upd_ne (Ne.symm pL), upd_ne LR, upd_ne (Ne.symm pL), upd_same]
    · rw [upd_ne (Ne.symm pR), upd_same]
theorem b_Set0 (T : Tx K mg) : Binds K (fdAt K (mA "WaitSet" "__init__" K)) ["self"] [] := FunD.bindsN T.f_WaitSet___init__ fun _ _ _ _ _ _ us hl => match us, hl with | [_], _ => rfl
end

/-! ### the lowest free number -/
section
variable {P : Program} {w : World} {K : PySem.W.Frag} {mg : Str → Option Value} {base : Heap}
theorem ei_Full (T : Tx K mg) : FnOk P w K mg base CX0 1 (mA "Full" "__init__" K) (fdAt K (mA "Full" "__init__" K)) ["self", "process"] (spErr (ga K "Full") "process" "Full") :=
  err_init T.x_Full T.f_Full___init__ ⟨rfl, rfl, rfl, by decide +kernel, rfl, by decide +kernel, by decide +kernel⟩ rfl ⟨by decide, by decide⟩ ⟨by decide, by decide⟩ (fun _ => ⟨rfl, rfl⟩) ⟨.inl rfl, .inl rfl⟩
theorem eb_Full (T : Tx K mg) : Binds K (fdAt K (mA "Full" "__init__" K)) ["self", "process"] [] := FunD.bindsN T.f_Full___init__ fun _ _ _ _ _ _ us hl => match us, hl with | [_, _], _ => rfl
theorem b_table_of (T : Tx K mg) : Binds K (fdAt K (mA "System" "table_of" K)) ["self", "process"] [] := FunD.bindsN T.f_System_table_of fun _ _ _ _ _ _ us hl => match us, hl with | [_, _], _ => rfl
end
theorem lowFree_some {used : List Int} {n : Int} {k : Nat} (hk : (k : Int) < n) (hb : ∀ j : Nat, j < k → (j : Int) ∈ used) (hn : (k : Int) ∉ used) : lowFree used n = some (k : Int) := by
  unfold lowFree
  rw [List.find?_map]
  have e : (List.range n.toNat).find? ((fun k : Int => decide (k ∉ used)) ∘ fun (k : Nat) => (k : Int)) = some k := by
    rw [List.find?_range_eq_some]
    refine ⟨decide_eq_true hn, List.mem_range.mpr (by omega), fun j hj => ?_⟩
    show (!decide ((j : Int) ∉ used)) = true
    rw [decide_eq_false (fun z => z (hb j hj))]
    rfl
  rw [e]
  rfl
theorem lowFree_none {used : List Int} {n : Int} (hb : ∀ j : Nat, (j : Int) < n → (j : Int) ∈ used) : lowFree used n = none := by
  unfold lowFree
  rw [List.find?_eq_none]
  intro x hx
  obtain ⟨j, hj, rfl⟩ := List.mem_map.mp hx
  have := List.mem_range.mp hj
  rw [decide_eq_false (fun z => z (hb j (by omega)))]
  exact Bool.false_ne_true
theorem lowFree_spec {used : List Int} {n k : Int} (h : lowFree used n = some k) : 0 ≤ k ∧ k < n ∧ k ∉ used := by
  unfold lowFree at h
  have h1 := List.find?_some h
  obtain ⟨j, hj, rfl⟩ := List.mem_map.mp (List.mem_of_find?_eq_some h)
  have := List.mem_range.mp hj
  exact ⟨by omega, by omega, of_decide_eq_true h1⟩
def errP (x : V) : List (Str × V) := [("process", x), ("caption", .str "NoProcess")]
def errF (x : V) : List (Str × V) := [("process", x), ("caption", .str "Full")]
/-- the first argument x: no alive process, or the process i with the table t -/
def ByProc (K : PySem.W.Frag) (s : Sy) (x : V) (H : Hp) (E : XK) (R : Int → Tb → Prop) : Prop := (∃ i t, x = .int i ∧ lk s.tabs i = some t ∧ R i t) ∨ ((∀ i, x = .int i → lk s.tabs i = none) ∧ Raised K H E "NoProcess" (errP x))
def sp_lowest_free (K : PySem.W.Frag) : Sp := fun vs H Q E => ∃ (s : Sy) (x : V), vs = [.ref s.p, x] ∧ SyAt K H s ∧ Obj' H x ∧ WF s.v ∧ ByProc K s x H E fun i t => (∀ n, lowFree (t.rows.map (·.1)) s.N = some n → Q (.int n) H) ∧ (lowFree (t.rows.map (·.1)) s.N = none → Raised K H E "Full" (errF x))
section
variable {P : Program} {w : World} {K : PySem.W.Frag} {mg : Str → Option Value} {base : Heap}
theorem sc_lowest_free : FnScope ["self", "process", "table", "number"] ["self", "process"] (defScope s_System_lowest_free) := ⟨rfl, rfl, rfl, by decide +kernel, rfl, by decide +kernel, by decide +kernel⟩
theorem ok_lowest_free (T : Tx K mg) : FnOk P w K mg base (L2.CX P w) 4 (mA "System" "lowest_free" K) (fdAt K (mA "System" "lowest_free" K)) ["self", "process"] (sp_lowest_free K) := by
  refine FunD.ok T.f_System_lowest_free sc_lowest_free (fun vs H Q E h => ?_) (fun cdv A outer s H vs Q E hr h => ?_)
  · obtain ⟨x, lo, rfl, _⟩ := h
    rfl
  · obtain ⟨S, x, rfl, hS, hx, hw, q⟩ := h
    have hu := hu_of hr
    refine ⟨_, pss_cons (ps_set (i := 2) sc_lowest_free.nd rfl (Or.inl rfl) (pe_meth (pv 0) T.c_System T.m_System_table_of (ok_table_of T) hr (b_table_of T) .nil (passes_call (takes_of rfl rfl rfl rfl) (fun _ _ _ _ h => h)) (pa_cons (pv 1) pa_nil)))
      (pss_cons (ps_for (passes_of rfl) rfl (pi_range1 (by rfl) T.free_range (pa_cons (pe_fld (pv 0) rfl) pa_nil)) (pg_name (i := 3) sc_lowest_free.nd rfl (Or.inl rfl))
        (pss_one (ps_if (pt_cmp (pc_dnotin hu (pv 3) (pv 2))) (pss_one (ps_ret (pv 3))) pss_nil)))
      (pss_one (ps_raise rfl (takes_of rfl rfl rfl rfl) (pmk_err T.x_Full (ei_Full T) (hr.mono (by decide)) (eb_Full T) pass0 (by rfl) T.g_Full (pv 1))))), ?_⟩
    refine ⟨_, rfl, S.p, S.dx, _, rfl, hS.ob, rfl, _, rfl, S, x, rfl, hS, hx, ?_⟩
    rcases q with ⟨i, t, rfl, hl, q1, q2⟩ | ⟨hn, q⟩
    · refine .inl ⟨i, t, rfl, hl, ?_⟩
      have ht := hS.tt _ (lk_mem hl)
      have hN := hw.n
      refine ⟨_, rfl, _, _, _, _, _, rfl, hS.ob, T.c_System, T.n_System_number_limit, rfl, S.N, rfl, (by have : S.v.N = S.N := rfl; omega), (by have : S.v.N = S.N := rfl; omega), ?_⟩
      refine for_range (lo := 0) (n := S.N.toNat) (fun k σ H' => H' = H ∧ (∃ v, σ = [some (.ref S.p), some (.int i), some (.ref t.ad), v]) ∧ ∀ j : Nat, j < k → (j : Int) ∈ t.rows.map (·.1)) ⟨rfl, ⟨_, rfl⟩, fun j hj => absurd hj (Nat.not_lt_zero _)⟩ ?_ ?_
      · rintro k σ H' hk ⟨rfl, ⟨v, rfl⟩, hb⟩
        have e0 : (0 : Int) + (k : Int) = (k : Int) := Int.zero_add _
        rw [e0]
        refine ⟨_, rfl, _, rfl, _, _, rfl, DGet.k (k := Sum.inl (k : Int)) ht, _, rfl, ?_⟩
        rw [val_kv, Option.isSome_map]
        cases e : lk t.rows (k : Int) with
        | none =>
          refine iteT ?_
          exact ⟨_, rfl, q1 _ (lowFree_some (by omega) hb (lk_none.mp e))⟩
        | some z =>
          refine iteF ?_
          refine ⟨rfl, ⟨_, rfl⟩, fun j hj => ?_⟩
          by_cases c : j < k
          · exact hb j c
          · have : j = k := by omega
            subst this
            exact List.mem_map.mpr ⟨_, lk_mem e, rfl⟩
      · rintro σ H' ⟨rfl, ⟨v, rfl⟩, hb⟩
        exact ⟨_, rfl, fun d hd => (q2 (lowFree_none fun j hj => hb j (by omega))).here hd⟩
    · exact .inr ⟨hn, q⟩
theorem b_lowest_free (T : Tx K mg) : Binds K (fdAt K (mA "System" "lowest_free" K)) ["self", "process"] [] := FunD.bindsN T.f_System_lowest_free fun _ _ _ _ _ _ us hl => match us, hl with | [_, _], _ => rfl
end

/-! ### things are placed in a table -/
structure Apart (s : Sy) (t : Th) : Prop where
  ad : t.ad ∉ s.foot
  ls : ∀ x ∈ t.tg.lsts, x ∉ s.foot
  en : ∀ x ∈ t.tg.ents, x ∉ s.foot
  n2 : t.tg.lsts.Nodup
  n3 : t.tg.ents.Nodup
structure Placed (K : PySem.W.Frag) (s s' : Sy) (H H' : Hp) (t : Th) (i n : Int) : Prop where
  at_ : SyAt K H' s'
  v : s'.v = s.v.place i n t.tg.v
  p : s'.p = s.p
  keep : ∀ b o, H b = some o → b ∉ s.foot → H' b = some o
  foot : ∀ b ∈ s'.foot, b ∈ s.foot ∨ b = t.ad ∨ b ∈ t.tg.lsts ∨ b ∈ t.tg.ents
def sp_placed (K : PySem.W.Frag) : Sp := fun vs H Q E => ∃ (s : Sy) (x : V) (t : Th), vs = [.ref s.p, x, .ref t.ad] ∧ SyAt K H s ∧ Obj' H x ∧ WF s.v ∧ (0 ≤ s.made ∧ s.made ≤ 1000000) ∧ TgAt K H t.ad t.tg ∧ Apart s t ∧
  ByProc K s x H E fun i tb => (∀ n, lowFree (tb.rows.map (·.1)) s.N = some n → ∀ H' s', Placed K s s' H H' t i n → Q (.int n) H') ∧ (lowFree (tb.rows.map (·.1)) s.N = none → Raised K H E "Full" (errF x))
section
variable {P : Program} {w : World} {K : PySem.W.Frag} {mg : Str → Option Value} {base : Heap}
theorem WF.fresh {s : Sy} (h : WF s.v) (hm : 0 ≤ s.made) : lk s.ths s.made = none := by
  rw [lk_none, ← Sy.sers]
  intro z
  obtain ⟨t, ht, e⟩ := List.mem_map.mp z
  have := h.rs t ht
  have e2 : s.v.made = s.made := rfl
  omega
theorem placed_of {H : Hp} {s : Sy} {t : Th} {i n : Int} {tb : Tb} (S : SyAt K H s) (hw : WF s.v) (A : Apart s t) (ht : TgAt K H t.ad t.tg) (hl : lk s.tabs i = some tb) :
    Placed K s ({ ({ ({ s with ths := s.ths ++ [(s.made, t)] } : Sy) with tabs := upAt s.tabs i (Tb.fn (· ++ [(n, s.made)])) } : Sy) with made := s.made + 1 } : Sy) H
      (upd (upd (upd H s.G (.dK (kv thV (s.ths ++ [(s.made, t)])))) tb.ad (.dK (kv V.int (tb.rows ++ [(n, s.made)])))) s.p (.ins (ga K "System") s.dx (sysF s.P s.N s.T s.G (s.made + 1)))) t i n := by
  have S1 := S.thing (n := s.made) ht A.ad A.ls A.en A.n2 A.n3
  have S2 := S1.rows (i := i) (t := tb) (f := (· ++ [(n, s.made)])) hl (by rw [← Sy.pids]; exact hw.ndp)
  have S3 := S2.count (s.made + 1)
  refine ⟨S3, ?_, rfl, fun b o e nb => ?_, fun b hb => ?_⟩
  · show (⟨s.P, s.N, s.made + 1, (upAt s.tabs i (Tb.fn (· ++ [(n, s.made)]))).map (fun t => (t.1, t.2.rows)), (s.ths ++ [(s.made, t)]).map (fun t => (t.1, t.2.tg.v))⟩ : Sv) = _
    rw [upAt_map (fun t : Tb => t.rows) (Tb.fn (· ++ [(n, s.made)])) (· ++ [(n, s.made)]) (fun _ => rfl), List.map_append]
    rfl
  · have b1 : b ≠ s.p := fun z => nb (z ▸ List.mem_cons_self)
    have b2 : b ≠ tb.ad := fun z => nb (Sy.in_dcs (z ▸ List.mem_cons_of_mem _ (List.mem_cons_of_mem _ (List.mem_map.mpr ⟨_, lk_mem hl, rfl⟩))))
    have b3 : b ≠ s.G := fun z => nb (Sy.in_dcs (z ▸ List.mem_cons_of_mem _ List.mem_cons_self))
    rw [upd_ne b1, upd_ne b2, upd_ne b3]
    exact e
  · have ads : (upAt s.tabs i (Tb.fn (· ++ [(n, s.made)]))).map (·.2.ad) = s.tabs.map (·.2.ad) := by
      unfold upAt
      rw [List.map_map]
      refine List.map_congr_left fun u _ => ?_
      show (if u.1 = i then (u.1, Tb.fn (· ++ [(n, s.made)]) u.2) else u).2.ad = u.2.ad
      split <;> rfl
    rcases Sy.foot_cases hb with z | z | z | z | z
    · exact .inl (z ▸ List.mem_cons_self)
    · have z' : b ∈ s.T :: s.G :: (upAt s.tabs i (Tb.fn (· ++ [(n, s.made)]))).map (·.2.ad) := z
      rw [ads] at z'
      exact .inl (Sy.in_dcs z')
    · have z' : b ∈ (s.ths ++ [(s.made, t)]).map (·.2.ad) := z
      rw [List.map_append] at z'
      rcases List.mem_append.mp z' with y | y
      · exact .inl (Sy.in_ths y)
      · exact .inr (.inl (List.mem_singleton.mp y))
    · have z' : b ∈ (s.ths ++ [(s.made, t)]).flatMap (·.2.tg.lsts) := z
      rw [List.flatMap_append] at z'
      rcases List.mem_append.mp z' with y | y
      · exact .inl (Sy.in_lsts y)
      · exact .inr (.inr (.inl (by simpa using y)))
    · have z' : b ∈ (s.ths ++ [(s.made, t)]).flatMap (·.2.tg.ents) := z
      rw [List.flatMap_append] at z'
      rcases List.mem_append.mp z' with y | y
      · exact .inl (Sy.in_ents y)
      · exact .inr (.inr (.inr (by simpa using y)))
theorem sc_placed : FnScope ["self", "process", "thing", "number"] ["self", "process", "thing"] (defScope s_System_placed) := ⟨rfl, rfl, rfl, by decide +kernel, rfl, by decide +kernel, by decide +kernel⟩
theorem ok_placed (T : Tx K mg) : FnOk P w K mg base (L2.CX P w) 5 (mA "System" "placed" K) (fdAt K (mA "System" "placed" K)) ["self", "process", "thing"] (sp_placed K) := by
  refine FunD.ok T.f_System_placed sc_placed (fun vs H Q E h => ?_) (fun cdv A outer s H vs Q E hr h => ?_)
  · obtain ⟨s, x, t, rfl, _⟩ := h
    rfl
  · obtain ⟨S, x, t, rfl, hS, hx, hw, hm, ht, hA, q⟩ := h
    have hu := hu_of hr
    refine ⟨_, pss_cons (ps_set (i := 3) sc_placed.nd rfl (Or.inl rfl) (pe_meth (pv 0) T.c_System T.m_System_lowest_free (ok_lowest_free T) hr (b_lowest_free T) .nil (passes_call (takes_of rfl rfl rfl rfl) (fun _ _ _ _ h => h)) (pa_cons (pv 1) pa_nil)))
      (pss_cons (ps_dput hu (pe_fld (pv 0) rfl) (pe_fld (pv 0) rfl) (pv 2) rfl)
      (pss_cons (ps_dput hu (pe_dget hu (pe_fld (pv 0) rfl) (pv 1) (fun _ _ => rfl)) (pv 3) (pe_fld (pv 0) rfl) rfl)
      (pss_cons (ps_fldaug (pv 0) pe_int in_add)
      (pss_one (ps_ret (pv 3)))))), ?_⟩
    refine ⟨_, rfl, S.p, S.dx, _, rfl, hS.ob, rfl, _, rfl, S, x, rfl, hS, hx, hw, ?_⟩
    rcases q with ⟨i, tb, rfl, hl, q1, q2⟩ | ⟨hn, q⟩
    · refine .inl ⟨i, tb, rfl, hl, fun n hn => ?_, q2⟩
      have S1 := hS.thing (n := S.made) ht hA.ad hA.ls hA.en hA.n2 hA.n3
      have hlen : S.ths.length ≤ S.made.toNat := by
        have := hw.thsM
        rw [show S.v.ths.length = S.ths.length from List.length_map ..] at this
        exact this
      have hsz : (1000001 : Nat) < sizeLine := by decide
      have g1 := DPut.k (k := Sum.inl S.made) (v := thV t) hS.gb (show (kv thV S.ths).length < sizeLine from by rw [kv_len]; omega)
      rw [put_kv thV S.made t (hw.fresh hm.1)] at g1
      refine ⟨_, rfl, _, rfl, _, _, _, _, _, rfl, hS.ob, T.c_System, T.n_System_things, rfl, _, rfl, _, _, _, _, _, rfl, hS.ob, T.c_System, T.n_System_serials_made, rfl, _, _, rfl, g1, ?_⟩
      have g2 := DGet.k (k := Sum.inl i) S1.tb
      rw [val_kv, hl] at g2
      have hf := lowFree_spec hn
      have r8 : tb.rows.length ≤ 8 := hw.rows8 (t := (i, tb.rows)) (List.mem_map.mpr ⟨_, lk_mem hl, rfl⟩)
      have g3 := DPut.k (k := Sum.inl n) (v := .int S.made) (S1.tt _ (lk_mem hl)) (by rw [kv_len]; exact Nat.lt_of_le_of_lt r8 (by decide))
      rw [put_kv V.int n S.made (lk_none.mpr hf.2.2)] at g3
      refine ⟨_, rfl, _, _, _, _, _, rfl, S1.ob, T.c_System, T.n_System_serials_made, rfl, _, rfl, _, _, _, _, _, rfl, S1.ob, T.c_System, T.n_System_tables, rfl, _, rfl, _, _, rfl, g2, _, rfl, _, _, rfl, g3, ?_⟩
      have S2 := S1.rows (i := i) (t := tb) (f := (· ++ [(n, S.made)])) hl (by rw [← Sy.pids]; exact hw.ndp)
      refine ⟨_, rfl, _, _, _, _, _, rfl, S2.ob, T.c_System, T.n_System_serials_made, rfl, _, _, rfl, rfl, _, _, S2.ob, (by show 5 < 1000; decide), _, rfl, ?_⟩
      exact q1 n hn _ _ (placed_of hS hw hA ht hl)
    · exact .inr ⟨hn, q⟩
theorem b_placed (T : Tx K mg) : Binds K (fdAt K (mA "System" "placed" K)) ["self", "process", "thing"] [] := FunD.bindsN T.f_System_placed fun _ _ _ _ _ _ us hl => match us, hl with | [_, _, _], _ => rfl
end
/-! ### new sources and sets -/
def sp_new (K : PySem.W.Frag) (tv : Tv) : Sp := fun vs H Q E => ∃ (s : Sy) (x : V), vs = [.ref s.p, x] ∧ SyAt K H s ∧ Obj' H x ∧ WF s.v ∧ (0 ≤ s.made ∧ s.made ≤ 1000000) ∧
  ByProc K s x H E fun i tb => (∀ n, lowFree (tb.rows.map (·.1)) s.N = some n → ∀ H' s', SyAt K H' s' → s'.v = s.v.place i n tv → Fr' s s' H H' → Q (.int n) H') ∧ (lowFree (tb.rows.map (·.1)) s.N = none → Raised K H E "Full" (errF x))
section
variable {P : Program} {w : World} {K : PySem.W.Frag} {mg : Str → Option Value} {base : Heap}
theorem sc_new_source : FnScope ["self", "process"] ["self", "process"] (defScope s_System_new_source) := ⟨rfl, rfl, rfl, by decide +kernel, rfl, by decide +kernel, by decide +kernel⟩
theorem ByProc.ext {s : Sy} {x : V} {H H1 : Hp} {E : XK} {R R' : Int → Tb → Prop} (e : Same H H1) (h : ByProc K s x H E R) (r : ∀ i t, lk s.tabs i = some t → R i t → R' i t) : ByProc K s x H1 E R' := by
  rcases h with ⟨i, t, rfl, hl, q⟩ | ⟨hn, q⟩
  · exact .inl ⟨i, t, rfl, hl, r i t hl q⟩
  · exact .inr ⟨hn, q.ext e⟩
/-- a thing that was made anew is placed -/
theorem new_placed {s s' : Sy} {H H1 H' : Hp} {t : Th} {i n : Int} (e : Same H H1) (n1 : H t.ad = none) (n2 : ∀ x ∈ t.tg.lsts, H x = none) (n3 : t.tg.ents = []) (P : Placed K s s' H1 H' t i n) : Fr' s s' H H' := by
  refine ⟨fun b o h nb => P.keep b o (e b o h) nb, fun b hb => ?_, P.p⟩
  rcases P.foot b hb with z | z | z | z
  · exact .inl z
  · exact .inr (z ▸ n1)
  · exact .inr (n2 b z)
  · rw [n3] at z
    cases z
theorem SyAt.notfoot {s : Sy} {H : Hp} (S : SyAt K H s) {b : Addr} (h : H b = none) : b ∉ s.foot := fun z => by
  obtain ⟨o, e⟩ := S.some_of z
  rw [h] at e
  cases e
theorem ok_new_source (T : Tx K mg) : FnOk P w K mg base (L2.CX P w) 6 (mA "System" "new_source" K) (fdAt K (mA "System" "new_source" K)) ["self", "process"] (sp_new K (.src 0 false)) := by
  refine FunD.ok T.f_System_new_source sc_new_source (fun vs H Q E h => ?_) (fun cdv A outer s H vs Q E hr h => ?_)
  · obtain ⟨s, x, rfl, _⟩ := h
    rfl
  · obtain ⟨S, x, rfl, hS, hx, hw, hm, q⟩ := h
    obtain ⟨ds, hds, hb⟩ := b_Src0 T
    refine ⟨_, pss_one (ps_ret (pe_meth (pv 0) T.c_System T.m_System_placed (ok_placed T) hr (b_placed T) .nil (passes_call (takes_of rfl rfl rfl rfl) (fun _ _ _ _ h => h)) (pa_cons (pv 1) (pa_cons (pe_make0 T.k_Source (ok_Src_init T) (hr.mono (by decide)) (by rfl) T.g_Source hb hds pass0) pa_nil)))), ?_⟩
    refine ⟨_, rfl, S.p, S.dx, _, rfl, hS.ob, rfl, _, rfl, fun a dx na nd ne => ?_⟩
    refine ⟨a, dx, 0, false, rfl, upd_same, rfl, ?_⟩
    rw [upd_upd]
    have e1 : Same H (upd (upd H dx (.own a)) a (.ins (ga K "Source") dx (srcF 0 false))) := (new_same nd).trans (new_same (by rw [upd_ne (Ne.symm ne)]; exact na))
    refine ⟨S, x, ⟨a, .src dx 0 false⟩, rfl, hS.ext e1, hx.same e1, hw, hm, upd_same, ⟨hS.notfoot na, fun x h => (nomatch h), fun x h => (nomatch h), List.nodup_nil, List.nodup_nil⟩, ?_⟩
    refine q.ext e1 fun i tb hl ⟨q1, q2⟩ => ⟨fun n hn H' s' P => q1 n hn H' s' P.at_ P.v (new_placed (t := ⟨a, .src dx 0 false⟩) e1 na (fun x h => (nomatch h)) rfl P), fun z => (q2 z).ext e1⟩
theorem b_new_source (T : Tx K mg) : Binds K (fdAt K (mA "System" "new_source" K)) ["self", "process"] [] := FunD.bindsN T.f_System_new_source fun _ _ _ _ _ _ us hl => match us, hl with | [_, _], _ => rfl
theorem sc_new_set : FnScope ["self", "process"] ["self", "process"] (defScope s_System_new_set) := ⟨rfl, rfl, rfl, by decide +kernel, rfl, by decide +kernel, by decide +kernel⟩
theorem ok_new_set (T : Tx K mg) : FnOk P w K mg base (L2.CX P w) 6 (mA "System" "new_set" K) (fdAt K (mA "System" "new_set" K)) ["self", "process"] (sp_new K (.set [] [])) := by
  refine FunD.ok T.f_System_new_set sc_new_set (fun vs H Q E h => ?_) (fun cdv A outer s H vs Q E hr h => ?_)
  · obtain ⟨s, x, rfl, _⟩ := h
    rfl
  · obtain ⟨S, x, rfl, hS, hx, hw, hm, q⟩ := h
    refine ⟨_, pss_one (ps_ret (pe_meth (pv 0) T.c_System T.m_System_placed (ok_placed T) hr (b_placed T) .nil (passes_call (takes_of rfl rfl rfl rfl) (fun _ _ _ _ h => h)) (pa_cons (pv 1) (pa_cons (pe_make0 T.k_WaitSet (ok_Set_init T) (hr.mono (by decide)) (by rfl) T.g_WaitSet (b_Set0 T) .nil pass0) pa_nil)))), ?_⟩
    refine ⟨_, rfl, S.p, S.dx, _, rfl, hS.ob, rfl, _, rfl, fun a dx na nd ne => ?_⟩
    refine ⟨a, dx, rfl, upd_same, fun L R nL nR LR H1 kp h1 h2 h3 => ⟨rfl, ?_⟩⟩
    have La : L ≠ a := fun z => by rw [z, upd_same] at nL; cases nL
    have Ra : R ≠ a := fun z => by rw [z, upd_same] at nR; cases nR
    rw [upd_ne La] at nL
    rw [upd_ne Ra] at nR
    have Ld : L ≠ dx := fun z => by rw [z, upd_same] at nL; cases nL
    have Rd : R ≠ dx := fun z => by rw [z, upd_same] at nR; cases nR
    rw [upd_ne Ld] at nL
    rw [upd_ne Rd] at nR
    have e1 : Same H H1 := fun b o e => kp b o (by rw [upd_ne (ne_of_none e na), upd_ne (ne_of_none e nd)]; exact e) (ne_of_none e na)
    have nls : ∀ x ∈ [L, R], H x = none := fun x hx => by
      rcases List.mem_cons.mp hx with z | z
      · exact z ▸ nL
      · exact (List.mem_singleton.mp z) ▸ nR
    refine ⟨S, x, ⟨a, .set dx L R [] []⟩, rfl, hS.ext e1, hx.same e1, hw, hm, ⟨h1, h2, h3, fun e he => (nomatch he)⟩, ⟨hS.notfoot na, fun x hx => hS.notfoot (nls x hx), fun x h => (nomatch h), ?_, List.nodup_nil⟩, ?_⟩
    · show [L, R].Nodup
      simp [LR]
    refine q.ext e1 fun i tb hl ⟨q1, q2⟩ => ⟨fun n hn H' s' P => q1 n hn H' s' P.at_ P.v (new_placed (t := ⟨a, .set dx L R [] []⟩) e1 na nls rfl P), fun z => (q2 z).ext e1⟩
theorem b_new_set (T : Tx K mg) : Binds K (fdAt K (mA "System" "new_set" K)) ["self", "process"] [] := FunD.bindsN T.f_System_new_set fun _ _ _ _ _ _ us hl => match us, hl with | [_, _], _ => rfl
end

/-! ### a new process -/
def errR : List (Str × V) := [("caption", .str "NoRoom")]
structure Forked (K : PySem.W.Frag) (s s' : Sy) (H H' : Hp) (c : Int) (rows : List (Int × Int)) : Prop where
  at_ : SyAt K H' s'
  v : s'.v = s.v.fork c rows
  fr : Fr' s s' H H'
def sp_fork (K : PySem.W.Frag) : Sp := fun vs H Q E => ∃ (s : Sy) (x : V), vs = [.ref s.p, x] ∧ SyAt K H s ∧ Obj' H x ∧ WF s.v ∧
  ByProc K s x H E fun i tb => (∀ c, lowFree (s.tabs.map (·.1)) s.P = some c → ∀ H' s', Forked K s s' H H' c tb.rows → Q (.int c) H') ∧ (lowFree (s.tabs.map (·.1)) s.P = none → Raised K H E "NoRoom" errR)
section
variable {P : Program} {w : World} {K : PySem.W.Frag} {mg : Str → Option Value} {base : Heap}
theorem ei_NoRoom (T : Tx K mg) : FnOk P w K mg base CX0 1 (mA "NoRoom" "__init__" K) (fdAt K (mA "NoRoom" "__init__" K)) ["self"] (spErr0 (ga K "NoRoom") "NoRoom") :=
  err_init0 T.x_NoRoom T.f_NoRoom___init__ ⟨rfl, rfl, rfl, by decide +kernel, rfl, by decide +kernel, by decide +kernel⟩ rfl (by decide) (fun _ => rfl) (.inl rfl)
theorem eb_NoRoom (T : Tx K mg) : Binds K (fdAt K (mA "NoRoom" "__init__" K)) ["self"] [] := FunD.bindsN T.f_NoRoom___init__ fun _ _ _ _ _ _ us hl => match us, hl with | [_], _ => rfl
theorem sc_fork : FnScope ["self", "process", "table", "child", "number"] ["self", "process"] (defScope s_System_fork) := ⟨rfl, rfl, rfl, by decide +kernel, rfl, by decide +kernel, by decide +kernel⟩
theorem ok_fork (T : Tx K mg) : FnOk P w K mg base (L2.CX P w) 4 (mA "System" "fork" K) (fdAt K (mA "System" "fork" K)) ["self", "process"] (sp_fork K) := by
  refine FunD.ok T.f_System_fork sc_fork (fun vs H Q E h => ?_) (fun cdv A outer s H vs Q E hr h => ?_)
  · obtain ⟨x, lo, rfl, _⟩ := h
    rfl
  · obtain ⟨S, x, rfl, hS, hx, hw, q⟩ := h
    have hu := hu_of hr
    refine ⟨_, pss_cons (ps_set (i := 2) sc_fork.nd rfl (Or.inr rfl) (pe_meth (pv 0) T.c_System T.m_System_table_of (ok_table_of T) hr (b_table_of T) .nil (passes_call (takes_of rfl rfl rfl rfl) (fun _ _ _ _ h => h)) (pa_cons (pv 1) pa_nil)))
      (pss_cons (ps_for (passes_of rfl) rfl (pi_range1 (by rfl) T.free_range (pa_cons (pe_fld (pv 0) rfl) pa_nil)) (pg_name (i := 3) sc_fork.nd rfl (Or.inl rfl))
        (pss_one (ps_if (pt_cmp (pc_dnotin hu (pv 3) (pe_fld (pv 0) rfl)))
          (pss_cons (ps_dput hu (pe_fld (pv 0) rfl) (pv 3)
            (pe_lock (pe_dc (own := [("number", 4)]) (g := gName 4) (tt := tYes) rfl sc_fork.nd (pi_keys (pv 2)) (blkOk_by (N := ["self", "process", "table", "child", "number"]) (sc := defScope s_System_fork) (by decide +kernel))
              (fun _ _ _ _ _ => pg_name (i := 4) sc_fork.nd rfl (Or.inl rfl)) (fun _ _ _ _ _ => pts_nil) (fun _ _ _ _ _ => pv 4) (fun _ _ _ _ _ => pe_dget hu (pv 2) (pv 4) (fun _ _ => rfl)))) rfl)
          (pss_one (ps_ret (pv 3)))) pss_nil)))
      (pss_one (ps_raise rfl (takes_of rfl rfl rfl rfl) (pmk_err0 T.x_NoRoom (ei_NoRoom T) (hr.mono (by decide)) (eb_NoRoom T) pass0 (by rfl) T.g_NoRoom)))), ?_⟩
    refine ⟨_, rfl, S.p, S.dx, _, rfl, hS.ob, rfl, _, rfl, S, x, rfl, hS, hx, ?_⟩
    rcases q with ⟨i, t, rfl, hl, q1, q2⟩ | ⟨hn, q⟩
    · refine .inl ⟨i, t, rfl, hl, ?_⟩
      have ht := hS.tt _ (lk_mem hl)
      have hP := hw.p
      refine ⟨_, rfl, _, _, _, _, _, rfl, hS.ob, T.c_System, T.n_System_process_limit, rfl, S.P, rfl, (by have : S.v.P = S.P := rfl; omega), (by have : S.v.P = S.P := rfl; omega), ?_⟩
      refine for_range (lo := 0) (n := S.P.toNat) (fun k σ H' => H' = H ∧ (∃ v v4, σ = [some (.ref S.p), some (.int i), some (.ref t.ad), v, v4]) ∧ ∀ j : Nat, j < k → (j : Int) ∈ S.tabs.map (·.1)) ⟨rfl, ⟨_, _, rfl⟩, fun j hj => absurd hj (Nat.not_lt_zero _)⟩ ?_ ?_
      · rintro k σ H' hk ⟨rfl, ⟨v, v4, rfl⟩, hb⟩
        have e0 : (0 : Int) + (k : Int) = (k : Int) := Int.zero_add _
        rw [e0]
        refine ⟨_, rfl, _, rfl, _, _, _, _, _, rfl, hS.ob, T.c_System, T.n_System_tables, rfl, _, _, rfl, DGet.k (k := Sum.inl (k : Int)) hS.tb, _, rfl, ?_⟩
        rw [val_kv, Option.isSome_map]
        cases e : lk S.tabs (k : Int) with
        | none =>
          refine iteT ?_
          have ef := lowFree_some (n := S.P) (by omega) hb (lk_none.mp e)
          have nd : (t.rows.map (·.1)).Nodup := hw.ndn (i, t.rows) (List.mem_map.mpr ⟨_, lk_mem hl, rfl⟩)
          refine ⟨t.ad, _, ht, True.intro, fun od => ?_⟩
          refine ⟨_, rfl, t.ad, od, rfl, .inl ⟨_, upd_same, fun D nD => ?_⟩⟩
          have nDt : D ≠ t.ad := fun z => by rw [z, upd_same] at nD; cases nD
          rw [upd_ne nDt] at nD
          have key : ∀ {H3 : Hp}, H3 = upd (upd H' t.ad (.frz od (.dK (kv V.int t.rows)))) D (.dK (kv V.int t.rows)) → upd H3 t.ad (.dK (kv V.int t.rows)) = upd H' D (.dK (kv V.int t.rows)) := fun {H3} e => by
            rw [e, upd_comm nDt, upd_upd, upd_idem ht]
          refine dc_it walk_keys (fun j H3 => H3 = upd (upd H' t.ad (.frz od (.dK (kv V.int t.rows)))) D (.dK (kv V.int (t.rows.take j)))) rfl (fun j H3 hj e => by rw [e, upd_ne (Ne.symm nDt), upd_same]) (fun j x H3 H4 hj e3 y => ?_) (fun H3 e3 => ?_)
          · obtain ⟨rfl, kk, vv, g1, rfl⟩ := y
            obtain ⟨r, hr', rfl, rfl⟩ := kv_get g1
            subst e3
            refine ⟨rfl, ?_⟩
            have lkr : lk t.rows r.1 = some r.2 := lk_of_mem nd (List.mem_of_getElem? hr')
            have dg : DGet (upd (upd H' t.ad (.frz od (.dK (kv V.int t.rows)))) D (.dK (kv V.int (t.rows.take j)))) t.ad (.int r.1) (some (.int r.2)) := .inl ⟨_, Sum.inl r.1, .inr ⟨od, by rw [upd_ne (Ne.symm nDt), upd_same]⟩, rfl, by rw [val_kv, lkr]; rfl⟩
            refine ⟨_, rfl, _, rfl, _, rfl, _, _, rfl, dg, _, Sum.inl r.1, rfl, upd_same, ?_, ?_⟩
            · rw [kv_len]
              have : (t.rows.take j).length ≤ t.rows.length := by rw [List.length_take]; exact Nat.min_le_right _ _
              have r8 : t.rows.length ≤ 8 := hw.rows8 (t := (i, t.rows)) (List.mem_map.mpr ⟨_, lk_mem hl, rfl⟩)
              exact Nat.lt_of_le_of_lt (Nat.le_trans this r8) (by decide)
            · rw [take_put nd hr', upd_upd]
          · rw [kv_len, List.take_length] at e3
            refine ⟨by rw [e3, upd_ne (Ne.symm nDt), upd_same], ?_⟩
            rw [key e3]
            have S1 := hS.ext (new_same (o := .dK (kv V.int t.rows)) nD)
            have g1 := DPut.k (k := Sum.inl (k : Int)) (v := tbV ⟨D, t.rows⟩) S1.tb (show (kv tbV S.tabs).length < sizeLine from by
              rw [kv_len]
              have := hw.tabs6
              rw [show S.v.tabs.length = S.tabs.length from List.length_map ..] at this
              exact Nat.lt_of_le_of_lt this (by decide))
            rw [put_kv tbV (k : Int) ⟨D, t.rows⟩ e] at g1
            refine ⟨_, rfl, _, _, _, _, _, rfl, S1.ob, T.c_System, T.n_System_tables, rfl, _, rfl, _, _, rfl, g1, _, rfl, ?_⟩
            have S2 := S1.proc (n := (k : Int)) (t := ⟨D, t.rows⟩) upd_same (hS.notfoot nD)
            refine q1 _ ef _ _ ⟨S2, ?_, ⟨fun b o eb nb => ?_, fun b hb => ?_, rfl⟩⟩
            · show (⟨S.P, S.N, S.made, (S.tabs ++ [((k : Int), (⟨D, t.rows⟩ : Tb))]).map (fun t : Int × Tb => (t.1, t.2.rows)), S.ths.map (fun t : Int × Th => (t.1, t.2.tg.v))⟩ : Sv) = _
              rw [List.map_append]
              rfl
            · rw [upd_ne (show b ≠ S.T from fun z => nb (z ▸ Sy.in_dcs List.mem_cons_self)), upd_ne (ne_of_none eb nD)]
              exact eb
            · rcases Sy.foot_cases hb with z | z | z | z | z
              · exact .inl (z ▸ List.mem_cons_self)
              · have z' : b ∈ S.T :: S.G :: (S.tabs ++ [((k : Int), (⟨D, t.rows⟩ : Tb))]).map (·.2.ad) := z
                rw [List.map_append] at z'
                have z2 : b ∈ S.dcs ∨ b = D := by
                  rcases List.mem_cons.mp z' with y | y
                  · exact .inl (y ▸ List.mem_cons_self)
                  · rcases List.mem_cons.mp y with y | y
                    · exact .inl (y ▸ List.mem_cons_of_mem _ List.mem_cons_self)
                    · rcases List.mem_append.mp y with y | y
                      · exact .inl (List.mem_cons_of_mem _ (List.mem_cons_of_mem _ y))
                      · exact .inr (List.mem_singleton.mp y)
                rcases z2 with y | y
                · exact .inl (Sy.in_dcs y)
                · exact .inr (y ▸ nD)
              · exact .inl (Sy.in_ths z)
              · exact .inl (Sy.in_lsts z)
              · exact .inl (Sy.in_ents z)
        | some z =>
          refine iteF ?_
          refine ⟨rfl, ⟨_, _, rfl⟩, fun j hj => ?_⟩
          by_cases c : j < k
          · exact hb j c
          · have : j = k := by omega
            subst this
            exact List.mem_map.mpr ⟨_, lk_mem e, rfl⟩
      · rintro σ H' ⟨rfl, ⟨v, v4, rfl⟩, hb⟩
        exact fun d hd => (q2 (lowFree_none fun j hj => hb j (by omega))).here hd
    · exact .inr ⟨hn, q⟩
theorem b_fork (T : Tx K mg) : Binds K (fdAt K (mA "System" "fork" K)) ["self", "process"] [] := FunD.bindsN T.f_System_fork fun _ _ _ _ _ _ us hl => match us, hl with | [_, _], _ => rfl
end

/-! ### kinds, and the numbers of a process -/
def Tv.kind : Tv → Str
  | .src _ _ => "source"
  | .set _ _ => "set"
/-- a new list of data -/
structure NewD (K : PySem.W.Frag) (H H' : Hp) (v : V) (d : PyData) : Prop where
  same : Same H H'
  dat : Dp K (frs H H') v d
theorem NewD.dp {K : PySem.W.Frag} {H H' : Hp} {v : V} {d : PyData} (n : NewD K H H' v d) : Dp K H' v d := Dp.same frs_le _ _ n.dat
section
variable {P : Program} {w : World} {K : PySem.W.Frag} {mg : Str → Option Value} {base : Heap}
/-- what stands at a thing's address -/
theorem TgAt.ins {H : Hp} {a : Addr} {tg : Tg} (h : TgAt K H a tg) : ∃ dx fs, (H a = some (.ins (ga K "Source") dx fs) ∧ ∃ d u f, tg = .src d u f) ∨ (H a = some (.ins (ga K "WaitSet") dx fs) ∧ ∃ d L R es row, tg = .set d L R es row) := by
  cases tg with
  | src dx u f => exact ⟨_, _, .inl ⟨h, _, _, _, rfl⟩⟩
  | set dx L R es row => exact ⟨_, _, .inr ⟨h.1, _, _, _, _, _, rfl⟩⟩
end

/-! ### who holds a thing -/
def hAt (tabs : List (Int × List (Int × Int))) (ser p : Int) : List (Int × Int) := match lk tabs p with
  | none => []
  | some rows => holdsIn ser p rows
theorem holds_eq (tabs : List (Int × List (Int × Int))) (ser : Int) : holds tabs ser = (srtI (tabs.map (·.1))).flatMap (hAt tabs ser) := rfl
def holdsD (l : List (Int × Int)) : List PyData := l.map fun r => .tuple [.int r.1, .int r.2]
theorem holdsIn_eq (ser p : Int) (rows : List (Int × Int)) : holdsD (holdsIn ser p rows) = ((srtI (rows.map (·.1))).filter fun n => decide (lk rows n = some ser)).map fun n => .tuple [.int p, .int n] := by
  unfold holdsD holdsIn
  rw [List.map_map]
  rfl
def sp_holders (K : PySem.W.Frag) : Sp := fun vs H Q _ => ∃ (s : Sy) (ser : Int), vs = [.ref s.p, .int ser] ∧ SyAt K H s ∧ WF0 s.v ∧ ∀ H' p, NewD K H H' (.ref p) (.list (holdsD (holds s.v.tabs ser))) → Q (.ref p) H'
theorem take_next {α : Type} {l : List α} {j : Nat} {x : α} (h : l[j]? = some x) : l.take (j + 1) = l.take j ++ [x] := by rw [List.take_succ, h]; rfl
theorem holdsIn_len {ser p : Int} {rows : List (Int × Int)} : (holdsIn ser p rows).length ≤ rows.length := by
  unfold holdsIn
  rw [List.length_map]
  refine Nat.le_trans (List.length_filter_le _ _) ?_
  rw [srtI_len, List.length_map]
  exact Nat.le_refl _
theorem WF0.hAt8 {v : Sv} (h : WF0 v) (ser p : Int) : (hAt v.tabs ser p).length ≤ 8 := by
  unfold hAt
  cases e : lk v.tabs p with
  | none => exact Nat.zero_le _
  | some rows => exact Nat.le_trans holdsIn_len (h.rows8 (lk_mem e))
theorem flat8 {l : List Int} {f : Int → List (Int × Int)} (h : ∀ p, (f p).length ≤ 8) : (l.flatMap f).length ≤ 8 * l.length := by
  induction l with
  | nil => exact Nat.zero_le _
  | cons a l ih =>
    rw [List.flatMap_cons, List.length_append, List.length_cons]
    have := h a
    omega
theorem WF0.holds48 {v : Sv} (h : WF0 v) (ser : Int) (j : Nat) : (((srtI (v.tabs.map (·.1))).take j).flatMap (hAt v.tabs ser)).length ≤ 48 := by
  have h1 := flat8 (l := (srtI (v.tabs.map (·.1))).take j) (h.hAt8 ser)
  have h2 : ((srtI (v.tabs.map (·.1))).take j).length ≤ 6 := by
    rw [List.length_take, srtI_len, List.length_map]
    exact Nat.le_trans (Nat.min_le_right _ _) h.tabs6
  omega
section
variable {P : Program} {w : World} {K : PySem.W.Frag} {mg : Str → Option Value} {base : Heap}
theorem sc_holders : FnScope ["self", "serial", "found", "process", "table", "number"] ["self", "serial"] (defScope s_System_holders) := ⟨rfl, rfl, rfl, by decide +kernel, rfl, by decide +kernel, by decide +kernel⟩
theorem ok_holders (T : Tx K mg) : FnOk P w K mg base CX0 4 (mA "System" "holders" K) (fdAt K (mA "System" "holders" K)) ["self", "serial"] (sp_holders K) := by
  refine FunD.ok T.f_System_holders sc_holders (fun vs H Q E h => ?_) (fun cdv A outer s H vs Q E hr h => ?_)
  · obtain ⟨x, lo, rfl, _⟩ := h
    rfl
  · obtain ⟨S, ser, rfl, hS, hw, q⟩ := h
    have hu := hu_of hr
    refine ⟨_, PSs.nox (pss_cons (ps_set (i := 2) sc_holders.nd rfl (Or.inl rfl) (pe_lst pa_nil))
      (pss_cons (ps_for PassesOwn.never rfl (pi_list (pe_meth0 (pv 0) T.c_System T.m_System_alive (ok_alive T) (hr.mono (by decide)) (b_alive T) .nil pass0)) (pg_name (i := 3) sc_holders.nd rfl (Or.inr rfl))
        (pss_cons (ps_set (i := 4) sc_holders.nd rfl (Or.inr rfl) (pe_dget hu (pe_fld (pv 0) rfl) (pv 3) (fun _ _ => rfl)))
        (pss_one (ps_expr (pe_bm PySem.F.plainAttrs_list PySem.F.slot_list_extend PySem.F.type_list_extend mt_extend (pv 2) (pa_cons
          (pe_lc (own := [("number", 5)]) (g := gName 5) rfl sc_holders.nd (pi_list (pe_callB (call_sortedDI rfl) (by rfl) T.free_sorted (by decide +kernel) (pa_cons (pv 4) pa_nil))) (blkOk_by (N := ["self", "serial", "found", "process", "table", "number"]) (sc := defScope s_System_holders) (by decide +kernel))
            (fun _ _ _ _ _ => pg_name (i := 5) sc_holders.nd rfl (Or.inl rfl)) (fun _ _ _ _ _ => pts_one (pt_cmpR op_eq (pe_dget hu (pv 4) (pv 5) (fun _ _ => rfl)) (pv 1) (nomark _))) (fun _ _ _ _ _ => pe_tup (pa_cons (pv 3) (pa_cons (pv 5) pa_nil)))) pa_nil))))))
      (pss_one (ps_ret (pv 2))))), ?_⟩
    refine ⟨by decide, fun F nF => ?_⟩
    have S0 := hS.ext (new_same (o := .lst []) nF)
    have h6 := hw.tabs6
    rw [show S.v.tabs.length = S.tabs.length from List.length_map ..] at h6
    refine ⟨_, rfl, S.p, S.dx, _, rfl, S0.ob, rfl, S, rfl, S0, by omega, fun pl npl => ?_⟩
    refine ⟨pl, rfl, ⟨_, SqL.of upd_same⟩, ?_⟩
    have nFl : F ≠ pl := fun z => by rw [← z, upd_same] at npl; cases npl
    have pids : S.tabs.map (·.1) = S.v.tabs.map (·.1) := (Sy.pids S).symm
    refine for_list (xs := (srtI (S.tabs.map (·.1))).map V.int) (fun j σ H3 => (∃ v3 v4 v5, σ = [some (.ref S.p), some (.int ser), some (.ref F), v3, v4, v5]) ∧ H3 pl = some (.lst ((srtI (S.tabs.map (·.1))).map V.int)) ∧ Gro K H F H3 (holdsD (((srtI (S.v.tabs.map (·.1))).take j).flatMap (hAt S.v.tabs ser))))
      ⟨⟨_, _, _, rfl⟩, upd_same, (Gro.start nF).ext (new_same npl)⟩ (fun j σ H3 hj g => SqL.of g.2.1) ?_ ?_
    · rintro j x σ H3 hx ⟨⟨v3, v4, v5, rfl⟩, hpl, g⟩
      rw [List.getElem?_map] at hx
      cases ep : (srtI (S.tabs.map (·.1)))[j]? with
      | none => rw [ep] at hx; cases hx
      | some p =>
        rw [ep] at hx
        cases hx
        obtain ⟨t, hl⟩ := lk_some_of (srtI_mem.mp (List.mem_of_getElem? ep))
        have S3 := hS.ext g.same
        have g1 := DGet.k (k := Sum.inl p) S3.tb
        rw [val_kv, hl] at g1
        have ht := S3.tt _ (lk_mem hl)
        have mem : (p, t.rows) ∈ S.v.tabs := List.mem_map.mpr ⟨_, lk_mem hl, rfl⟩
        have r8 : t.rows.length ≤ 8 := hw.rows8 mem
        have nd := hw.ndn _ mem
        obtain ⟨xs0, hF, _⟩ := g.has
        refine ⟨_, rfl, _, _, _, _, _, rfl, S3.ob, T.c_System, T.n_System_tables, rfl, _, rfl, _, _, rfl, g1, ?_⟩
        refine ⟨_, rfl, .inl ⟨rfl, _, SqL.of hF⟩, ?_⟩
        refine ⟨_, rfl, _, _, t.rows.map (·.1), rfl, .inl ht, kv_keys _ _, by rw [List.length_map]; omega, fun ys ps h1 h2 np => ?_⟩
        rw [srtI_eq h1 h2]
        refine ⟨ps, rfl, ⟨_, SqL.of upd_same⟩, fun D nD => ?_⟩
        have eH : Same H3 (upd H3 ps (.lst ((srtI (t.rows.map (·.1))).map V.int))) := new_same np
        refine lc_list (xs := (srtI (t.rows.map (·.1))).map V.int) (fun j H4 => Gro K (upd H3 ps (.lst ((srtI (t.rows.map (·.1))).map V.int))) D H4 ((((srtI (t.rows.map (·.1))).take j).filter fun n => decide (lk t.rows n = some ser)).map fun n => .tuple [.int p, .int n])) (Gro.start nD) (fun j H4 hj g => SqL.of (g.same _ _ upd_same)) (fun j x H4 hx gg => ?_) (fun H4 gg => ?_)
        · rw [List.getElem?_map] at hx
          cases en : (srtI (t.rows.map (·.1)))[j]? with
          | none => rw [en] at hx; cases hx
          | some n =>
            rw [en] at hx
            cases hx
            obtain ⟨z, hz⟩ := lk_some_of (srtI_mem.mp (List.mem_of_getElem? en))
            have S4 := S3.ext (eH.trans gg.same)
            have g2 := DGet.k (k := Sum.inl n) (S4.tt _ (lk_mem hl))
            rw [val_kv, hz] at g2
            refine ⟨rfl, _, rfl, _, rfl, _, _, rfl, g2, _, rfl, rfl, _, rfl, ?_⟩
            rw [take_next en, List.filter_append, List.map_append]
            have fl : ∀ (m : Nat), ((((srtI (t.rows.map (·.1))).take m).filter fun n => decide (lk t.rows n = some ser)).map fun n => (PyData.tuple [.int p, .int n])).length ≤ 8 := fun m => by
              rw [List.length_map]
              refine Nat.le_trans (List.length_filter_le _ _) ?_
              rw [List.length_take, srtI_len, List.length_map]
              exact Nat.le_trans (Nat.min_le_right _ _) r8
            by_cases c : z = ser
            · subst c
              rw [decide_eq_true (show V.int z = V.int z from rfl)]
              refine iteT ?_
              refine ⟨_, rfl, _, rfl, (by show 2 ≤ sizeLine; decide), fun p' np' => ?_⟩
              have d0 := gg.tup (Same.refl _) np' (vs := [.int p, .int n]) (es := [.int p, .int n]) (.cons (.int p) (.cons (.int n) .nil))
              obtain ⟨acc, a1, a2, a3⟩ := gg.add (new_same np') d0
              refine ⟨acc, a1, by rw [a2]; exact Nat.lt_of_le_of_lt (fl j) (by decide), ?_⟩
              rw [List.filter_cons, if_pos (decide_eq_true hz)]
              exact a3
            · rw [decide_eq_false (show V.int z ≠ V.int ser from fun q => c (V.int.inj q))]
              refine iteF ?_
              rw [List.filter_cons, if_neg (by rw [hz]; simpa using c), List.filter_nil, List.map_nil, List.append_nil]
              exact gg
        · rw [show ((srtI (t.rows.map (·.1))).map V.int).length = (srtI (t.rows.map (·.1))).length from List.length_map .., List.take_length, ← holdsIn_eq] at gg
          obtain ⟨xs, zs, a1, a2, a3, a4, a5⟩ := (g.ext eH).addAll gg
          refine ⟨_, _, xs, zs, rfl, rfl, a1, a2, ?_, ?_⟩
          · rw [a3, a4]
            have l1 := hw.holds48 ser j
            have l2 := holdsIn_len (ser := ser) (p := p) (rows := t.rows)
            have z1 : (holdsD (((srtI (S.v.tabs.map (·.1))).take j).flatMap (hAt S.v.tabs ser))).length = (((srtI (S.v.tabs.map (·.1))).take j).flatMap (hAt S.v.tabs ser)).length := List.length_map ..
            have z2 : (holdsD (holdsIn ser p t.rows)).length = (holdsIn ser p t.rows).length := List.length_map ..
            have z3 : (64 : Nat) ≤ sizeLine := by decide
            omega
          · have plF : pl ≠ F := Ne.symm nFl
            refine ⟨⟨_, _, _, rfl⟩, ?_, ?_⟩
            · rw [upd_ne plF]
              exact gg.same _ _ (eH _ _ hpl)
            · rw [← pids] 
              rw [take_next ep, List.flatMap_append]
              have e1 : holdsD (((srtI (S.tabs.map (·.1))).take j).flatMap (hAt S.v.tabs ser) ++ [p].flatMap (hAt S.v.tabs ser)) = holdsD (((srtI (S.v.tabs.map (·.1))).take j).flatMap (hAt S.v.tabs ser)) ++ holdsD (holdsIn ser p t.rows) := by
                unfold holdsD
                rw [List.map_append, pids]
                congr 2
                show hAt S.v.tabs ser p ++ [] = _
                rw [List.append_nil]
                unfold hAt
                rw [Sy.tabs_v, hl]
                rfl
              rw [e1]
              exact a5
    · rintro σ H3 ⟨⟨v3, v4, v5, rfl⟩, hpl, g⟩
      rw [show ((srtI (S.tabs.map (·.1))).map V.int).length = (srtI (S.v.tabs.map (·.1))).length from by rw [List.length_map, pids], List.take_length] at g
      exact ⟨_, rfl, q _ _ ⟨g.same, g.fin⟩⟩
theorem b_holders (T : Tx K mg) : Binds K (fdAt K (mA "System" "holders" K)) ["self", "serial"] [] := FunD.bindsN T.f_System_holders fun _ _ _ _ _ _ us hl => match us, hl with | [_, _], _ => rfl
end

/-! ### names, and the sets in the order of their names -/
def nameAt (v : Sv) (ser : Int) : Int × Int := (holds v.tabs ser).headD (0, 0)
def nameD (v : Sv) (ser : Int) : PyData := .tuple [.int (nameAt v ser).1, .int (nameAt v ser).2]
def sp_name_of (K : PySem.W.Frag) : Sp := fun vs H Q _ => ∃ (s : Sy) (ser : Int), vs = [.ref s.p, .int ser] ∧ SyAt K H s ∧ WF0 s.v ∧ holds s.v.tabs ser ≠ [] ∧ ∀ H' v, NewD K H H' v (nameD s.v ser) → Q v H'
def kdN (v : Sv) : V → PyData
  | .int ser => nameD v ser
  | _ => .tuple [.int 0, .int 0]
def setSers (v : Sv) : List Int := (v.ths.filter fun t => t.2.isSet).map (·.1)
def setsIn (v : Sv) : List Int := (setSers v).mergeSort fun a b => PySem.W.dataLe false (kdN v) (.int a) (.int b)
theorem setsIn_perm (v : Sv) : (setsIn v).Perm (setSers v) := List.mergeSort_perm _ _
theorem kdN_tup (v : Sv) (x : V) : ∃ a b, kdN v x = .tuple [.int a, .int b] := by
  cases x with
  | int i => exact ⟨_, _, rfl⟩
  | _ => exact ⟨0, 0, rfl⟩
theorem WF.held' {v : Sv} (h : WF v) {t : Int × Tv} (ht : t ∈ v.ths) : holds v.tabs t.1 ≠ [] := by
  obtain ⟨u, hu, r, hr, e⟩ := h.held t ht
  have l1 : lk v.tabs u.1 = some u.2 := lk_of_mem h.ndp hu
  have l2 : lk u.2 r.1 = some t.1 := by rw [lk_of_mem (h.ndn u hu) (show (r.1, r.2) ∈ u.2 from hr), e]
  intro z
  rw [holds_eq] at z
  have z1 := List.flatMap_eq_nil_iff.mp z u.1 (srtI_mem.mpr (List.mem_map.mpr ⟨u, hu, rfl⟩))
  unfold hAt at z1
  rw [l1] at z1
  unfold holdsIn at z1
  have z2 := List.map_eq_nil_iff.mp z1
  have : r.1 ∈ (srtI (u.2.map (·.1))).filter fun n => decide (lk u.2 n = some t.1) := List.mem_filter.mpr ⟨srtI_mem.mpr (List.mem_map.mpr ⟨r, hr, rfl⟩), decide_eq_true l2⟩
  rw [z2] at this
  cases this
/-- every set is held -/
def HeldS (v : Sv) : Prop := ∀ t ∈ v.ths, t.2.isSet = true → holds v.tabs t.1 ≠ []
theorem WF.heldS {v : Sv} (h : WF v) : HeldS v := fun t ht _ => h.held' ht
def sp_set_serials (K : PySem.W.Frag) : Sp := fun vs H Q _ => ∃ (s : Sy), vs = [.ref s.p] ∧ SyAt K H s ∧ WF0 s.v ∧ HeldS s.v ∧ s.made ≤ 1000000 ∧ ∀ H' p, Same H H' → H p = none → H' p = some (.lst ((setsIn s.v).map V.int)) → Q (.ref p) H'
section
variable {P : Program} {w : World} {K : PySem.W.Frag} {mg : Str → Option Value} {base : Heap}
theorem sc_name_of : FnScope ["self", "serial"] ["self", "serial"] (defScope s_System_name_of) := ⟨rfl, rfl, rfl, by decide +kernel, rfl, by decide +kernel, by decide +kernel⟩
theorem ok_name_of (T : Tx K mg) : FnOk P w K mg base CX0 5 (mA "System" "name_of" K) (fdAt K (mA "System" "name_of" K)) ["self", "serial"] (sp_name_of K) := by
  refine FunD.ok T.f_System_name_of sc_name_of (fun vs H Q E h => ?_) (fun cdv A outer s H vs Q E hr h => ?_)
  · obtain ⟨x, lo, rfl, _⟩ := h
    rfl
  · obtain ⟨S, ser, rfl, hS, hw, hn, q⟩ := h
    refine ⟨_, PSs.nox (pss_one (ps_ret (pe_ix ix_list (pe_meth (pv 0) T.c_System T.m_System_holders (ok_holders T) hr (b_holders T) .nil pass0 (pa_cons (pv 1) pa_nil)) pe_int (fun _ _ => rfl)))), ?_⟩
    refine ⟨_, rfl, S.p, S.dx, _, rfl, hS.ob, rfl, _, rfl, S, ser, rfl, hS, hw, fun H' p nd => ?_⟩
    cases e : holds S.v.tabs ser with
    | nil => exact (hn e).elim
    | cons r rest =>
      have nd' := nd.dat
      rw [e] at nd'
      generalize eV : V.ref p = vp at nd'
      cases nd' with
      | lst hs ha =>
        cases eV
        cases ha with
        | cons h1 h2 =>
          refine ⟨_, _, _, _, rfl, rfl, Same.seq frs_le hs, atI_nat (j := 0) rfl, q _ _ ⟨nd.same, ?_⟩⟩
          have : nameAt S.v ser = r := by unfold nameAt; rw [e]; rfl
          unfold nameD
          rw [this]
          exact h1
theorem b_name_of (T : Tx K mg) : Binds K (fdAt K (mA "System" "name_of" K)) ["self", "serial"] [] := FunD.bindsN T.f_System_name_of fun _ _ _ _ _ _ us hl => match us, hl with | [_, _], _ => rfl
theorem bm_name_of (T : Tx K mg) : BMeth K (ga K "System") "name_of" (mA "System" "name_of" K) := ⟨T.m_System_name_of, T.bm_System_name_of.1, T.bm_System_name_of.2.1, by decide, T.bm_System_name_of.2.2⟩
theorem sc_set_serials : FnScope ["self", "found", "serial"] ["self"] (defScope s_System_set_serials) := ⟨rfl, rfl, rfl, by decide +kernel, rfl, by decide +kernel, by decide +kernel⟩
theorem ok_set_serials (T : Tx K mg) : FnOk P w K mg base CX0 8 (mA "System" "set_serials" K) (fdAt K (mA "System" "set_serials" K)) ["self"] (sp_set_serials K) := by
  refine FunD.ok T.f_System_set_serials sc_set_serials (fun vs H Q E h => ?_) (fun cdv A outer s H vs Q E hr h => ?_)
  · obtain ⟨x, rfl, _⟩ := h
    rfl
  · obtain ⟨S, rfl, hS, hw, hld, hm, q⟩ := h
    have hu := hu_of hr
    refine ⟨_, PSs.nox (pss_cons (ps_lock (ps_setLc (i := 1) (own := [("serial", 2)]) (g := gName 2) rfl sc_set_serials.nd rfl rfl (sw_true rfl rfl rfl (by decide +kernel)) (pi_keys (pe_fld (pv 0) rfl)) (blkOk_by (N := ["self", "found", "serial"]) (sc := defScope s_System_set_serials) (by decide +kernel))
        (fun _ _ _ _ _ => pg_name (i := 2) sc_set_serials.nd rfl (Or.inl rfl)) (fun _ _ _ _ _ => pts_one (pt_val (pe_callB (call_isiK K) (by rfl) T.free_isinstance (by decide +kernel) (pa_cons (pe_dget hu (pe_fldK K (pv 0) rfl) (pv 2) (fun _ _ => rfl)) (pa_cons (pe_glob (v := .ref (ga K "WaitSet")) (by rfl) T.g_WaitSet rfl) pa_nil))))) (fun _ _ _ _ _ => pv 2)))
      (pss_one (ps_ret (pe_callBK (cr_sortMet (ok_name_of T) (hr.mono (by decide)) (b_name_of T) (fun _ _ _ _ h => h)) (by rfl) T.free_sorted (by decide +kernel) (pa_cons (pv 1) pa_nil) (pk_cons (pe_met (pv 0) T.c_System (bm_name_of T)) pk_nil))))), ?_⟩
    have nGp : S.p ≠ S.G := Ne.symm (hS.np (.inl (List.mem_cons_of_mem _ List.mem_cons_self)))
    refine ⟨S.G, _, hS.gb, True.intro, fun od => ?_⟩
    have kpO : ∀ {b : Addr} {o : HO}, b ≠ S.G → H b = some o → upd H S.G (.frz od (.dK (kv thV S.ths))) b = some o := fun h e => by rw [upd_ne h]; exact e
    refine ⟨_, rfl, _, _, _, _, _, rfl, kpO nGp hS.ob, T.c_System, T.n_System_things, rfl, S.G, od, rfl, .inl ⟨_, upd_same, fun D nD => ?_⟩⟩
    have nDG : D ≠ S.G := fun z => by rw [z, upd_same] at nD; cases nD
    have nD0 : H D = none := by rw [upd_ne nDG] at nD; exact nD
    have len : S.ths.length ≤ S.made.toNat := by
      have := hw.thsM
      rw [show S.v.ths.length = S.ths.length from List.length_map ..] at this
      exact this
    have sL : (1000000 : Nat) < sizeLine := by decide
    refine lc_it walk_keys (fun j H3 => H3 = upd (upd H S.G (.frz od (.dK (kv thV S.ths)))) D (.lst ((((S.ths.take j).filter fun t => t.2.tg.v.isSet).map (·.1)).map V.int))) rfl (fun j H3 hj e => by rw [e, upd_ne (Ne.symm nDG), upd_same]) (fun j x H3 H4 hj e3 y => ?_) (fun H3 e3 => ?_)
    · obtain ⟨rfl, kk, vv, g1, rfl⟩ := y
      obtain ⟨r, hr', rfl, rfl⟩ := kv_get g1
      subst e3
      have lkr : lk S.ths r.1 = some r.2 := lk_of_mem (by rw [← Sy.sers]; exact hw.nds) (List.mem_of_getElem? hr')
      have kp3 : ∀ {b : Addr} {o : HO}, b ≠ S.G → H b = some o → upd (upd H S.G (.frz od (.dK (kv thV S.ths)))) D (.lst ((((S.ths.take j).filter fun t => t.2.tg.v.isSet).map (·.1)).map V.int)) b = some o := fun h e => by rw [upd_ne (ne_of_none e nD0)]; exact kpO h e
      have dg : DGet (upd (upd H S.G (.frz od (.dK (kv thV S.ths)))) D (.lst ((((S.ths.take j).filter fun t => t.2.tg.v.isSet).map (·.1)).map V.int))) S.G (.int r.1) (some (thV r.2)) := .inl ⟨_, Sum.inl r.1, .inr ⟨od, by rw [upd_ne (Ne.symm nDG), upd_same]⟩, rfl, by rw [val_kv, lkr]; rfl⟩
      have mr := List.mem_of_getElem? hr'
      have ra : r.2.ad ≠ S.G := hS.dc_th (List.mem_cons_of_mem _ List.mem_cons_self) (.inl (Sy.th_in mr))
      refine ⟨rfl, _, rfl, _, _, _, _, _, rfl, kp3 nGp hS.ob, T.c_System, T.n_System_things, rfl, _, rfl, _, _, rfl, dg, ?_⟩
      rw [take_next hr', List.filter_append, List.map_append, List.map_append]
      obtain ⟨dx, fs, hi⟩ := (hS.gt _ mr).ins
      rcases hi with ⟨h1, d, u, f, etg⟩ | ⟨h1, d, L, R, es, row, etg⟩
      · refine ⟨_, _, .ref (ga K "Source"), .ref (ga K "WaitSet"), false, rfl, .own _, .base (.ins (kp3 ra h1) T.c_Source T.ci_Source (cls_get K) (cls_tak K) T.o_Source), T.q_Source_WaitSet, _, rfl, ?_⟩
        refine iteF ?_
        rw [List.filter_cons, if_neg (by rw [etg]; exact fun z => (nomatch z)), List.filter_nil, List.map_nil, List.map_nil, List.append_nil]
      · refine ⟨_, _, .ref (ga K "WaitSet"), .ref (ga K "WaitSet"), true, rfl, .own _, .base (.ins (kp3 ra h1) T.c_WaitSet T.ci_WaitSet (cls_get K) (cls_tak K) T.o_WaitSet), T.q_WaitSet_WaitSet, _, rfl, ?_⟩
        refine iteT ?_
        refine ⟨_, rfl, _, upd_same, ?_, ?_⟩
        · rw [List.length_map, List.length_map]
          have l1 := List.length_filter_le (fun t : Int × Th => t.2.tg.v.isSet) (S.ths.take j)
          rw [List.length_take] at l1
          omega
        · rw [List.filter_cons, if_pos (by rw [etg]; rfl), upd_upd]
          rfl
    · rw [kv_len, List.take_length] at e3
      refine ⟨by rw [e3, upd_ne (Ne.symm nDG), upd_same], ?_⟩
      have eH : upd H3 S.G (.dK (kv thV S.ths)) = upd H D (.lst ((setSers S.v).map V.int)) := by
        have es : (S.ths.filter fun t => t.2.tg.v.isSet).map (·.1) = setSers S.v := by
          unfold setSers
          show _ = ((S.ths.map fun t => (t.1, t.2.tg.v)).filter fun t => t.2.isSet).map (·.1)
          rw [List.filter_map, List.map_map]
          rfl
        rw [e3, es, upd_comm nDG, upd_upd, upd_idem hS.gb]
      rw [eH]
      have eD : Same H (upd H D (.lst ((setSers S.v).map V.int))) := new_same nD0
      have S1 := hS.ext eD
      refine ⟨_, rfl, _, rfl, S.p, S.dx, _, rfl, S1.ob, rfl, fun qm nq => ?_⟩
      have eq := new_same (o := .met (mA "System" "name_of" K) S.p) nq
      have kt := kdN_tup S.v
      refine ⟨D, qm, S.p, (setSers S.v).map V.int, kdN S.v, rfl, rfl, SqL.of (eq _ _ upd_same), upd_same, ?_, ?_, ?_, ?_, ?_⟩
      · exact PySem.W.AllAlike.of fun b b' => by
          obtain ⟨a1, a2, e1⟩ := kt b
          obtain ⟨b1, b2, e2⟩ := kt b'
          rw [e1, e2]
          rfl
      · exact PySem.W.Sortable.tuples fun b => by
          obtain ⟨a1, a2, e1⟩ := kt b
          exact ⟨_, _, e1⟩
      · intro x _
        obtain ⟨a1, a2, e1⟩ := kt x
        rw [e1]
        simp [PyData.depth, PyData.depthAll]
      · intro H1 x e1 hx
        obtain ⟨ser, hser, rfl⟩ := List.mem_map.mp hx
        obtain ⟨t, ht, rfl⟩ := List.mem_map.mp hser
        exact ⟨S, t.1, rfl, S1.ext (eq.trans e1), hw, hld _ (List.mem_filter.mp ht).1 (List.mem_filter.mp ht).2, fun H' v nd => ⟨nd.same, nd.dp⟩⟩
      · intro H2 p e2 np
        have e3 : Same H H2 := eD.trans (eq.trans e2)
        refine q _ _ (e3.trans (new_same np)) (e3.free np) ?_
        rw [upd_same]
        unfold setsIn
        rw [List.map_mergeSort (s := PySem.W.dataLe false (kdN S.v)) (fun a _ b _ => rfl)]
theorem b_set_serials (T : Tx K mg) : Binds K (fdAt K (mA "System" "set_serials" K)) ["self"] [] := FunD.bindsN T.f_System_set_serials fun _ _ _ _ _ _ us hl => match us, hl with | [_], _ => rfl
end

/-! ### what a number means -/
def errN (c : Str) (y : V) : List (Str × V) := [("number", y), ("caption", .str c)]
def ByNum (K : PySem.W.Frag) (t : Tb) (y : V) (H : Hp) (E : XK) (R : Int → Int → Prop) : Prop := (∃ n ser, y = .int n ∧ lk t.rows n = some ser ∧ R n ser) ∨ ((∀ n, y = .int n → lk t.rows n = none) ∧ Raised K H E "NotOpen" (errN "NotOpen" y))
def BySrc (K : PySem.W.Frag) (s : Sy) (x y : V) (H : Hp) (E : XK) (R : Int → Tb → Int → Int → Th → Prop) : Prop := ByProc K s x H E fun i t => ByNum K t y H E fun n ser => ∀ th, lk s.ths ser = some th → (th.tg.v.isSet = false → R i t n ser th) ∧ (th.tg.v.isSet = true → Raised K H E "NotASource" (errN "NotASource" y))
def BySet (K : PySem.W.Frag) (s : Sy) (x y : V) (H : Hp) (E : XK) (R : Int → Tb → Int → Int → Th → Prop) : Prop := ByProc K s x H E fun i t => ByNum K t y H E fun n ser => ∀ th, lk s.ths ser = some th → (th.tg.v.isSet = true → R i t n ser th) ∧ (th.tg.v.isSet = false → Raised K H E "NotASet" (errN "NotASet" y))
def sp_serial_at (K : PySem.W.Frag) : Sp := fun vs H Q E => ∃ (s : Sy) (x y : V), vs = [.ref s.p, x, y] ∧ SyAt K H s ∧ Obj' H x ∧ Obj' H y ∧ ByProc K s x H E fun _ t => ByNum K t y H E fun _ ser => Q (.int ser) H
def sp_source_at (K : PySem.W.Frag) : Sp := fun vs H Q E => ∃ (s : Sy) (x y : V), vs = [.ref s.p, x, y] ∧ SyAt K H s ∧ WF s.v ∧ Obj' H x ∧ Obj' H y ∧ BySrc K s x y H E fun _ _ _ ser _ => Q (.int ser) H
def sp_set_at (K : PySem.W.Frag) : Sp := fun vs H Q E => ∃ (s : Sy) (x y : V), vs = [.ref s.p, x, y] ∧ SyAt K H s ∧ WF s.v ∧ Obj' H x ∧ Obj' H y ∧ BySet K s x y H E fun _ _ _ ser _ => Q (.int ser) H
section
variable {P : Program} {w : World} {K : PySem.W.Frag} {mg : Str → Option Value} {base : Heap}
theorem ei_NotOpen (T : Tx K mg) : FnOk P w K mg base CX0 1 (mA "NotOpen" "__init__" K) (fdAt K (mA "NotOpen" "__init__" K)) ["self", "number"] (spErr (ga K "NotOpen") "number" "NotOpen") :=
  err_init T.x_NotOpen T.f_NotOpen___init__ ⟨rfl, rfl, rfl, by decide +kernel, rfl, by decide +kernel, by decide +kernel⟩ rfl ⟨by decide, by decide⟩ ⟨by decide, by decide⟩ (fun _ => ⟨rfl, rfl⟩) ⟨.inl rfl, .inl rfl⟩
theorem eb_NotOpen (T : Tx K mg) : Binds K (fdAt K (mA "NotOpen" "__init__" K)) ["self", "number"] [] := FunD.bindsN T.f_NotOpen___init__ fun _ _ _ _ _ _ us hl => match us, hl with | [_, _], _ => rfl
theorem ei_NotASource (T : Tx K mg) : FnOk P w K mg base CX0 1 (mA "NotASource" "__init__" K) (fdAt K (mA "NotASource" "__init__" K)) ["self", "number"] (spErr (ga K "NotASource") "number" "NotASource") :=
  err_init T.x_NotASource T.f_NotASource___init__ ⟨rfl, rfl, rfl, by decide +kernel, rfl, by decide +kernel, by decide +kernel⟩ rfl ⟨by decide, by decide⟩ ⟨by decide, by decide⟩ (fun _ => ⟨rfl, rfl⟩) ⟨.inl rfl, .inl rfl⟩
theorem eb_NotASource (T : Tx K mg) : Binds K (fdAt K (mA "NotASource" "__init__" K)) ["self", "number"] [] := FunD.bindsN T.f_NotASource___init__ fun _ _ _ _ _ _ us hl => match us, hl with | [_, _], _ => rfl
theorem ei_NotASet (T : Tx K mg) : FnOk P w K mg base CX0 1 (mA "NotASet" "__init__" K) (fdAt K (mA "NotASet" "__init__" K)) ["self", "number"] (spErr (ga K "NotASet") "number" "NotASet") :=
  err_init T.x_NotASet T.f_NotASet___init__ ⟨rfl, rfl, rfl, by decide +kernel, rfl, by decide +kernel, by decide +kernel⟩ rfl ⟨by decide, by decide⟩ ⟨by decide, by decide⟩ (fun _ => ⟨rfl, rfl⟩) ⟨.inl rfl, .inl rfl⟩
theorem eb_NotASet (T : Tx K mg) : Binds K (fdAt K (mA "NotASet" "__init__" K)) ["self", "number"] [] := FunD.bindsN T.f_NotASet___init__ fun _ _ _ _ _ _ us hl => match us, hl with | [_, _], _ => rfl
theorem sc_serial_at : FnScope ["self", "process", "number", "table"] ["self", "process", "number"] (defScope s_System_serial_at) := ⟨rfl, rfl, rfl, by decide +kernel, rfl, by decide +kernel, by decide +kernel⟩
theorem ok_serial_at (T : Tx K mg) : FnOk P w K mg base (L2.CX P w) 4 (mA "System" "serial_at" K) (fdAt K (mA "System" "serial_at" K)) ["self", "process", "number"] (sp_serial_at K) := by
  refine FunD.ok T.f_System_serial_at sc_serial_at (fun vs H Q E h => ?_) (fun cdv A outer s H vs Q E hr h => ?_)
  · obtain ⟨s, x, y, rfl, _⟩ := h
    rfl
  · obtain ⟨S, x, y, rfl, hS, hx, hy, q⟩ := h
    have hu := hu_of hr
    refine ⟨_, pss_cons (ps_set (i := 3) sc_serial_at.nd rfl (Or.inl rfl) (pe_meth (pv 0) T.c_System T.m_System_table_of (ok_table_of T) hr (b_table_of T) .nil (passes_call (takes_of rfl rfl rfl rfl) (fun _ _ _ _ h => h)) (pa_cons (pv 1) pa_nil)))
      (pss_cons (ps_if (PW.pt (pw_or (pt_not (pt_val (pe_call (ok_is_integer T) (hr.mono (by decide)) (by rfl) T.g_is_integer T.f_is_integer.kp (b_is_integer T) .nil pass0 (pa_cons (pv 2) pa_nil)))) (pw_or1 (pt_cmp (pc_dnotin hu (pv 2) (pv 3))))))
        (pss_one (ps_raise rfl (takes_of rfl rfl rfl rfl) (pmk_err T.x_NotOpen (ei_NotOpen T) (hr.mono (by decide)) (eb_NotOpen T) pass0 (by rfl) T.g_NotOpen (pv 2)))) pss_nil)
      (pss_one (ps_ret (pe_dget hu (pv 3) (pv 2) (fun _ _ => rfl))))), ?_⟩
    refine ⟨_, rfl, S.p, S.dx, _, rfl, hS.ob, rfl, _, rfl, S, x, rfl, hS, hx, ?_⟩
    rcases q with ⟨i, t, rfl, hl, q⟩ | ⟨hn, q⟩
    · refine .inl ⟨i, t, rfl, hl, ?_⟩
      have ht := hS.tt _ (lk_mem hl)
      refine ⟨_, rfl, y, rfl, hy, isI y, rfl, ?_⟩
      rcases q with ⟨n, ser, rfl, hs, q⟩ | ⟨hn, q⟩
      · have g := DGet.k (k := Sum.inl n) ht
        rw [val_kv, hs] at g
        refine iteF ⟨_, rfl, _, rfl, _, _, rfl, g, _, rfl, iteF ?_⟩
        exact ⟨_, rfl, _, rfl, _, _, rfl, g, q⟩
      · have er : ∃ v, ([some (V.ref S.p), some (V.int i), some y, some (V.ref t.ad)] : L2.St)[2]? = some (some v) ∧ ∀ d, H d = none → E (.ref (ga K "NotOpen")) (some d) (upd H d (.xd [("number", v), ("caption", .str "NotOpen")])) := ⟨y, rfl, fun d hd => q.here hd⟩
        cases y with
        | int n =>
          have g := DGet.k (k := Sum.inl n) ht
          rw [val_kv, hn n rfl] at g
          exact iteF ⟨_, rfl, _, rfl, _, _, rfl, g, _, rfl, iteT er⟩
        | _ => exact iteT er
    · exact .inr ⟨hn, q⟩
theorem b_serial_at (T : Tx K mg) : Binds K (fdAt K (mA "System" "serial_at" K)) ["self", "process", "number"] [] := FunD.bindsN T.f_System_serial_at fun _ _ _ _ _ _ us hl => match us, hl with | [_, _, _], _ => rfl
theorem WF.thing {s : Sy} (hw : WF s.v) {i n ser : Int} {t : Tb} (hl : lk s.tabs i = some t) (hs : lk t.rows n = some ser) : ∃ th, lk s.ths ser = some th := by
  have h := hw.th (i, t.rows) (List.mem_map.mpr ⟨_, lk_mem hl, rfl⟩) _ (lk_mem hs)
  rw [Sy.sers] at h
  exact lk_some_of h
theorem ty_src (T : Tx K mg) {H : Hp} {s : Sy} (S : SyAt K H s) {ser : Int} {th : Th} (h : lk s.ths ser = some th) : (th.tg.v.isSet = false ∧ TyX K H (.ref th.ad) (.ref (ga K "Source"))) ∨ (th.tg.v.isSet = true ∧ TyX K H (.ref th.ad) (.ref (ga K "WaitSet"))) := by
  obtain ⟨dx, fs, hi⟩ := (S.gt _ (lk_mem h)).ins
  rcases hi with ⟨h1, d, u, f, e⟩ | ⟨h1, d, L, R, es, row, e⟩
  · exact .inl ⟨by rw [show th.tg = _ from e]; rfl, .base (.ins h1 T.c_Source T.ci_Source (cls_get K) (cls_tak K) T.o_Source)⟩
  · exact .inr ⟨by rw [show th.tg = _ from e]; rfl, .base (.ins h1 T.c_WaitSet T.ci_WaitSet (cls_get K) (cls_tak K) T.o_WaitSet)⟩
theorem sc_source_at : FnScope ["self", "process", "number", "serial"] ["self", "process", "number"] (defScope s_System_source_at) := ⟨rfl, rfl, rfl, by decide +kernel, rfl, by decide +kernel, by decide +kernel⟩
theorem ok_source_at (T : Tx K mg) : FnOk P w K mg base (L2.CX P w) 5 (mA "System" "source_at" K) (fdAt K (mA "System" "source_at" K)) ["self", "process", "number"] (sp_source_at K) := by
  refine FunD.ok T.f_System_source_at sc_source_at (fun vs H Q E h => ?_) (fun cdv A outer s H vs Q E hr h => ?_)
  · obtain ⟨s, x, y, rfl, _⟩ := h
    rfl
  · obtain ⟨S, x, y, rfl, hS, hw, hx, hy, q⟩ := h
    have hu := hu_of hr
    refine ⟨_, pss_cons (ps_set (i := 3) sc_source_at.nd rfl (Or.inl rfl) (pe_meth (pv 0) T.c_System T.m_System_serial_at (ok_serial_at T) hr (b_serial_at T) .nil (passes_call (takes_of rfl rfl rfl rfl) (fun _ _ _ _ h => h)) (pa_cons (pv 1) (pa_cons (pv 2) pa_nil))))
      (pss_cons (ps_if (pt_not (pt_val (pe_callB call_isi (by rfl) T.free_isinstance (by decide +kernel) (pa_cons (pe_dget hu (pe_fld (pv 0) rfl) (pv 3) (fun _ _ => rfl)) (pa_cons (pe_glob (v := .ref (ga K "Source")) (by rfl) T.g_Source rfl) pa_nil)))))
        (pss_one (ps_raise rfl (takes_of rfl rfl rfl rfl) (pmk_err T.x_NotASource (ei_NotASource T) (hr.mono (by decide)) (eb_NotASource T) pass0 (by rfl) T.g_NotASource (pv 2)))) pss_nil)
      (pss_one (ps_ret (pv 3)))), ?_⟩
    refine ⟨_, rfl, S.p, S.dx, _, rfl, hS.ob, rfl, _, rfl, _, rfl, S, x, y, rfl, hS, hx, hy, ?_⟩
    rcases q with ⟨i, t, rfl, hl, q⟩ | ⟨hn, q⟩
    · refine .inl ⟨i, t, rfl, hl, ?_⟩
      rcases q with ⟨n, ser, rfl, hs, q⟩ | ⟨hn, q⟩
      · refine .inl ⟨n, ser, rfl, hs, ?_⟩
        obtain ⟨th, hth⟩ := hw.thing hl hs
        obtain ⟨q1, q2⟩ := q th hth
        have g := DGet.k (k := Sum.inl ser) hS.gb
        rw [val_kv, hth] at g
        refine ⟨_, rfl, _, _, _, _, _, rfl, hS.ob, T.c_System, T.n_System_things, rfl, _, rfl, _, _, rfl, g, ?_⟩
        rcases ty_src T hS hth with ⟨e, ty⟩ | ⟨e, ty⟩
        · refine ⟨_, _, _, .ref (ga K "Source"), true, rfl, .own _, ty, T.q_Source_Source, _, rfl, iteF ?_⟩
          exact ⟨_, rfl, q1 e⟩
        · refine ⟨_, _, _, .ref (ga K "Source"), false, rfl, .own _, ty, T.q_WaitSet_Source, _, rfl, iteT ?_⟩
          exact ⟨_, rfl, fun d hd => (q2 e).here hd⟩
      · exact .inr ⟨hn, q⟩
    · exact .inr ⟨hn, q⟩
theorem b_source_at (T : Tx K mg) : Binds K (fdAt K (mA "System" "source_at" K)) ["self", "process", "number"] [] := FunD.bindsN T.f_System_source_at fun _ _ _ _ _ _ us hl => match us, hl with | [_, _, _], _ => rfl
theorem sc_set_at : FnScope ["self", "process", "number", "serial"] ["self", "process", "number"] (defScope s_System_set_at) := ⟨rfl, rfl, rfl, by decide +kernel, rfl, by decide +kernel, by decide +kernel⟩
theorem ok_set_at (T : Tx K mg) : FnOk P w K mg base (L2.CX P w) 5 (mA "System" "set_at" K) (fdAt K (mA "System" "set_at" K)) ["self", "process", "number"] (sp_set_at K) := by
  refine FunD.ok T.f_System_set_at sc_set_at (fun vs H Q E h => ?_) (fun cdv A outer s H vs Q E hr h => ?_)
  · obtain ⟨s, x, y, rfl, _⟩ := h
    rfl
  · obtain ⟨S, x, y, rfl, hS, hw, hx, hy, q⟩ := h
    have hu := hu_of hr
    refine ⟨_, pss_cons (ps_set (i := 3) sc_set_at.nd rfl (Or.inl rfl) (pe_meth (pv 0) T.c_System T.m_System_serial_at (ok_serial_at T) hr (b_serial_at T) .nil (passes_call (takes_of rfl rfl rfl rfl) (fun _ _ _ _ h => h)) (pa_cons (pv 1) (pa_cons (pv 2) pa_nil))))
      (pss_cons (ps_if (pt_not (pt_val (pe_callB call_isi (by rfl) T.free_isinstance (by decide +kernel) (pa_cons (pe_dget hu (pe_fld (pv 0) rfl) (pv 3) (fun _ _ => rfl)) (pa_cons (pe_glob (v := .ref (ga K "WaitSet")) (by rfl) T.g_WaitSet rfl) pa_nil)))))
        (pss_one (ps_raise rfl (takes_of rfl rfl rfl rfl) (pmk_err T.x_NotASet (ei_NotASet T) (hr.mono (by decide)) (eb_NotASet T) pass0 (by rfl) T.g_NotASet (pv 2)))) pss_nil)
      (pss_one (ps_ret (pv 3)))), ?_⟩
    refine ⟨_, rfl, S.p, S.dx, _, rfl, hS.ob, rfl, _, rfl, _, rfl, S, x, y, rfl, hS, hx, hy, ?_⟩
    rcases q with ⟨i, t, rfl, hl, q⟩ | ⟨hn, q⟩
    · refine .inl ⟨i, t, rfl, hl, ?_⟩
      rcases q with ⟨n, ser, rfl, hs, q⟩ | ⟨hn, q⟩
      · refine .inl ⟨n, ser, rfl, hs, ?_⟩
        obtain ⟨th, hth⟩ := hw.thing hl hs
        obtain ⟨q1, q2⟩ := q th hth
        have g := DGet.k (k := Sum.inl ser) hS.gb
        rw [val_kv, hth] at g
        refine ⟨_, rfl, _, _, _, _, _, rfl, hS.ob, T.c_System, T.n_System_things, rfl, _, rfl, _, _, rfl, g, ?_⟩
        rcases ty_src T hS hth with ⟨e, ty⟩ | ⟨e, ty⟩
        · refine ⟨_, _, _, .ref (ga K "WaitSet"), false, rfl, .own _, ty, T.q_Source_WaitSet, _, rfl, iteT ?_⟩
          exact ⟨_, rfl, fun d hd => (q2 e).here hd⟩
        · refine ⟨_, _, _, .ref (ga K "WaitSet"), true, rfl, .own _, ty, T.q_WaitSet_WaitSet, _, rfl, iteF ?_⟩
          exact ⟨_, rfl, q1 e⟩
      · exact .inr ⟨hn, q⟩
    · exact .inr ⟨hn, q⟩
theorem b_set_at (T : Tx K mg) : Binds K (fdAt K (mA "System" "set_at" K)) ["self", "process", "number"] [] := FunD.bindsN T.f_System_set_at fun _ _ _ _ _ _ us hl => match us, hl with | [_, _, _], _ => rfl
end

/-! ### looks at counts and words -/
def isS : V → Bool
  | .str _ => true
  | _ => false
def words : List Str := ["level", "edge", "once"]
def isWord : V → Bool
  | .str z => decide (z ∈ words)
  | _ => false
theorem obj_str {K : PySem.W.Frag} {H : Hp} : ∀ {x : V}, Obj' H x → ∃ t b, TyX K H x t ∧ PySem.W.kitOne K t (.type "str") = some b ∧ b = isS x
  | .non, _ => ⟨.type "NoneType", false, .base .non, kit_ty (by decide +kernel), rfl⟩
  | .bl y, _ => ⟨.type "bool", false, .base (.bl y), kit_ty (by decide +kernel), rfl⟩
  | .int i, _ => ⟨.type "int", false, .base (.int i), kit_ty (by decide +kernel), rfl⟩
  | .str y, _ => ⟨.type "str", true, .base (.str y), kit_ty (by decide +kernel), rfl⟩
  | .ref a, h => by
    rcases h with ⟨xs, h⟩ | ⟨xs, h⟩
    · exact ⟨.type "list", false, .base (.lst h), kit_ty (by decide +kernel), rfl⟩
    · exact ⟨.type "tuple", false, .base (.tup h), kit_ty (by decide +kernel), rfl⟩
  | .byt _, h => h.elim
  | .flt _, h => h.elim
  | .ty _, h => h.elim
def errW (x : V) : List (Str × V) := [("word", x), ("caption", .str "BadWord")]
def sp_look_word (K : PySem.W.Frag) : Sp := fun vs H Q E => ∃ x, vs = [x] ∧ Obj' H x ∧ (isWord x = true → ∀ H', Same H H' → Q .non H') ∧ (isWord x = false → Raised K H E "BadWord" (errW x))
section
variable {P : Program} {w : World} {K : PySem.W.Frag} {mg : Str → Option Value} {base : Heap}
end
/-! ### what a source and a set do -/
def fLab (es : List En) (lab : Int) : Option En := es.find? fun e => decide (e.lab = lab)
def fKey (es : List En) (n ser : Int) : Option En := es.find? fun e => decide (e.num = n ∧ e.ser = ser)
def oRef : Option En → V
  | none => .non
  | some e => .ref e.ad
def sp_is_ready (K : PySem.W.Frag) : Sp := fun vs H Q _ => ∃ (a dx : Addr) (u : Int) (f : Bool), vs = [.ref a] ∧ H a = some (.ins (ga K "Source") dx (srcF u f)) ∧ Q (.bl (f || decide (0 < u))) H
def sp_labelled (K : PySem.W.Frag) : Sp := fun vs H Q _ => ∃ (a dx L R : Addr) (es : List En) (row : List Int) (lab : Int), vs = [.ref a, .int lab] ∧ TgAt K H a (.set dx L R es row) ∧ Q (oRef (fLab es lab)) H
def sp_keyed (K : PySem.W.Frag) : Sp := fun vs H Q _ => ∃ (a dx L R : Addr) (es : List En) (row : List Int) (n ser : Int), vs = [.ref a, .int n, .int ser] ∧ TgAt K H a (.set dx L R es row) ∧ ∀ H', Same H H' → Q (oRef (fKey es n ser)) H'
def sp_append_pending (K : PySem.W.Frag) : Sp := fun vs H Q _ => ∃ (a dx L R : Addr) (es : List En) (row : List Int) (e : En), vs = [.ref a, .ref e.ad] ∧ TgAt K H a (.set dx L R es row) ∧ EntF K ∧ H e.ad = some (.ins (ga K "Entry") e.dx (entF e)) ∧ row.length ≤ 1000000 ∧ Q .non (upd H R (.lst ((pendR row e.lab e.arm).map V.int)))
section
variable {P : Program} {w : World} {K : PySem.W.Frag} {mg : Str → Option Value} {base : Heap}
theorem sc_is_ready : FnScope ["self"] ["self"] (defScope s_Source_is_ready) := ⟨rfl, rfl, rfl, by decide +kernel, rfl, by decide +kernel, by decide +kernel⟩
theorem ok_is_ready (T : Tx K mg) : FnOk P w K mg base CX0 1 (pA "Source" "is_ready" K) (fdAt K (pA "Source" "is_ready" K)) ["self"] (sp_is_ready K) := by
  refine FunD.ok T.f_Source_is_ready sc_is_ready (fun vs H Q E h => ?_) (fun cdv A outer s H vs Q E hr h => ?_)
  · obtain ⟨a, dx, u, f, rfl, _⟩ := h
    rfl
  · obtain ⟨a, dx, u, f, rfl, ha, q⟩ := h
    refine ⟨_, PSs.nox (pss_one (ps_ret (pe_or (pe_fld (pv 0) rfl) (pe_one (pe_cmpR op_gt (pe_fld (pv 0) rfl) pe_int (nomark _)))))), ?_⟩
    refine ⟨_, rfl, _, _, _, _, _, rfl, ha, T.c_Source, T.n_Source_finished, rfl, f, rfl, ?_⟩
    cases f with
    | true => exact iteT q
    | false =>
      refine iteF ⟨_, rfl, _, _, _, _, _, rfl, ha, T.c_Source, T.n_Source_unread, rfl, _, _, rfl, rfl, ?_⟩
      exact q
theorem b_is_ready (T : Tx K mg) : Binds K (fdAt K (pA "Source" "is_ready" K)) ["self"] [] := FunD.bindsN T.f_Source_is_ready fun _ _ _ _ _ _ us hl => match us, hl with | [_], _ => rfl
theorem sc_labelled : FnScope ["self", "label", "entry"] ["self", "label"] (defScope s_WaitSet_labelled) := ⟨rfl, rfl, rfl, by decide +kernel, rfl, by decide +kernel, by decide +kernel⟩
theorem find_at {p : En → Bool} {l : List En} {k : Nat} {e : En} (h : l[k]? = some e) (hb : ∀ j < k, ∀ x, l[j]? = some x → p x = false) (hp : p e = true) : l.find? p = some e := by
  obtain ⟨hk, rfl⟩ := List.getElem?_eq_some_iff.mp h
  refine List.find?_eq_some_iff_getElem.mpr ⟨hp, k, hk, rfl, fun j hj => ?_⟩
  rw [hb j hj l[j] (List.getElem?_eq_getElem (Nat.lt_trans hj hk))]
  rfl
theorem find_no {p : En → Bool} {l : List En} (hb : ∀ j < l.length, ∀ x, l[j]? = some x → p x = false) : l.find? p = none := by
  rw [List.find?_eq_none]
  intro x hx
  obtain ⟨j, hj, e⟩ := List.mem_iff_getElem.mp hx
  rw [hb j hj x (by rw [List.getElem?_eq_getElem hj, e])]
  exact Bool.false_ne_true
theorem ok_labelled (T : Tx K mg) : FnOk P w K mg base CX0 1 (mA "WaitSet" "labelled" K) (fdAt K (mA "WaitSet" "labelled" K)) ["self", "label"] (sp_labelled K) := by
  refine FunD.ok T.f_WaitSet_labelled sc_labelled (fun vs H Q E h => ?_) (fun cdv A outer s H vs Q E hr h => ?_)
  · obtain ⟨a, dx, L, R, es, row, lab, rfl, _⟩ := h
    rfl
  · obtain ⟨a, dx, L, R, es, row, lab, rfl, ⟨h1, h2, h3, h4⟩, q⟩ := h
    refine ⟨_, PSs.nox (pss_cons (ps_for PassesOwn.never rfl (pi_list (pe_fld (pv 0) rfl)) (pg_name (i := 2) sc_labelled.nd rfl (Or.inl rfl))
        (pss_one (ps_if (pt_cmpR op_eq (pe_fld (pv 2) rfl) (pv 1) (nomark _)) (pss_one (ps_ret (pv 2))) pss_nil)))
      (pss_one (ps_ret pe_non))), ?_⟩
    refine ⟨_, rfl, _, _, _, _, _, rfl, h1, T.c_WaitSet, T.n_WaitSet_entries, rfl, L, rfl, ⟨_, SqL.of h2⟩, ?_⟩
    refine for_list (xs := es.map fun e => V.ref e.ad) (fun k σ H' => H' = H ∧ (∃ v, σ = [some (.ref a), some (.int lab), v]) ∧ ∀ j < k, ∀ x, es[j]? = some x → decide (x.lab = lab) = false) ⟨rfl, ⟨_, rfl⟩, fun j hj => absurd hj (Nat.not_lt_zero _)⟩ (fun k σ H' hk g => by rw [g.1]; exact SqL.of h2) ?_ ?_
    · rintro k x σ H' hx ⟨rfl, ⟨v, rfl⟩, hb⟩
      rw [List.getElem?_map] at hx
      cases en : es[k]? with
      | none => rw [en] at hx; cases hx
      | some e =>
        rw [en] at hx
        cases hx
        refine ⟨_, rfl, _, _, _, _, _, rfl, h4 e (List.mem_of_getElem? en), T.c_Entry, T.n_Entry_label, rfl, _, rfl, rfl, _, rfl, ?_⟩
        by_cases c : e.lab = lab
        · rw [decide_eq_true (show V.int e.lab = V.int lab from by rw [c])]
          refine iteT ⟨_, rfl, ?_⟩
          have : fLab es lab = some e := find_at en hb (decide_eq_true c)
          rw [this] at q
          exact q
        · rw [decide_eq_false (show V.int e.lab ≠ V.int lab from fun z => c (V.int.inj z))]
          refine iteF ⟨rfl, ⟨_, rfl⟩, fun j hj x hx => ?_⟩
          by_cases cj : j < k
          · exact hb j cj x hx
          · have : j = k := by omega
            subst this
            rw [en] at hx
            cases hx
            exact decide_eq_false c
    · rintro σ H' ⟨rfl, ⟨v, rfl⟩, hb⟩
      rw [List.length_map] at hb
      have : fLab es lab = none := find_no hb
      rw [this] at q
      exact q
theorem b_labelled (T : Tx K mg) : Binds K (fdAt K (mA "WaitSet" "labelled" K)) ["self", "label"] [] := FunD.bindsN T.f_WaitSet_labelled fun _ _ _ _ _ _ us hl => match us, hl with | [_, _], _ => rfl
end

section
variable {P : Program} {w : World} {K : PySem.W.Frag} {mg : Str → Option Value} {base : Heap}
theorem eqv_pair (a b c d : Int) : PyData.eqv (.tuple [.int a, .int b]) (.tuple [.int c, .int d]) = decide (a = c ∧ b = d) := by
  rw [Bool.eq_iff_iff]
  simp [PyData.eqv, PyData.eqvAll]
theorem shaped_pair (a b : Int) : SeqAt.shaped (.tuple [.int a, .int b]) = true := by simp [SeqAt.shaped, PyData.canLay0, PyData.canLayAll0, PyData.depth, PyData.depthAll]
theorem sc_keyed : FnScope ["self", "number", "serial", "entry"] ["self", "number", "serial"] (defScope s_WaitSet_keyed) := ⟨rfl, rfl, rfl, by decide +kernel, rfl, by decide +kernel, by decide +kernel⟩
theorem ok_keyed (T : Tx K mg) : FnOk P w K mg base CX0 1 (mA "WaitSet" "keyed" K) (fdAt K (mA "WaitSet" "keyed" K)) ["self", "number", "serial"] (sp_keyed K) := by
  refine FunD.ok T.f_WaitSet_keyed sc_keyed (fun vs H Q E h => ?_) (fun cdv A outer s H vs Q E hr h => ?_)
  · obtain ⟨a, dx, L, R, es, row, n, ser, rfl, _⟩ := h
    rfl
  · obtain ⟨a, dx, L, R, es, row, n, ser, rfl, ⟨h1, h2, h3, h4⟩, q⟩ := h
    have hu := hr.units
    refine ⟨_, PSs.nox (pss_cons (ps_for PassesOwn.never rfl (pi_list (pe_fld (pv 0) rfl)) (pg_name (i := 3) sc_keyed.nd rfl (Or.inl rfl))
        (pss_one (ps_if (pt_cmpR (op_eqD hu) (pe_tup (pa_cons (pe_fld (pv 3) rfl) (pa_cons (pe_fld (pv 3) rfl) pa_nil))) (pe_tup (pa_cons (pv 1) (pa_cons (pv 2) pa_nil))) (nomark _)) (pss_one (ps_ret (pv 3))) pss_nil)))
      (pss_one (ps_ret pe_non))), ?_⟩
    refine ⟨_, rfl, _, _, _, _, _, rfl, h1, T.c_WaitSet, T.n_WaitSet_entries, rfl, L, rfl, ⟨_, SqL.of h2⟩, ?_⟩
    refine for_list (xs := es.map fun e => V.ref e.ad) (fun k σ H' => Same H H' ∧ (∃ v, σ = [some (.ref a), some (.int n), some (.int ser), v]) ∧ ∀ j < k, ∀ x, es[j]? = some x → decide (x.num = n ∧ x.ser = ser) = false) ⟨Same.refl _, ⟨_, rfl⟩, fun j hj => absurd hj (Nat.not_lt_zero _)⟩ (fun k σ H' hk g => SqL.of (g.1 _ _ h2)) ?_ ?_
    · rintro k x σ H' hx ⟨e', ⟨v, rfl⟩, hb⟩
      rw [List.getElem?_map] at hx
      cases en : es[k]? with
      | none => rw [en] at hx; cases hx
      | some e =>
        rw [en] at hx
        cases hx
        have he := e' _ _ (h4 e (List.mem_of_getElem? en))
        refine ⟨_, rfl, _, _, _, _, _, rfl, he, T.c_Entry, T.n_Entry_number, rfl, _, rfl, _, _, _, _, _, rfl, he, T.c_Entry, T.n_Entry_serial, rfl, (by show 2 ≤ sizeLine; decide), fun t1 n1 => ⟨_, rfl, _, rfl, (by show 2 ≤ sizeLine; decide), fun t2 n2 => ?_⟩⟩
        have e2 := (new_same (o := .tup [.int e.num, .int e.ser]) n1).trans (new_same (o := .tup [.int n, .int ser]) n2)
        refine ⟨.tuple [.int e.num, .int e.ser], .tuple [.int n, .int ser], .tup (SqT.of (new_same n2 _ _ upd_same)) (.cons (.int _) (.cons (.int _) .nil)), .tup (SqT.of upd_same) (.cons (.int _) (.cons (.int _) .nil)), shaped_pair _ _, shaped_pair _ _, _, rfl, ?_⟩
        rw [eqv_pair]
        by_cases c : e.num = n ∧ e.ser = ser
        · rw [decide_eq_true c]
          refine iteT ⟨_, rfl, ?_⟩
          have : fKey es n ser = some e := find_at en hb (decide_eq_true c)
          have z := q _ (e'.trans e2)
          rw [this] at z
          exact z
        · rw [decide_eq_false c]
          refine iteF ⟨e'.trans e2, ⟨_, rfl⟩, fun j hj x hx => ?_⟩
          by_cases cj : j < k
          · exact hb j cj x hx
          · have : j = k := by omega
            subst this
            rw [en] at hx
            cases hx
            exact decide_eq_false c
    · rintro σ H' ⟨e', ⟨v, rfl⟩, hb⟩
      rw [List.length_map] at hb
      have : fKey es n ser = none := find_no hb
      have z := q _ e'
      rw [this] at z
      exact z
theorem b_keyed (T : Tx K mg) : Binds K (fdAt K (mA "WaitSet" "keyed" K)) ["self", "number", "serial"] [] := FunD.bindsN T.f_WaitSet_keyed fun _ _ _ _ _ _ us hl => match us, hl with | [_, _, _], _ => rfl
theorem inV_ints (x : Int) (l : List Int) : inV (.int x) (l.map V.int) = decide (x ∈ l) := by
  unfold inV
  rw [Bool.eq_iff_iff, List.any_map, List.any_eq_true, decide_eq_true_eq]
  constructor
  · rintro ⟨y, hy, e⟩
    have : y = x := by simpa [eqV] using e
    exact this ▸ hy
  · intro h
    exact ⟨x, h, by simp [eqV]⟩
theorem flat_ints (l : List Int) : (l.map V.int).all flatV = true := by
  rw [List.all_eq_true]
  intro x hx
  obtain ⟨y, _, rfl⟩ := List.mem_map.mp hx
  rfl
theorem sc_append_pending : FnScope ["self", "entry"] ["self", "entry"] (defScope s_WaitSet_append_pending) := ⟨rfl, rfl, rfl, by decide +kernel, rfl, by decide +kernel, by decide +kernel⟩
theorem ok_append_pending (T : Tx K mg) : FnOk P w K mg base CX0 1 (mA "WaitSet" "append_pending" K) (fdAt K (mA "WaitSet" "append_pending" K)) ["self", "entry"] (sp_append_pending K) := by
  refine FunD.ok T.f_WaitSet_append_pending sc_append_pending (fun vs H Q E h => ?_) (fun cdv A outer s H vs Q E hr h => ?_)
  · obtain ⟨a, dx, L, R, es, row, e, rfl, _⟩ := h
    rfl
  · obtain ⟨a, dx, L, R, es, row, e, rfl, ⟨h1, h2, h3, h4⟩, hE, he, hz, q⟩ := h
    refine ⟨_, PSs.nox (pss_one (ps_if (PW.pt (pw_and (pt_val (pe_fld (pv 1) rfl)) (pw_and1 (pt_cmpR op_notIn_seq (pe_fld (pv 1) rfl) (pe_fld (pv 0) rfl) (by rfl)))))
        (pss_one (ps_expr (pe_bm PySem.F.plainAttrs_list PySem.F.slot_list_append PySem.F.type_list_append mt_append (pe_fld (pv 0) rfl) (pa_cons (pe_fld (pv 1) rfl) pa_nil)))) pss_nil)), ?_⟩
    refine ⟨_, rfl, _, _, _, _, _, rfl, he, hE.c, hE.armed, rfl, e.arm, rfl, ?_⟩
    have same : pendR row e.lab e.arm = row → Q .non H := fun z => by
      rw [z, upd_idem h3] at q
      exact q
    cases ea : e.arm with
    | false =>
      refine iteF ?_
      exact same (by unfold pendR; rw [ea]; rfl)
    | true =>
      refine iteT ⟨_, rfl, _, _, _, _, _, rfl, he, hE.c, hE.label, rfl, _, rfl, _, _, _, _, _, rfl, h1, T.c_WaitSet, T.n_WaitSet_row, rfl, R, _, rfl, .inl (SqL.of h3), rfl, flat_ints row, _, rfl, ?_⟩
      rw [if_pos rfl, inV_ints]
      by_cases c : e.lab ∈ row
      · rw [decide_eq_true c]
        refine iteF ?_
        exact same (by unfold pendR; rw [if_neg (fun z => z.2 c)])
      · rw [decide_eq_false c]
        have er : pendR row e.lab e.arm = row ++ [e.lab] := by unfold pendR; rw [if_pos ⟨ea, c⟩]
        refine iteT ⟨_, rfl, _, _, _, _, _, rfl, h1, T.c_WaitSet, T.n_WaitSet_row, rfl, .inl ⟨rfl, _, SqL.of h3⟩, _, rfl, _, _, _, _, _, rfl, he, hE.c, hE.label, rfl, R, _, _, rfl, rfl, h3, ?_, ?_⟩
        · rw [List.length_map]
          exact Nat.lt_of_le_of_lt hz (by decide)
        · rw [er, List.map_append] at q
          exact q
theorem b_append_pending (T : Tx K mg) : Binds K (fdAt K (mA "WaitSet" "append_pending" K)) ["self", "entry"] [] := FunD.bindsN T.f_WaitSet_append_pending fun _ _ _ _ _ _ us hl => match us, hl with | [_, _], _ => rfl
end

/-! ### pending of all sets -/
theorem nodup_part {α β : Type} {f : α → List β} : ∀ {l : List α} {x : α}, (l.flatMap f).Nodup → x ∈ l → (f x).Nodup
  | a :: l, x, h, hx => by
    rw [List.flatMap_cons] at h
    obtain ⟨d1, d2, _⟩ := List.nodup_append.mp h
    rcases List.mem_cons.mp hx with z | z
    · exact z ▸ d1
    · exact nodup_part d2 z
theorem setSers_mem {s : Sy} {n : Int} (h : n ∈ setSers s.v) : ∃ t, (n, t) ∈ s.ths ∧ t.tg.v.isSet = true := by
  unfold setSers at h
  obtain ⟨u, hu, rfl⟩ := List.mem_map.mp h
  obtain ⟨h1, h2⟩ := List.mem_filter.mp hu
  obtain ⟨t, ht, rfl⟩ := List.mem_map.mp (show u ∈ s.ths.map fun t => (t.1, t.2.tg.v) from h1)
  exact ⟨t.2, ht, h2⟩
theorem setSers_nodup {v : Sv} (h : WF0 v) : (setSers v).Nodup := by
  unfold setSers
  exact (h.nds.sublist ((List.filter_sublist (l := v.ths)).map (·.1)))
section
variable {P : Program} {w : World} {K : PySem.W.Frag} {mg : Str → Option Value} {base : Heap}
end

/-! ### units arrive, units are read -/
theorem WF.re {v : Sv} (h : WF v) {n : Int} {tv tv' : Tv} (hl : lk v.ths n = some tv) (hk : tv'.isSet = tv.isSet) (hs : ∀ es row, tv' = .set es row → SetOk v es row) : WF (v.re n tv') := by
  rw [Sv.re_map]
  refine h.mapT (fun t ht => ?_) (fun t ht es row e => ?_)
  · by_cases c : t.1 = n
    · have z := lk_of_mem h.nds (show (t.1, t.2) ∈ v.ths from ht)
      rw [c, hl] at z
      cases z
      show (if t.1 = n then tv' else t.2).isSet = _
      rw [if_pos c]
      exact hk
    · show (if t.1 = n then tv' else t.2).isSet = _
      rw [if_neg c]
  · by_cases c : t.1 = n
    · rw [show (if t.1 = n then tv' else t.2) = tv' from if_pos c] at e
      exact hs es row e
    · rw [show (if t.1 = n then tv' else t.2) = t.2 from if_neg c] at e
      exact h.ok t ht es row e
theorem src_of {tg : Tg} (h : tg.v.isSet = false) : ∃ dx u f, tg = .src dx u f := by
  cases tg with
  | src dx u f => exact ⟨_, _, _, rfl⟩
  | set dx L R es row => cases h
theorem set_of {tg : Tg} (h : tg.v.isSet = true) : ∃ dx L R es row, tg = .set dx L R es row := by
  cases tg with
  | src dx u f => cases h
  | set dx L R es row => exact ⟨_, _, _, _, _, rfl⟩
/-- a source's units are changed -/
theorem SyAt.units {K : PySem.W.Frag} {H : Hp} {s : Sy} (S : SyAt K H s) (hw : WF s.v) {n : Int} {th : Th} {dx : Addr} {u : Int} {f : Bool} (hl : lk s.ths n = some th) (ht : th.tg = .src dx u f) (u' : Int) (f' : Bool) :
    SyAt K (upd H th.ad (.ins (ga K "Source") dx (srcF u' f'))) (s.re n th.ad (.src dx u' f')) ∧ (s.re n th.ad (.src dx u' f')).v = s.v.re n (.src u' f') ∧ WF (s.v.re n (.src u' f')) ∧ Fr' s (s.re n th.ad (.src dx u' f')) H (upd H th.ad (.ins (ga K "Source") dx (srcF u' f'))) := by
  have nds : (s.ths.map (·.1)).Nodup := by rw [← Sy.sers]; exact hw.nds
  refine ⟨S.re hl nds (fun b hb n1 n2 n3 => by rw [upd_ne n1]) upd_same (fun x hx => (nomatch hx)) (fun x hx => (nomatch hx)) List.nodup_nil List.nodup_nil, Sy.re_v .., hw.re (tv := .src u f) (by rw [Sy.ths_v, hl, Option.map_some, ht]; rfl) rfl (fun es row e => (nomatch e)), ⟨fun b o h nb => ?_, fun b hb => ?_, rfl⟩⟩
  · rw [upd_ne (show b ≠ th.ad from fun z => nb (z ▸ Sy.in_ths (Sy.th_in (lk_mem hl))))]
    exact h
  · rcases Sy.re_foot hl nds hb with z | z | z
    · exact .inl z
    · cases z
    · cases z
section
variable {P : Program} {w : World} {K : PySem.W.Frag} {mg : Str → Option Value} {base : Heap}
end

section
variable {P : Program} {w : World} {K : PySem.W.Frag} {mg : Str → Option Value} {base : Heap}
end

/-! ### row_of -/
section
variable {P : Program} {w : World} {K : PySem.W.Frag} {mg : Str → Option Value} {base : Heap}
end

/-! ### a registration is added -/
theorem inV_strs (x : Str) (l : List Str) : inV (.str x) (l.map V.str) = decide (x ∈ l) := by
  unfold inV
  rw [Bool.eq_iff_iff, List.any_map, List.any_eq_true, decide_eq_true_eq]
  constructor
  · rintro ⟨y, hy, e⟩
    have : y = x := by simpa [eqV] using e
    exact this ▸ hy
  · intro h
    exact ⟨x, h, by simp [eqV]⟩
def errL (c : Str) (y : V) : List (Str × V) := [("label", y), ("caption", .str c)]
def sp_Ent_init (K : PySem.W.Frag) : Sp := fun vs H Q _ => ∃ (p dx : Addr) (n ser lab : Int) (wd : Str) (arm : Bool), vs = [.ref p, .int n, .int ser, .int lab, .str wd, .bl arm] ∧ H p = some (.ins (ga K "Entry") dx []) ∧ Q .non (upd H p (.ins (ga K "Entry") dx (entF ⟨p, dx, n, ser, lab, wd, arm⟩)))
def addV (es : List Ev) (row : List Int) (n ser lab : Int) (wd : Str) (rdy : Bool) : Tv := .set (es ++ [⟨n, ser, lab, wd, true⟩]) (if rdy then pendR row lab true else row)
def sp_add (K : PySem.W.Frag) : Sp := fun vs H Q E => ∃ (s : Sy) (x y z l wd : V), vs = [.ref s.p, x, y, z, l, wd] ∧ SyAt K H s ∧ WF s.v ∧ Obj' H x ∧ Obj' H y ∧ Obj' H z ∧ Obj' H l ∧ Obj' H wd ∧ BySet K s x y H E fun _ t _ ser1 th1 => ByNum K t z H E fun n ser => ∀ th, lk s.ths ser = some th →
  (th.tg.v.isSet = true → Raised K H E "NotASource" (errN "NotASource" z)) ∧ ∀ u f, th.tg.v = .src u f → (betw l 0 999999 = false → Raised K H E "BadLabel" (errL "BadLabel" l)) ∧ ∀ lab, l = .int lab → 0 ≤ lab → lab ≤ 999999 → (isWord wd = false → Raised K H E "BadWord" (errW wd)) ∧ ∀ wz es row, wd = .str wz → wz ∈ words → th1.tg.v = .set es row →
    ((∃ e ∈ es, e.num = n ∧ e.ser = ser) → Raised K H E "Registered" (errN "Registered" z)) ∧ ((¬ ∃ e ∈ es, e.num = n ∧ e.ser = ser) → ((∃ e ∈ es, e.lab = lab) → Raised K H E "Taken" (errL "Taken" l)) ∧ ((¬ ∃ e ∈ es, e.lab = lab) →
      es.length < 1000000 ∧ ∀ H' s', SyAt K H' s' → s'.v = s.v.re ser1 (addV es row n ser lab wz (f || decide (0 < u))) → WF s'.v → Fr' s s' H H' → Q .non H'))
theorem fKey_none {es : List En} {n ser : Int} : fKey es n ser = none ↔ ¬ ∃ e ∈ es.map En.v, e.num = n ∧ e.ser = ser := by
  unfold fKey
  rw [List.find?_eq_none]
  constructor
  · rintro h ⟨e, he, q⟩
    obtain ⟨x, hx, rfl⟩ := List.mem_map.mp he
    exact h x hx (decide_eq_true q)
  · intro h x hx q
    exact h ⟨x.v, List.mem_map.mpr ⟨x, hx, rfl⟩, of_decide_eq_true q⟩
theorem fLab_none {es : List En} {lab : Int} : fLab es lab = none ↔ ¬ ∃ e ∈ es.map En.v, e.lab = lab := by
  unfold fLab
  rw [List.find?_eq_none]
  constructor
  · rintro h ⟨e, he, q⟩
    obtain ⟨x, hx, rfl⟩ := List.mem_map.mp he
    exact h x hx (decide_eq_true q)
  · intro h x hx q
    exact h ⟨x.v, List.mem_map.mpr ⟨x, hx, rfl⟩, of_decide_eq_true q⟩
section
variable {P : Program} {w : World} {K : PySem.W.Frag} {mg : Str → Option Value} {base : Heap}
theorem ei_BadWord (T : Tx K mg) : FnOk P w K mg base CX0 1 (mA "BadWord" "__init__" K) (fdAt K (mA "BadWord" "__init__" K)) ["self", "word"] (spErr (ga K "BadWord") "word" "BadWord") :=
  err_init T.x_BadWord T.f_BadWord___init__ ⟨rfl, rfl, rfl, by decide +kernel, rfl, by decide +kernel, by decide +kernel⟩ rfl ⟨by decide, by decide⟩ ⟨by decide, by decide⟩ (fun _ => ⟨rfl, rfl⟩) ⟨.inl rfl, .inl rfl⟩
theorem eb_BadWord (T : Tx K mg) : Binds K (fdAt K (mA "BadWord" "__init__" K)) ["self", "word"] [] := FunD.bindsN T.f_BadWord___init__ fun _ _ _ _ _ _ us hl => match us, hl with | [_, _], _ => rfl
theorem ei_BadLabel (T : Tx K mg) : FnOk P w K mg base CX0 1 (mA "BadLabel" "__init__" K) (fdAt K (mA "BadLabel" "__init__" K)) ["self", "label"] (spErr (ga K "BadLabel") "label" "BadLabel") :=
  err_init T.x_BadLabel T.f_BadLabel___init__ ⟨rfl, rfl, rfl, by decide +kernel, rfl, by decide +kernel, by decide +kernel⟩ rfl ⟨by decide, by decide⟩ ⟨by decide, by decide⟩ (fun _ => ⟨rfl, rfl⟩) ⟨.inl rfl, .inl rfl⟩
theorem eb_BadLabel (T : Tx K mg) : Binds K (fdAt K (mA "BadLabel" "__init__" K)) ["self", "label"] [] := FunD.bindsN T.f_BadLabel___init__ fun _ _ _ _ _ _ us hl => match us, hl with | [_, _], _ => rfl
theorem ei_Registered (T : Tx K mg) : FnOk P w K mg base CX0 1 (mA "Registered" "__init__" K) (fdAt K (mA "Registered" "__init__" K)) ["self", "number"] (spErr (ga K "Registered") "number" "Registered") :=
  err_init T.x_Registered T.f_Registered___init__ ⟨rfl, rfl, rfl, by decide +kernel, rfl, by decide +kernel, by decide +kernel⟩ rfl ⟨by decide, by decide⟩ ⟨by decide, by decide⟩ (fun _ => ⟨rfl, rfl⟩) ⟨.inl rfl, .inl rfl⟩
theorem eb_Registered (T : Tx K mg) : Binds K (fdAt K (mA "Registered" "__init__" K)) ["self", "number"] [] := FunD.bindsN T.f_Registered___init__ fun _ _ _ _ _ _ us hl => match us, hl with | [_, _], _ => rfl
theorem ei_Taken (T : Tx K mg) : FnOk P w K mg base CX0 1 (mA "Taken" "__init__" K) (fdAt K (mA "Taken" "__init__" K)) ["self", "label"] (spErr (ga K "Taken") "label" "Taken") :=
  err_init T.x_Taken T.f_Taken___init__ ⟨rfl, rfl, rfl, by decide +kernel, rfl, by decide +kernel, by decide +kernel⟩ rfl ⟨by decide, by decide⟩ ⟨by decide, by decide⟩ (fun _ => ⟨rfl, rfl⟩) ⟨.inl rfl, .inl rfl⟩
theorem eb_Taken (T : Tx K mg) : Binds K (fdAt K (mA "Taken" "__init__" K)) ["self", "label"] [] := FunD.bindsN T.f_Taken___init__ fun _ _ _ _ _ _ us hl => match us, hl with | [_, _], _ => rfl
theorem sc_look_word : FnScope ["thing"] ["thing"] (defScope s_look_word) := ⟨rfl, rfl, rfl, by decide +kernel, rfl, by decide +kernel, by decide +kernel⟩
theorem ok_look_word (T : Tx K mg) : FnOk P w K mg base (L2.CX P w) 3 (gA "look_word" K) (fdAt K (gA "look_word" K)) ["thing"] (sp_look_word K) := by
  refine FunD.ok T.f_look_word sc_look_word (fun vs H Q E h => ?_) (fun cdv A outer s H vs Q E hr h => ?_)
  · obtain ⟨x, rfl, _⟩ := h
    rfl
  · obtain ⟨x, rfl, hx, q1, q2⟩ := h
    obtain ⟨t1, i1⟩ := T.t_LEVEL
    obtain ⟨t2, i2⟩ := T.t_EDGE
    obtain ⟨t3, i3⟩ := T.t_ONCE
    refine ⟨_, pss_one (ps_if (PW.pt (pw_or (pt_not (pt_val (pe_callB call_isi (by rfl) T.free_isinstance (by decide +kernel) (pa_cons (pv 0) (pa_cons (pe_bltn (v := .ty "str") (by rfl) T.free_str (by decide +kernel) rfl) pa_nil)))))
        (pw_or1 (pt_cmpR op_notIn_seq (pv 0) (pe_tup (pa_cons (pe_glob (v := .str "level") (by rfl) i1 ⟨_, rfl⟩) (pa_cons (pe_glob (v := .str "edge") (by rfl) i2 ⟨_, rfl⟩) (pa_cons (pe_glob (v := .str "once") (by rfl) i3 ⟨_, rfl⟩) pa_nil)))) (by rfl)))))
        (pss_one (ps_raise rfl (takes_of rfl rfl rfl rfl) (pmk_err T.x_BadWord (ei_BadWord T) hr (eb_BadWord T) pass0 (by rfl) T.g_BadWord (pv 0)))) pss_nil), ?_⟩
    obtain ⟨t, b, ty, hk, hb⟩ := obj_str (K := K) hx
    refine ⟨_, rfl, _, _, t, .type "str", b, rfl, .ty "str", ty, hk, b, rfl, ?_⟩
    cases x with
    | str z =>
      cases (show b = true from hb)
      refine iteF ⟨_, rfl, (by show 3 ≤ sizeLine; decide), fun p np => ⟨p, _, rfl, .inr (SqT.of upd_same), rfl, rfl, _, rfl, ?_⟩⟩
      rw [if_pos rfl]
      have e : inV (.str z) [.str "level", .str "edge", .str "once"] = decide (z ∈ words) := inV_strs z words
      rw [e]
      by_cases c : z ∈ words
      · rw [decide_eq_true c]
        exact iteF (q1 (decide_eq_true c) _ (new_same np))
      · rw [decide_eq_false c]
        exact iteT ⟨_, rfl, fun d hd => ((q2 (decide_eq_false c)).ext (new_same np)).here hd⟩
    | _ =>
      cases (show b = false from hb)
      exact iteT ⟨_, rfl, fun d hd => (q2 rfl).here hd⟩
theorem b_look_word (T : Tx K mg) : Binds K (fdAt K (gA "look_word" K)) ["thing"] [] := FunD.bindsN T.f_look_word fun _ _ _ _ _ _ us hl => match us, hl with | [_], _ => rfl
theorem sc_Ent_init : FnScope ["self", "number", "serial", "label", "word", "armed"] ["self", "number", "serial", "label", "word", "armed"] (defScope s_Entry___init__) := ⟨rfl, rfl, rfl, by decide +kernel, rfl, by decide +kernel, by decide +kernel⟩
theorem ok_Ent_init (T : Tx K mg) : FnOk P w K mg base CX0 1 (mA "Entry" "__init__" K) (fdAt K (mA "Entry" "__init__" K)) ["self", "number", "serial", "label", "word", "armed"] (sp_Ent_init K) := by
  refine FunD.ok T.f_Entry___init__ sc_Ent_init (fun vs H Q E h => ?_) (fun cdv A outer s H vs Q E hr h => ?_)
  · obtain ⟨p, dx, n, ser, lab, wd, arm, rfl, _⟩ := h
    rfl
  · obtain ⟨p, dx, n, ser, lab, wd, arm, rfl, hp, q⟩ := h
    refine ⟨_, PSs.nox (pss_cons (ps_fld (pv 0) (pv 1) rfl) (pss_cons (ps_fld (pv 0) (pv 2) rfl) (pss_cons (ps_fld (pv 0) (pv 3) rfl) (pss_cons (ps_fld (pv 0) (pv 4) rfl) (pss_one (ps_fld (pv 0) (pv 5) rfl)))))), ?_⟩
    refine ⟨_, rfl, _, rfl, p, _, dx, _, rfl, hp, T.c_Entry, T.n_Entry_number, (by show 0 < 1000; decide), _, rfl, _, rfl, p, _, dx, _, rfl, upd_same, T.c_Entry, T.n_Entry_serial, (by show 1 < 1000; decide), _, rfl, _, rfl, p, _, dx, _, rfl, upd_same, T.c_Entry, T.n_Entry_label, (by show 2 < 1000; decide), _, rfl, _, rfl, p, _, dx, _, rfl, upd_same, T.c_Entry, T.n_Entry_word, (by show 3 < 1000; decide), _, rfl, _, rfl, p, _, dx, _, rfl, upd_same, T.c_Entry, T.n_Entry_armed, (by show 4 < 1000; decide), ?_⟩
    rw [upd_upd, upd_upd, upd_upd, upd_upd]
    exact q
theorem b_Ent (T : Tx K mg) : ∃ ds, Vals [.bl true] ds ∧ Binds K (fdAt K (mA "Entry" "__init__" K)) ["self", "number", "serial", "label", "word", "armed"] ds := by
  have z := FunD.binds1 (ps := ["self", "number", "serial", "label", "word", "armed"]) T.f_Entry___init__ 5 0 (fun z => nomatch z) rfl fun T kV doc pm an cdv ct us its l1 l2 => match us, its, l1, l2 with | [_, _, _, _, _], [_], _, _ => ⟨_, rfl, rfl⟩
  exact z
end

section
variable {P : Program} {w : World} {K : PySem.W.Frag} {mg : Str → Option Value} {base : Heap}
theorem SyAt.setLR {H : Hp} {s : Sy} (S : SyAt K H s) {ser : Int} {th : Th} {dx L R : Addr} {es : List En} {row : List Int} (hl : lk s.ths ser = some th) (et : th.tg = .set dx L R es row) : L ≠ R ∧ (es.map (·.ad)).Nodup := by
  constructor
  · have z := nodup_part (f := fun t : Int × Th => t.2.tg.lsts) S.nl (lk_mem hl)
    rw [show ((ser, th) : Int × Th).2.tg.lsts = [L, R] from by rw [show ((ser, th) : Int × Th).2.tg = _ from et]; rfl] at z
    simp at z
    exact z
  · have z := nodup_part (f := fun t : Int × Th => t.2.tg.ents) S.ne (lk_mem hl)
    rw [show ((ser, th) : Int × Th).2.tg.ents = es.map (·.ad) from by rw [show ((ser, th) : Int × Th).2.tg = _ from et]; rfl] at z
    exact z
theorem sc_add : FnScope ["self", "process", "set_number", "number", "label", "word", "waiting", "serial", "entry"] ["self", "process", "set_number", "number", "label", "word"] (defScope s_System_add) := ⟨rfl, rfl, rfl, by decide +kernel, rfl, by decide +kernel, by decide +kernel⟩
theorem ok_add (T : Tx K mg) : FnOk P w K mg base (L2.CX P w) 6 (mA "System" "add" K) (fdAt K (mA "System" "add" K)) ["self", "process", "set_number", "number", "label", "word"] (sp_add K) := by
  refine FunD.ok T.f_System_add sc_add (fun vs H Q E h => ?_) (fun cdv A outer s H vs Q E hr h => ?_)
  · obtain ⟨s, x, y, z, l, wd, rfl, _⟩ := h
    rfl
  · obtain ⟨S, x, y, z, l, wd, rfl, hS, hw, hx, hy, hz, hlb, hwd, q⟩ := h
    have hu := hu_of hr
    obtain ⟨tl, il⟩ := T.i_MOST_LABEL
    obtain ⟨ds, hds, hbE⟩ := b_Ent T
    refine ⟨_, pss_cons (ps_set (i := 6) sc_add.nd rfl (Or.inl rfl) (pe_dget hu (pe_fld (pv 0) rfl) (pe_meth (pv 0) T.c_System T.m_System_set_at (ok_set_at T) hr (b_set_at T) .nil (passes_call (takes_of rfl rfl rfl rfl) (fun _ _ _ _ h => h)) (pa_cons (pv 1) (pa_cons (pv 2) pa_nil))) (fun _ _ => rfl)))
      (pss_cons (ps_set (i := 7) sc_add.nd rfl (Or.inl rfl) (pe_meth (pv 0) T.c_System T.m_System_source_at (ok_source_at T) hr (b_source_at T) .nil (passes_call (takes_of rfl rfl rfl rfl) (fun _ _ _ _ h => h)) (pa_cons (pv 1) (pa_cons (pv 3) pa_nil))))
      (pss_cons (ps_if (pt_not (pt_val (pe_call (ok_is_between T) (hr.mono (by decide)) (by rfl) T.g_is_between T.f_is_between.kp (b_is_between T) .nil pass0 (pa_cons (pv 4) (pa_cons pe_int (pa_cons (pe_glob (v := .int 999999) (by rfl) il ⟨_, rfl⟩) pa_nil))))))
        (pss_one (ps_raise rfl (takes_of rfl rfl rfl rfl) (pmk_err T.x_BadLabel (ei_BadLabel T) (hr.mono (by decide)) (eb_BadLabel T) pass0 (by rfl) T.g_BadLabel (pv 4)))) pss_nil)
      (pss_cons (ps_expr (pe_call (ok_look_word T) (hr.mono (by decide)) (by rfl) T.g_look_word T.f_look_word.kp (b_look_word T) .nil (passes_call (takes_of rfl rfl rfl rfl) (fun _ _ _ _ h => h)) (pa_cons (pv 5) pa_nil)))
      (pss_cons (ps_if (pt_cmpR op_notN (pe_meth (pv 6) T.c_WaitSet T.m_WaitSet_keyed (ok_keyed T) (hr.mono (by decide)) (b_keyed T) .nil pass0 (pa_cons (pv 3) (pa_cons (pv 7) pa_nil))) pe_non (nomark _))
        (pss_one (ps_raise rfl (takes_of rfl rfl rfl rfl) (pmk_err T.x_Registered (ei_Registered T) (hr.mono (by decide)) (eb_Registered T) pass0 (by rfl) T.g_Registered (pv 3)))) pss_nil)
      (pss_cons (ps_if (pt_cmpR op_notN (pe_meth (pv 6) T.c_WaitSet T.m_WaitSet_labelled (ok_labelled T) (hr.mono (by decide)) (b_labelled T) .nil pass0 (pa_cons (pv 4) pa_nil)) pe_non (nomark _))
        (pss_one (ps_raise rfl (takes_of rfl rfl rfl rfl) (pmk_err T.x_Taken (ei_Taken T) (hr.mono (by decide)) (eb_Taken T) pass0 (by rfl) T.g_Taken (pv 4)))) pss_nil)
      (pss_cons (ps_set (i := 8) sc_add.nd rfl (Or.inl rfl) (pe_make T.k_Entry (ok_Ent_init T) (hr.mono (by decide)) (by rfl) T.g_Entry hbE hds pass0 (pa_cons (pv 3) (pa_cons (pv 7) (pa_cons (pv 4) (pa_cons (pv 5) pa_nil))))))
      (pss_cons (ps_expr (pe_bm PySem.F.plainAttrs_list PySem.F.slot_list_append PySem.F.type_list_append mt_append (pe_fld (pv 6) rfl) (pa_cons (pv 8) pa_nil)))
      (pss_one (ps_if (pt_val (pe_prop (pe_dget hu (pe_fld (pv 0) rfl) (pv 7) (fun _ _ => rfl)) T.c_Source T.p_Source_is_ready (ok_is_ready T) (hr.mono (by decide)) (b_is_ready T) .nil pass0 rfl))
        (pss_one (ps_expr (pe_meth (pv 6) T.c_WaitSet T.m_WaitSet_append_pending (ok_append_pending T) (hr.mono (by decide)) (b_append_pending T) .nil pass0 (pa_cons (pv 8) pa_nil)))) pss_nil))))))))), ?_⟩
    refine ⟨_, rfl, _, _, _, _, _, rfl, hS.ob, T.c_System, T.n_System_things, rfl, _, rfl, S.p, S.dx, _, rfl, hS.ob, rfl, _, rfl, _, rfl, S, x, y, rfl, hS, hw, hx, hy, ?_⟩
    rcases q with ⟨i, t, rfl, hl, q⟩ | ⟨hn, q⟩
    rotate_left
    · exact .inr ⟨hn, q⟩
    refine .inl ⟨i, t, rfl, hl, ?_⟩
    rcases q with ⟨n1, ser1, rfl, hs1, q⟩ | ⟨hn, q⟩
    rotate_left
    · exact .inr ⟨hn, q⟩
    refine .inl ⟨n1, ser1, rfl, hs1, fun th1 hth1 => ⟨fun e1 => ?_, (q th1 hth1).2⟩⟩
    have q := (q th1 hth1).1 e1
    obtain ⟨dx, L, R, es, row, et1⟩ := set_of e1
    have g1 := DGet.k (k := Sum.inl ser1) hS.gb
    rw [val_kv, hth1] at g1
    have ht1 := hS.gt _ (lk_mem hth1)
    rw [show ((ser1, th1) : Int × Th).2.tg = .set dx L R es row from et1] at ht1
    obtain ⟨nLR, nde⟩ := hS.setLR hth1 et1
    refine ⟨_, _, rfl, g1, _, rfl, S.p, S.dx, _, rfl, hS.ob, rfl, _, rfl, _, rfl, S, .int i, z, rfl, hS, hw, hx, hz, .inl ⟨i, t, rfl, hl, ?_⟩⟩
    rcases q with ⟨n, ser, rfl, hs, q⟩ | ⟨hn, q⟩
    rotate_left
    · exact .inr ⟨hn, q⟩
    refine .inl ⟨n, ser, rfl, hs, fun th hth => ⟨fun e => ?_, (q th hth).1⟩⟩
    obtain ⟨dx0, u, f, et⟩ := src_of e
    obtain ⟨qa, qb⟩ := (q th hth).2 u f (by rw [et]; rfl)
    refine ⟨_, rfl, l, 0, 999999, rfl, hlb, _, rfl, ?_⟩
    cases c : betw l 0 999999 with
    | false => exact iteT ⟨_, rfl, fun d hd => (qa c).here hd⟩
    | true =>
      obtain ⟨lab, rfl, b1, b2⟩ := betw_int c
      obtain ⟨qc, qd⟩ := qb lab rfl b1 b2
      refine iteF ⟨_, rfl, wd, rfl, hwd, fun cw H2 e2 => ?_, qc⟩
      obtain ⟨wz, rfl, hwz⟩ : ∃ wz, wd = .str wz ∧ wz ∈ words := by
        cases wd with
        | str wz => exact ⟨wz, rfl, of_decide_eq_true cw⟩
        | _ => cases cw
      obtain ⟨qe, qf⟩ := qd wz _ _ rfl hwz (by rw [et1]; rfl)
      have S2 := hS.ext e2
      have t2 : TgAt K H2 th1.ad (.set dx L R es row) := by
        have z := S2.gt _ (lk_mem hth1)
        rw [show ((ser1, th1) : Int × Th).2.tg = .set dx L R es row from et1] at z
        exact z
      refine ⟨_, rfl, th1.ad, dx, _, rfl, t2.1, rfl, _, rfl, _, rfl, th1.ad, dx, L, R, es, row, n, ser, rfl, t2, fun H3 e3 => ⟨rfl, _, rfl, ?_⟩⟩
      by_cases ck : ∃ e ∈ es.map En.v, e.num = n ∧ e.ser = ser
      · have nk : fKey es n ser ≠ none := fun z => fKey_none.mp z ck
        cases ek : fKey es n ser with
        | none => exact (nk ek).elim
        | some ee => exact iteT ⟨_, rfl, fun d hd => ((qe ck).ext (e2.trans e3)).here hd⟩
      · rw [fKey_none.mpr ck]
        refine iteF ?_
        obtain ⟨qg, qh⟩ := qf ck
        have t3 : TgAt K H3 th1.ad (.set dx L R es row) := ⟨e3 _ _ t2.1, e3 _ _ t2.2.1, e3 _ _ t2.2.2.1, fun x hx => e3 _ _ (t2.2.2.2 x hx)⟩
        refine ⟨_, rfl, th1.ad, dx, _, rfl, t3.1, rfl, _, rfl, th1.ad, dx, L, R, es, row, lab, rfl, t3, rfl, _, rfl, ?_⟩
        by_cases cl : ∃ e ∈ es.map En.v, e.lab = lab
        · have nk : fLab es lab ≠ none := fun z => fLab_none.mp z cl
          cases ek : fLab es lab with
          | none => exact (nk ek).elim
          | some ee => exact iteT ⟨_, rfl, fun d hd => ((qg cl).ext (e2.trans e3)).here hd⟩
        · rw [fLab_none.mpr cl]
          refine iteF ?_
          obtain ⟨hz6, qi⟩ := qh cl
          have E3 := e2.trans e3
          have S3 := hS.ext E3
          refine ⟨_, rfl, _, rfl, _, rfl, _, rfl, fun p dp np nd ne => ⟨p, dp, n, ser, lab, wz, true, rfl, upd_same, rfl, ?_⟩⟩
          rw [upd_upd]
          let H4 : Hp := upd (upd H3 dp (.own p)) p (.ins (ga K "Entry") dp (entF ⟨p, dp, n, ser, lab, wz, true⟩))
          have e4 : Same H3 H4 := (new_same nd).trans (new_same (by rw [upd_ne (Ne.symm ne)]; exact np))
          have hp4 : H4 p = some (.ins (ga K "Entry") dp (entF ⟨p, dp, n, ser, lab, wz, true⟩)) := upd_same
          have t4 : TgAt K H4 th1.ad (.set dx L R es row) := ⟨e4 _ _ t3.1, e4 _ _ t3.2.1, e4 _ _ t3.2.2.1, fun x hx => e4 _ _ (t3.2.2.2 x hx)⟩
          refine ⟨_, rfl, _, _, _, _, _, rfl, t4.1, T.c_WaitSet, T.n_WaitSet_entries, rfl, .inl ⟨rfl, _, SqL.of t4.2.1⟩, _, rfl, L, _, _, rfl, rfl, t4.2.1, by rw [List.length_map]; exact Nat.lt_trans (by rw [List.length_map] at hz6; exact hz6) (by decide), ?_⟩
          have nL : ∀ {b : Addr} {o : HO}, H4 b = some o → (∀ xs, o ≠ .lst xs) → upd H4 L (.lst ((es.map fun e => V.ref e.ad) ++ [.ref p])) b = some o := fun {b o} h k => by rw [upd_ne (ne_of h t4.2.1 (k _))]; exact h
          have S4 := S3.ext e4
          have g4 := DGet.k (k := Sum.inl ser) S4.gb
          rw [val_kv, hth] at g4
          have hta4 := S4.gt _ (lk_mem hth)
          rw [show ((ser, th) : Int × Th).2.tg = .src dx0 u f from et] at hta4
          have g5 : DGet (upd H4 L (.lst ((es.map fun e => V.ref e.ad) ++ [.ref p]))) S.G (.int ser) (some (thV th)) := .inl ⟨_, Sum.inl ser, .inl (nL S4.gb fun _ z => nomatch z), rfl, by rw [val_kv, hth]; rfl⟩
          refine ⟨_, rfl, _, _, _, _, _, rfl, nL S4.ob (fun _ z => nomatch z), T.c_System, T.n_System_things, rfl, _, rfl, _, _, rfl, g5, th.ad, dx0, _, rfl, nL hta4 (fun _ z => nomatch z), th.ad, dx0, u, f, rfl, nL hta4 (fun _ z => nomatch z), _, rfl, ?_⟩
          have t5 : TgAt K (upd H4 L (.lst ((es.map fun e => V.ref e.ad) ++ [.ref p]))) th1.ad (.set dx L R (es ++ [⟨p, dp, n, ser, lab, wz, true⟩]) row) := by
            refine ⟨nL t4.1 (fun _ z => nomatch z), by rw [upd_same, List.map_append]; rfl, by rw [upd_ne (Ne.symm nLR)]; exact t4.2.2.1, fun x hx => ?_⟩
            rcases List.mem_append.mp hx with z | z
            · exact nL (t4.2.2.2 x z) (fun _ z => nomatch z)
            · cases List.mem_singleton.mp z
              exact nL hp4 (fun _ z => nomatch z)
          have so : SetOk S.v (es.map En.v) row := hw.ok (ser1, th1.tg.v) (List.mem_map.mpr ⟨(ser1, th1), lk_mem hth1, rfl⟩) _ _ (by show th1.tg.v = _; rw [et1]; rfl)
          have nds : (S.ths.map (·.1)).Nodup := by rw [← Sy.sers]; exact hw.nds
          have pf : p ∉ S.foot := S3.notfoot np
          have fin : ∀ (row' : List Int) (H6 : Hp), H6 = upd (upd H4 L (.lst ((es.map fun e => V.ref e.ad) ++ [.ref p]))) R (.lst (row'.map V.int)) → RowOk (es.map En.v ++ [⟨n, ser, lab, wz, true⟩]) row' → row' = (if (f || decide (0 < u)) then pendR row lab true else row) → Q .non H6 := fun row' H6 e6 ro er => by
            have t6 : TgAt K H6 th1.ad (.set dx L R (es ++ [⟨p, dp, n, ser, lab, wz, true⟩]) row') := by
              rw [e6]
              refine ⟨by rw [upd_ne (ne_of t5.1 t5.2.2.1 fun z => nomatch z)]; exact t5.1, by rw [upd_ne nLR]; exact t5.2.1, upd_same, fun x hx => by rw [upd_ne (ne_of (t5.2.2.2 x hx) t5.2.2.1 fun z => nomatch z)]; exact t5.2.2.2 x hx⟩
            have kp6 : ∀ b o, H b = some o → b ≠ L → b ≠ R → H6 b = some o := fun b o h n1 n2 => by
              rw [e6, upd_ne n2, upd_ne n1]
              exact e4 _ _ (E3 _ _ h)
            have S6 : SyAt K H6 (S.re ser1 th1.ad (.set dx L R (es ++ [⟨p, dp, n, ser, lab, wz, true⟩]) row')) := by
              refine hS.re hth1 nds (fun b hb n1 n2 n3 => ?_) t6 (fun x hx => .inl ?_) (fun x hx => ?_) ?_ ?_
              · obtain ⟨o, ho⟩ := hS.some_of hb
                rw [ho]
                exact kp6 b o ho (fun z => n2 (by rw [et1, z]; simp [Tg.lsts])) (fun z => n2 (by rw [et1, z]; simp [Tg.lsts]))
              · rw [et1]
                exact hx
              · obtain ⟨y, hy, rfl⟩ := List.mem_map.mp hx
                rcases List.mem_append.mp hy with z | z
                · exact .inl (by rw [et1]; exact List.mem_map.mpr ⟨y, z, rfl⟩)
                · cases List.mem_singleton.mp z
                  exact .inr pf
              · show [L, R].Nodup
                simp [nLR]
              · show ((es ++ [(⟨p, dp, n, ser, lab, wz, true⟩ : En)]).map (·.ad)).Nodup
                rw [List.map_append]
                refine List.nodup_append.mpr ⟨nde, by simp, fun a ha b hb z => ?_⟩
                have zb : b = p := List.mem_singleton.mp hb
                exact pf (by rw [← zb, ← z]; exact Sy.in_ents (Sy.en_in (lk_mem hth1) (by rw [show ((ser1, th1) : Int × Th).2.tg = _ from et1]; exact ha)))
            have ev : (S.re ser1 th1.ad (.set dx L R (es ++ [⟨p, dp, n, ser, lab, wz, true⟩]) row')).v = S.v.re ser1 (addV (es.map En.v) row n ser lab wz (f || decide (0 < u))) := by
              rw [Sy.re_v]
              show S.v.re ser1 (.set ((es ++ [(⟨p, dp, n, ser, lab, wz, true⟩ : En)]).map En.v) row') = _
              unfold addV
              rw [List.map_append, ← er]
              rfl
            refine qi _ _ S6 ev ?_ ⟨fun b o h nb => kp6 b o h (fun z => nb ?_) (fun z => nb ?_), fun b hb => ?_, rfl⟩
            · rw [ev]
              refine hw.re (tv := .set (es.map En.v) row) (by rw [Sy.ths_v, hth1, Option.map_some, et1]; rfl) rfl fun es' row2 ee => ?_
              unfold addV at ee
              cases ee
              rw [← er]
              refine ⟨?_, ?_, ro.1, ro.2, fun x hx => ?_, by rw [List.length_append]; exact hz6⟩
              · rw [List.map_append]
                exact nd_snoc so.1 fun z => cl (by
                  obtain ⟨x, hx, q⟩ := List.mem_map.mp z
                  exact ⟨x, hx, q⟩)
              · rw [List.map_append]
                refine List.nodup_append.mpr ⟨so.2.1, by simp, fun a ha b hb z => ?_⟩
                obtain ⟨x, hx, q⟩ := List.mem_map.mp ha
                have zb : b = (n, ser) := List.mem_singleton.mp hb
                rw [zb, ← q] at z
                cases z
                exact ck ⟨x, hx, rfl, rfl⟩
              · rcases List.mem_append.mp hx with z | z
                · exact so.2.2.2.2.1 x z
                · cases List.mem_singleton.mp z
                  exact ⟨u, f, by rw [Sy.ths_v, hth, Option.map_some, et]; rfl⟩
            · rw [z]
              exact Sy.in_lsts (Sy.ls_in (lk_mem hth1) (by rw [show ((ser1, th1) : Int × Th).2.tg = _ from et1]; simp [Tg.lsts]))
            · rw [z]
              exact Sy.in_lsts (Sy.ls_in (lk_mem hth1) (by rw [show ((ser1, th1) : Int × Th).2.tg = _ from et1]; simp [Tg.lsts]))
            · rcases Sy.re_foot hth1 nds hb with z | z | z
              · exact .inl z
              · exact .inl (Sy.in_lsts (Sy.ls_in (lk_mem hth1) (by rw [show ((ser1, th1) : Int × Th).2.tg = _ from et1]; exact z)))
              · obtain ⟨y, hy, rfl⟩ := List.mem_map.mp (show b ∈ (es ++ [(⟨p, dp, n, ser, lab, wz, true⟩ : En)]).map (·.ad) from z)
                rcases List.mem_append.mp hy with z | z
                · exact .inl (Sy.in_ents (Sy.en_in (lk_mem hth1) (by rw [show ((ser1, th1) : Int × Th).2.tg = _ from et1]; exact List.mem_map.mpr ⟨y, z, rfl⟩)))
                · cases List.mem_singleton.mp z
                  exact .inr (E3.free np)
          have ro0 : RowOk (es.map En.v ++ [⟨n, ser, lab, wz, true⟩]) row := ⟨so.row.1, fun x hx => by
            obtain ⟨e, he, q⟩ := so.row.2 x hx
            exact ⟨e, List.mem_append_left _ he, q⟩⟩
          have rl : row.length ≤ 1000000 := Nat.le_trans so.row.len so.2.2.2.2.2
          cases hr0 : (f || decide (0 < u)) with
          | true =>
            refine iteT ⟨_, rfl, th1.ad, dx, _, rfl, t5.1, rfl, _, rfl, th1.ad, dx, L, R, es ++ [(⟨p, dp, n, ser, lab, wz, true⟩ : En)], row, (⟨p, dp, n, ser, lab, wz, true⟩ : En), rfl, t5, entT T, nL hp4 (fun _ z => nomatch z), rl, ?_⟩
            exact fin _ _ rfl (pendR_ok (e := ⟨n, ser, lab, wz, true⟩) ro0 (List.mem_append_right _ (List.mem_singleton.mpr rfl))) (by rw [hr0]; rfl)
          | false =>
            refine iteF ?_
            exact fin row _ (upd_idem t5.2.2.1).symm ro0 (by rw [hr0]; rfl)
end

/-! ### a wait, plainly -/
/-- registrations that are alike but for their arms -/
structure Alike (es0 es : List En) : Prop where
  ads : es.map (·.ad) = es0.map (·.ad)
  lab : (es.map En.v).map (·.lab) = (es0.map En.v).map (·.lab)
  key : (es.map En.v).map (fun e => (e.num, e.ser)) = (es0.map En.v).map fun e => (e.num, e.ser)
theorem Alike.refl (es : List En) : Alike es es := ⟨rfl, rfl, rfl⟩
/-- a list of data that grows while the heap changes -/
structure Gd (K : PySem.W.Frag) (H1 : Hp) (D : Addr) (H' : Hp) (ds : List PyData) : Prop where
  new : H1 D = none
  has : ∃ xs, H' D = some (.lst xs) ∧ DpAll K (frs H1 (off D H')) xs ds
theorem Gd.start {K : PySem.W.Frag} {H1 : Hp} {D : Addr} (h : H1 D = none) : Gd K H1 D (upd H1 D (.lst [])) [] := ⟨h, [], upd_same, .nil⟩
theorem frs_keep {H1 H' H'' : Hp} {D : Addr} (k : ∀ b o, H1 b = none → b ≠ D → H' b = some o → H'' b = some o) : Same (frs H1 (off D H')) (frs H1 (off D H'')) := fun b o h => by
  have hb : H1 b = none := by
    cases q : H1 b with
    | none => rfl
    | some _ => unfold frs at h; rw [q] at h; cases h
  rw [frs_new hb] at h ⊢
  have ne : b ≠ D := fun z => by unfold off at h; rw [if_pos z] at h; cases h
  rw [off_ne ne] at h ⊢
  exact k b o hb ne h
theorem Gd.keep {K : PySem.W.Frag} {H1 H' H'' : Hp} {D : Addr} {ds : List PyData} (g : Gd K H1 D H' ds) (k : ∀ b o, H1 b = none → H' b = some o → H'' b = some o) : Gd K H1 D H'' ds := by
  obtain ⟨xs, h1, h2⟩ := g.has
  exact ⟨g.new, xs, k D _ g.new h1, DpAll.same (frs_keep fun b o hb _ h => k b o hb h) _ _ h2⟩
theorem Gd.add {K : PySem.W.Frag} {H1 H' : Hp} {D p : Addr} {ds es : List PyData} {vs : List V} (g : Gd K H1 D H' ds) (hp : H' p = none) (hp1 : H1 p = none) (hd : ∀ H, DpAll K H vs es) : ∃ xs, upd H' p (.tup vs) D = some (.lst xs) ∧ xs.length = ds.length ∧ Gd K H1 D (upd (upd H' p (.tup vs)) D (.lst (xs ++ [.ref p]))) (ds ++ [.tuple es]) := by
  obtain ⟨xs, h1, h2⟩ := g.has
  have ne : D ≠ p := fun z => by rw [← z, h1] at hp; cases hp
  refine ⟨xs, by rw [upd_ne ne]; exact h1, dpLen h2, g.new, _, upd_same, dpApp (DpAll.same (frs_keep fun b o hb n h => ?_) _ _ h2) (.cons (.tup (SqT.of ?_) (hd _)) .nil)⟩
  · rw [upd_ne n, upd_ne (ne_of_none h hp)]
    exact h
  · rw [frs_new hp1, off_ne (Ne.symm ne), upd_ne (Ne.symm ne), upd_same]
theorem Gd.fin {K : PySem.W.Frag} {H1 H' : Hp} {D : Addr} {ds : List PyData} (g : Gd K H1 D H' ds) : Dp K (frs H1 H') (.ref D) (.list ds) := by
  obtain ⟨xs, h1, h2⟩ := g.has
  exact .lst (SqL.of (by rw [frs_new g.new]; exact h1)) (DpAll.same (frs_mono off_le) _ _ h2)
section
variable {P : Program} {w : World} {K : PySem.W.Frag} {mg : Str → Option Value} {base : Heap}
end

/-! ### registrations by their keys; changes -/
section
variable {P : Program} {w : World} {K : PySem.W.Frag} {mg : Str → Option Value} {base : Heap}
theorem SyAt.resets {H H' : Hp} {S : Sy} (hS : SyAt K H S) {ser : Int} {th : Th} {dx L R : Addr} {es : List En} {row : List Int} (hth : lk S.ths ser = some th) (et : th.tg = .set dx L R es row) (nds : (S.ths.map (·.1)).Nodup) {dx' L' R' : Addr} {es' : List En} {row' : List Int}
    (t : TgAt K H' th.ad (.set dx' L' R' es' row')) (kp : ∀ b o, H b = some o → b ≠ th.ad → b ≠ L → b ≠ R → b ∉ es.map (·.ad) → H' b = some o) (hL : L' = L ∨ H L' = none) (hR : R' = R ∨ H R' = none) (nLR : L' ≠ R') (hE : ∀ a ∈ es'.map (·.ad), a ∈ es.map (·.ad) ∨ H a = none) (nde : (es'.map (·.ad)).Nodup) :
    SyAt K H' (S.re ser th.ad (.set dx' L' R' es' row')) ∧ Fr' S (S.re ser th.ad (.set dx' L' R' es' row')) H H' := by
  have tm := lk_mem hth
  have inT : th.ad ∈ S.foot := Sy.in_ths (Sy.th_in tm)
  have inL : ∀ x ∈ [L, R], x ∈ S.foot := fun x hx => Sy.in_lsts (Sy.ls_in tm (by rw [show ((ser, th) : Int × Th).2.tg = _ from et]; exact hx))
  have inE : ∀ x ∈ es.map (·.ad), x ∈ S.foot := fun x hx => Sy.in_ents (Sy.en_in tm (by rw [show ((ser, th) : Int × Th).2.tg = _ from et]; exact hx))
  have cl : ∀ x ∈ [L', R'], x ∈ [L, R] ∨ H x = none := fun x hx => by
    simp only [List.mem_cons, List.not_mem_nil, or_false] at hx ⊢
    rcases hx with z | z
    · rcases hL with q | q
      · exact .inl (.inl (z.trans q))
      · exact .inr (by rw [z]; exact q)
    · rcases hR with q | q
      · exact .inl (.inr (z.trans q))
      · exact .inr (by rw [z]; exact q)
  refine ⟨hS.re hth nds (fun b hb n1 n2 n3 => ?_) t (fun x hx => ?_) (fun x hx => ?_) ?_ nde, ⟨fun b o h nb => ?_, fun b hb => ?_, rfl⟩⟩
  · obtain ⟨o, ho⟩ := hS.some_of hb
    rw [ho]
    exact kp b o ho n1 (fun z => n2 (by rw [et, z]; simp [Tg.lsts])) (fun z => n2 (by rw [et, z]; simp [Tg.lsts])) (fun z => n3 (by rw [et]; exact z))
  · rcases cl x hx with z | z
    · exact .inl (by rw [et]; exact z)
    · exact .inr (hS.notfoot z)
  · rcases hE x hx with z | z
    · exact .inl (by rw [et]; exact z)
    · exact .inr (hS.notfoot z)
  · show [L', R'].Nodup
    simp [nLR]
  · exact kp b o h (fun z => nb (z ▸ inT)) (fun z => nb (z ▸ inL L (by simp))) (fun z => nb (z ▸ inL R (by simp))) (fun z => nb (inE b z))
  · rcases Sy.re_foot hth nds hb with z | z | z
    · exact .inl z
    · rcases cl b z with q | q
      · exact .inl (inL b q)
      · exact .inr q
    · rcases hE b z with q | q
      · exact .inl (inE b q)
      · exact .inr q
end

/-! ### change -/
section
variable {P : Program} {w : World} {K : PySem.W.Frag} {mg : Str → Option Value} {base : Heap}
theorem b_addW (T : Tx K mg) : ∃ mv, KBn K (fdAt K (mA "System" "add" K)) ["self", "process", "set_number", "number", "label", "word"] 5 ["word"] (fun us ws => us ++ (ws ++ mv)) (fun vs zs => vs ++ (zs ++ [])) :=
  FunD.kbinds0 T.f_System_add 5 ["word"] [] (fun a b c => a ++ (c ++ b)) (fun z => nomatch z) (fun q hq => nomatch hq) (fun r1 r2 r3 => r1.append (r3.append r2)) fun D doc pm an cdv ct us mv ws l1 l2 l3 => match us, mv, ws, l1, l2, l3 with | [_, _, _, _, _], [], [_], _, _, _ => rfl
end

/-! ### drop, remove -/
def dropR (lab : Int) (row : List Int) : List Int := row.filter fun x => decide (x ≠ lab)
def dropN (lab : Int) (es : List En) : List En := es.filter fun e => decide (e.lab ≠ lab)
def sp_drop (K : PySem.W.Frag) : Sp := fun vs H Q _ => ∃ (a dx L R : Addr) (es : List En) (row : List Int) (e : En), vs = [.ref a, .ref e.ad] ∧ TgAt K H a (.set dx L R es row) ∧ EntF K ∧ H e.ad = some (.ins (ga K "Entry") e.dx (entF e)) ∧ es.length ≤ 1000000 ∧ row.length ≤ 1000000 ∧
  ∀ H' L' R', H L' = none → H R' = none → L' ≠ R' → H' a = some (.ins (ga K "WaitSet") dx (setF L' R')) → H' L' = some (.lst ((dropN e.lab es).map fun e => .ref e.ad)) → H' R' = some (.lst ((dropR e.lab row).map V.int)) → (∀ b o, H b = some o → b ≠ a → H' b = some o) → Q .non H'
section
variable {P : Program} {w : World} {K : PySem.W.Frag} {mg : Str → Option Value} {base : Heap}
theorem sc_drop : FnScope ["self", "entry", "one", "label"] ["self", "entry"] (defScope s_WaitSet_drop) := ⟨rfl, rfl, rfl, by decide +kernel, rfl, by decide +kernel, by decide +kernel⟩
theorem filter_take {α : Type} {p : α → Bool} {l : List α} {i : Nat} {x : α} (h : l[i]? = some x) : (l.take (i + 1)).filter p = (l.take i).filter p ++ if p x then [x] else [] := by
  rw [List.take_succ, h, List.filter_append]
  cases c : p x <;> simp [c]
theorem ok_drop (T : Tx K mg) : FnOk P w K mg base CX0 1 (mA "WaitSet" "drop" K) (fdAt K (mA "WaitSet" "drop" K)) ["self", "entry"] (sp_drop K) := by
  refine FunD.ok T.f_WaitSet_drop sc_drop (fun vs H Q E h => ?_) (fun cdv A outer s H vs Q E hr h => ?_)
  · obtain ⟨a, dx, L, R, es, row, e, rfl, _⟩ := h
    rfl
  · obtain ⟨a, dx, L, R, es, row, e, rfl, ht, hE, he, z1, z2, q⟩ := h
    refine ⟨_, PSs.nox (pss_cons (ps_fld (pv 0) (pe_lc (own := [("one", 2)]) (g := gName 2) rfl sc_drop.nd (pi_list (pe_fld (pv 0) rfl)) (blkOk_by (N := ["self", "entry", "one", "label"]) (sc := defScope s_WaitSet_drop) (by decide +kernel))
        (fun _ _ _ _ _ => pg_name (i := 2) sc_drop.nd rfl (Or.inl rfl)) (fun _ _ _ _ _ => pts_one (pt_cmpR op_ne (pe_fldK K (pv 2) rfl) (pe_fldK K (pv 1) rfl) (nomark _))) (fun _ _ _ _ _ => pv 2)) rfl)
      (pss_one (ps_fld (pv 0) (pe_lc (own := [("label", 3)]) (g := gName 3) rfl sc_drop.nd (pi_list (pe_fld (pv 0) rfl)) (blkOk_by (N := ["self", "entry", "one", "label"]) (sc := defScope s_WaitSet_drop) (by decide +kernel))
        (fun _ _ _ _ _ => pg_name (i := 3) sc_drop.nd rfl (Or.inl rfl)) (fun _ _ _ _ _ => pts_one (pt_cmpR op_ne (pv 3) (pe_fldK K (pv 1) rfl) (nomark _))) (fun _ _ _ _ _ => pv 3)) rfl))), ?_⟩
    refine ⟨_, rfl, _, _, _, _, _, rfl, ht.1, T.c_WaitSet, T.n_WaitSet_entries, rfl, L, rfl, ⟨_, SqL.of ht.2.1⟩, fun D nD => ?_⟩
    refine lc_list (xs := es.map fun x => V.ref x.ad) (fun j H3 => Same H H3 ∧ H3 D = some (.lst (((es.take j).filter fun x => decide (x.lab ≠ e.lab)).map fun x => V.ref x.ad))) ⟨new_same nD, upd_same⟩ (fun j H3 _ g => SqL.of (g.1 _ _ ht.2.1)) ?_ ?_
    · rintro j x H3 hx ⟨s3, hD⟩
      rw [List.getElem?_map] at hx
      obtain ⟨x0, hx0, rfl⟩ := Option.map_eq_some_iff.mp hx
      have m0 : x0 ∈ es := List.mem_of_getElem? hx0
      refine ⟨rfl, ?_⟩
      refine ⟨_, rfl, _, _, _, _, _, rfl, s3 _ _ (ht.2.2.2 x0 m0), hE.c, hE.label, rfl, _, rfl, _, _, _, _, _, rfl, s3 _ _ he, hE.c, hE.label, rfl, rfl, _, rfl, ?_⟩
      by_cases c : x0.lab = e.lab
      · rw [decide_eq_true (show V.int x0.lab = V.int e.lab from by rw [c])]
        refine iteF ⟨s3, ?_⟩
        rw [filter_take hx0, if_neg (by simp [c]), List.append_nil]
        exact hD
      · rw [decide_eq_false (show V.int x0.lab ≠ V.int e.lab from fun z => c (V.int.inj z))]
        refine iteT ⟨_, rfl, _, hD, ?_, ?_, ?_⟩
        · rw [List.length_map]
          have l1 := List.length_filter_le (fun x : En => decide (x.lab ≠ e.lab)) (es.take j)
          rw [List.length_take] at l1
          have : (1000001 : Nat) < sizeLine := by decide
          omega
        · exact fun b o h => by rw [upd_ne (ne_of_none h nD)]; exact s3 _ _ h
        · rw [upd_same, filter_take hx0, if_pos (by simp [c]), List.map_append]
          rfl
    · rintro H3 ⟨s3, hD⟩
      rw [List.length_map, List.take_length] at hD
      refine ⟨_, rfl, a, _, dx, _, rfl, s3 _ _ ht.1, T.c_WaitSet, T.n_WaitSet_entries, (by show 2 < 1000; decide), ?_⟩
      have aD : a ≠ D := ne_of_none ht.1 nD
      have aR : a ≠ R := ne_of ht.1 ht.2.2.1 fun z => nomatch z
      have ea : e.ad ≠ a := ne_of he ht.1 (Ne.symm (ins_ne "label" (fun z => nomatch z)))
      have RD : R ≠ D := ne_of_none ht.2.2.1 nD
      let H4 : Hp := upd H3 a (.ins (ga K "WaitSet") dx (setF D R))
      have up4 : ∀ b o, H3 b = some o → b ≠ a → H4 b = some o := fun b o h nb => by
        show upd H3 a _ b = some o
        rw [upd_ne nb]
        exact h
      have a4 : H4 a = some (.ins (ga K "WaitSet") dx (setF D R)) := upd_same
      have R4 : H4 R = some (.lst (row.map V.int)) := up4 _ _ (s3 _ _ ht.2.2.1) (Ne.symm aR)
      have e4 := up4 _ _ (s3 _ _ he) ea
      refine ⟨_, rfl, _, _, _, _, _, rfl, a4, T.c_WaitSet, T.n_WaitSet_row, rfl, R, rfl, ⟨_, SqL.of R4⟩, fun D2 nD2 => ?_⟩
      have nD2 : H4 D2 = none := nD2
      have D2a : D2 ≠ a := fun z => by rw [z, a4] at nD2; cases nD2
      have D2D : D2 ≠ D := fun z => by rw [z, up4 _ _ hD (Ne.symm aD)] at nD2; cases nD2
      have nD2H : H D2 = none := by
        cases z : H D2 with
        | none => rfl
        | some o => rw [up4 _ _ (s3 _ _ z) D2a] at nD2; cases nD2
      refine lc_list (xs := row.map V.int) (fun j H5 => Same H4 H5 ∧ H5 D2 = some (.lst (((row.take j).filter fun x => decide (x ≠ e.lab)).map V.int))) ⟨new_same nD2, upd_same⟩ (fun j H5 _ g => SqL.of (g.1 _ _ R4)) ?_ ?_
      · rintro j x H5 hx ⟨s5, hD2⟩
        rw [List.getElem?_map] at hx
        obtain ⟨x0, hx0, rfl⟩ := Option.map_eq_some_iff.mp hx
        refine ⟨rfl, ?_⟩
        refine ⟨_, rfl, _, rfl, _, _, _, _, _, rfl, s5 _ _ e4, hE.c, hE.label, rfl, rfl, _, rfl, ?_⟩
        by_cases c : x0 = e.lab
        · rw [decide_eq_true (show V.int x0 = V.int e.lab from by rw [c])]
          refine iteF ⟨s5, ?_⟩
          rw [filter_take hx0, if_neg (by simp [c]), List.append_nil]
          exact hD2
        · rw [decide_eq_false (show V.int x0 ≠ V.int e.lab from fun z => c (V.int.inj z))]
          refine iteT ⟨_, rfl, _, hD2, ?_, ?_, ?_⟩
          · rw [List.length_map]
            have l1 := List.length_filter_le (fun x : Int => decide (x ≠ e.lab)) (row.take j)
            rw [List.length_take] at l1
            have : (1000001 : Nat) < sizeLine := by decide
            omega
          · exact fun b o h => by rw [upd_ne (ne_of_none h nD2)]; exact s5 _ _ h
          · rw [upd_same, filter_take hx0, if_pos (by simp [c]), List.map_append]
            rfl
      · rintro H5 ⟨s5, hD2⟩
        rw [List.length_map, List.take_length] at hD2
        refine ⟨_, rfl, a, _, dx, _, rfl, s5 _ _ a4, T.c_WaitSet, T.n_WaitSet_row, (by show 2 < 1000; decide), ?_⟩
        refine q _ D D2 nD nD2H (Ne.symm D2D) upd_same ?_ ?_ fun b o h nb => ?_
        · rw [upd_ne (Ne.symm aD)]
          exact s5 _ _ (up4 _ _ hD (Ne.symm aD))
        · rw [upd_ne D2a]
          exact hD2
        · rw [upd_ne nb]
          exact s5 _ _ (up4 _ _ (s3 _ _ h) nb)
theorem b_drop (T : Tx K mg) : Binds K (fdAt K (mA "WaitSet" "drop" K)) ["self", "entry"] [] := FunD.bindsN T.f_WaitSet_drop fun _ _ _ _ _ _ us hl => match us, hl with | [_, _], _ => rfl
end

section
variable {P : Program} {w : World} {K : PySem.W.Frag} {mg : Str → Option Value} {base : Heap}
end

/-! ### registrations of a thing that is gone -/
def offE (ls : List Int) (es : List Ev) : List Ev := es.filter fun e => decide (e.lab ∉ ls)
def offN (ls : List Int) (es : List En) : List En := es.filter fun e => decide (e.lab ∉ ls)
def offR (ls row : List Int) : List Int := row.filter fun x => decide (x ∉ ls)
def labsE (ser : Int) (es : List Ev) : List Int := (es.filter fun e => decide (e.ser = ser)).map (·.lab)
def labsN (ser : Int) (es : List En) : List Int := (es.filter fun e => decide (e.ser = ser)).map (·.lab)
theorem offN_v (ls : List Int) (es : List En) : (offN ls es).map En.v = offE ls (es.map En.v) := by
  unfold offN offE
  rw [List.filter_map]
  rfl
theorem labsN_v (ser : Int) (es : List En) : labsN ser es = labsE ser (es.map En.v) := by
  unfold labsN labsE
  rw [List.filter_map, List.map_map]
  rfl
theorem off_step {α : Type} (f : α → Int) (ls : List Int) (l : Int) (es : List α) : (es.filter fun e => decide (f e ∉ ls)).filter (fun e => decide (f e ≠ l)) = es.filter fun e => decide (f e ∉ ls ++ [l]) := by
  rw [List.filter_filter]
  refine List.filter_congr fun e _ => ?_
  by_cases c1 : f e ∈ ls <;> by_cases c2 : f e = l <;> simp [c1, c2]
theorem offN_drop (ls : List Int) (l : Int) (es : List En) : dropN l (offN ls es) = offN (ls ++ [l]) es := off_step (fun e : En => e.lab) ls l es
theorem offR_drop (ls : List Int) (l : Int) (row : List Int) : dropR l (offR ls row) = offR (ls ++ [l]) row := off_step (fun x : Int => x) ls l row
theorem offN_nil (es : List En) : offN [] es = es := List.filter_eq_self.mpr fun _ _ => by simp
theorem offR_nil (row : List Int) : offR [] row = row := List.filter_eq_self.mpr fun _ _ => by simp
def sp_forget (K : PySem.W.Frag) : Sp := fun vs H Q _ => ∃ (a dx L R : Addr) (es : List En) (row : List Int) (ser : Int), vs = [.ref a, .int ser] ∧ TgAt K H a (.set dx L R es row) ∧ L ≠ R ∧ es.length ≤ mostE ∧ row.length ≤ 1000000 ∧
  ∀ H' L' R', (L' = L ∨ H L' = none) → (R' = R ∨ H R' = none) → L' ≠ R' → H' a = some (.ins (ga K "WaitSet") dx (setF L' R')) → H' L' = some (.lst ((offN (labsN ser es) es).map fun e => .ref e.ad)) → H' R' = some (.lst ((offR (labsN ser es) row).map V.int)) → (∀ b o, H b = some o → b ≠ a → H' b = some o) → Q .non H'
section
variable {P : Program} {w : World} {K : PySem.W.Frag} {mg : Str → Option Value} {base : Heap}
theorem sc_forget : FnScope ["self", "serial", "entry", "one"] ["self", "serial"] (defScope s_WaitSet_forget) := ⟨rfl, rfl, rfl, by decide +kernel, rfl, by decide +kernel, by decide +kernel⟩
theorem ok_forget (T : Tx K mg) : FnOk P w K mg base CX0 2 (mA "WaitSet" "forget" K) (fdAt K (mA "WaitSet" "forget" K)) ["self", "serial"] (sp_forget K) := by
  refine FunD.ok T.f_WaitSet_forget sc_forget (fun vs H Q E h => ?_) (fun cdv A outer s H vs Q E hr h => ?_)
  · obtain ⟨a, dx, L, R, es, row, ser, rfl, _⟩ := h
    rfl
  · obtain ⟨a, dx, L, R, es, row, ser, rfl, ht, nLR, z1, z2, q⟩ := h
    refine ⟨_, PSs.nox (pss_one (ps_for PassesOwn.never rfl (pi_list (pe_lc (own := [("one", 3)]) (g := gName 3) rfl sc_forget.nd (pi_list (pe_fld (pv 0) rfl)) (blkOk_by (N := ["self", "serial", "entry", "one"]) (sc := defScope s_WaitSet_forget) (by decide +kernel))
        (fun _ _ _ _ _ => pg_name (i := 3) sc_forget.nd rfl (Or.inl rfl)) (fun _ _ _ _ _ => pts_one (pt_cmpR op_eq (pe_fldK K (pv 3) rfl) (pv 1) (nomark _))) (fun _ _ _ _ _ => pv 3))) (pg_name (i := 2) sc_forget.nd rfl (Or.inl rfl))
      (pss_one (ps_expr (pe_meth (pv 0) T.c_WaitSet T.m_WaitSet_drop (ok_drop T) hr (b_drop T) .nil pass0 (pa_cons (pv 2) pa_nil)))))), ?_⟩
    refine ⟨_, rfl, _, _, _, _, _, rfl, ht.1, T.c_WaitSet, T.n_WaitSet_entries, rfl, L, rfl, ⟨_, SqL.of ht.2.1⟩, fun D nD => ?_⟩
    refine lc_list (xs := es.map fun x => V.ref x.ad) (fun j H3 => Same H H3 ∧ H3 D = some (.lst (((es.take j).filter fun x => decide (x.ser = ser)).map fun x => V.ref x.ad))) ⟨new_same nD, upd_same⟩ (fun j H3 _ g => SqL.of (g.1 _ _ ht.2.1)) ?_ ?_
    · rintro j x H3 hx ⟨s3, hD⟩
      rw [List.getElem?_map] at hx
      obtain ⟨x0, hx0, rfl⟩ := Option.map_eq_some_iff.mp hx
      have m0 : x0 ∈ es := List.mem_of_getElem? hx0
      refine ⟨rfl, ?_⟩
      refine ⟨_, rfl, _, _, _, _, _, rfl, s3 _ _ (ht.2.2.2 x0 m0), (ent_of T m0 z1).c, (ent_of T m0 z1).serial, rfl, _, rfl, rfl, _, rfl, ?_⟩
      by_cases c : x0.ser = ser
      · rw [decide_eq_true (show V.int x0.ser = V.int ser from by rw [c])]
        refine iteT ⟨_, rfl, _, hD, ?_, ?_, ?_⟩
        · rw [List.length_map]
          have l1 := List.length_filter_le (fun x : En => decide (x.ser = ser)) (es.take j)
          rw [List.length_take] at l1
          have : (1000001 : Nat) < sizeLine := by decide
          have := Nat.le_trans z1 mostE_le
          omega
        · exact fun b o h => by rw [upd_ne (ne_of_none h nD)]; exact s3 _ _ h
        · rw [upd_same, filter_take hx0, if_pos (by simp [c]), List.map_append]
          rfl
      · rw [decide_eq_false (show V.int x0.ser ≠ V.int ser from fun z => c (V.int.inj z))]
        refine iteF ⟨s3, ?_⟩
        rw [filter_take hx0, if_neg (by simp [c]), List.append_nil]
        exact hD
    · rintro H3 ⟨s3, hD⟩
      rw [List.length_map, List.take_length] at hD
      have aD : a ≠ D := ne_of_none ht.1 nD
      have el : labsN ser es = (es.filter fun x => decide (x.ser = ser)).map (·.lab) := rfl
      generalize hX : (es.filter fun x => decide (x.ser = ser)) = X at hD el
      have XM : ∀ x ∈ X, x ∈ es := fun x hx => by rw [← hX] at hx; exact (List.mem_filter.mp hx).1
      refine ⟨D, rfl, ⟨_, SqL.of hD⟩, ?_⟩
      refine for_list (xs := X.map fun x => V.ref x.ad) (fun j σ H4 => (∃ v2 v3, σ = [some (.ref a), some (.int ser), v2, v3]) ∧ ∃ L' R', (L' = L ∨ H L' = none) ∧ (R' = R ∨ H R' = none) ∧ L' ≠ R' ∧ H4 a = some (.ins (ga K "WaitSet") dx (setF L' R')) ∧ H4 L' = some (.lst ((offN ((X.take j).map (·.lab)) es).map fun e => .ref e.ad)) ∧ H4 R' = some (.lst ((offR ((X.take j).map (·.lab)) row).map V.int)) ∧ (∀ b o, H3 b = some o → b ≠ a → H4 b = some o)) ⟨⟨_, _, rfl⟩, L, R, .inl rfl, .inl rfl, nLR, s3 _ _ ht.1, ?_, ?_, fun b o h _ => h⟩ (fun j σ H4 _ g => ?_) ?_ ?_
      · rw [List.take_zero, List.map_nil, offN_nil]
        exact s3 _ _ ht.2.1
      · rw [List.take_zero, List.map_nil, offR_nil]
        exact s3 _ _ ht.2.2.1
      · obtain ⟨_, L', R', _, _, _, _, _, _, kp⟩ := g
        exact SqL.of (kp _ _ hD (Ne.symm aD))
      · rintro j x σ H4 hx ⟨⟨v2, v3, rfl⟩, L', R', hL', hR', nn, h1, h2, h3, kp⟩
        rw [List.getElem?_map] at hx
        obtain ⟨x0, hx0, rfl⟩ := Option.map_eq_some_iff.mp hx
        have m0 : x0 ∈ es := XM x0 (List.mem_of_getElem? hx0)
        have nea : ∀ y ∈ es, y.ad ≠ a := fun y hy => ne_of (ht.2.2.2 y hy) ht.1 (Ne.symm (ins_ne "label" (fun z => nomatch z)))
        have hE : ∀ y ∈ es, H4 y.ad = some (.ins (ga K "Entry") y.dx (entF y)) := fun y hy => kp _ _ (s3 _ _ (ht.2.2.2 y hy)) (nea y hy)
        have subE : ∀ y ∈ offN ((X.take j).map (·.lab)) es, y ∈ es := fun y hy => (List.mem_filter.mp hy).1
        refine ⟨_, rfl, a, dx, _, rfl, h1, rfl, _, rfl, a, dx, L', R', offN ((X.take j).map (·.lab)) es, offR ((X.take j).map (·.lab)) row, x0, rfl, ⟨h1, h2, h3, fun y hy => hE y (subE y hy)⟩, ent_of T m0 z1, hE x0 m0, Nat.le_trans (List.length_filter_le _ _) (Nat.le_trans z1 mostE_le), Nat.le_trans (List.length_filter_le _ _) z2, fun H5 L2 R2 nL2 nR2 n2 a5 l5 r5 k5 => ?_⟩
        have back : ∀ b, H4 b = none → H b = none := fun b hb => by
          cases z : H b with
          | none => rfl
          | some o =>
            by_cases c : b = a
            · rw [c, h1] at hb
              cases hb
            · rw [kp _ _ (s3 _ _ z) c] at hb
              cases hb
        have tk : (X.take (j + 1)).map (·.lab) = (X.take j).map (·.lab) ++ [x0.lab] := by rw [take_next hx0, List.map_append]; rfl
        refine ⟨⟨_, _, rfl⟩, L2, R2, .inr (back _ nL2), .inr (back _ nR2), n2, a5, ?_, ?_, fun b o h nb => k5 b o (kp b o h nb) nb⟩
        · rw [tk, ← offN_drop]
          exact l5
        · rw [tk, ← offR_drop]
          exact r5
      · rintro σ H4 ⟨⟨v2, v3, rfl⟩, L', R', hL', hR', nn, h1, h2, h3, kp⟩
        rw [List.length_map, List.take_length, ← el] at h2 h3
        exact q H4 L' R' hL' hR' nn h1 h2 h3 fun b o h nb => kp b o (s3 _ _ h) nb
theorem b_forget (T : Tx K mg) : Binds K (fdAt K (mA "WaitSet" "forget" K)) ["self", "serial"] [] := FunD.bindsN T.f_WaitSet_forget fun _ _ _ _ _ _ us hl => match us, hl with | [_, _], _ => rfl
end

/-! ### a number closed, plainly -/
def fgtT (ser : Int) : Tv → Tv
  | .src u f => .src u f
  | .set es row => .set (offE (labsE ser es) es) (offR (labsE ser es) row)
def Sv.fgtK (v : Sv) (ser : Int) (ks : List Int) : Sv := v.mapT fun k t => if k ∈ ks then fgtT ser t else t
def Sv.fgt (v : Sv) (ser : Int) : Sv := v.mapT fun _ t => fgtT ser t
def Sv.cut (v : Sv) (i n : Int) : Sv := { v with tabs := upAt v.tabs i (fun r => dr r n) }
def Sv.gone (v : Sv) (ser : Int) : Sv := { v with ths := dr v.ths ser }
def closeV (v : Sv) (i n ser : Int) : Sv := if holds (v.cut i n).tabs ser = [] then ((v.cut i n).gone ser).fgt ser else v.cut i n
theorem dr_sub {α : Type} (l : List (Int × α)) (n : Int) : (dr l n).Sublist l := List.filter_sublist
theorem dr_mem {α : Type} {l : List (Int × α)} {n : Int} {t : Int × α} : t ∈ dr l n ↔ t ∈ l ∧ t.1 ≠ n := by
  unfold dr
  rw [List.mem_filter, decide_eq_true_eq]
theorem cut_mem {v : Sv} {i n : Int} {t : Int × List (Int × Int)} (h : t ∈ (v.cut i n).tabs) : ∃ u ∈ v.tabs, u.1 = t.1 ∧ (t.2 = u.2 ∨ t.2 = dr u.2 n) := by
  rcases upAt_mem (show t ∈ upAt v.tabs i (fun r => dr r n) from h) with ⟨_, z⟩ | ⟨x, hx, rfl⟩
  · exact ⟨t, z, rfl, .inl rfl⟩
  · exact ⟨(i, x), hx, rfl, .inr rfl⟩
theorem cut_row {v : Sv} {i n : Int} {t : Int × List (Int × Int)} (h : t ∈ (v.cut i n).tabs) : ∃ u ∈ v.tabs, u.1 = t.1 ∧ ∀ r ∈ t.2, r ∈ u.2 := by
  obtain ⟨u, hu, e, z | z⟩ := cut_mem h
  · exact ⟨u, hu, e, fun r hr => z ▸ hr⟩
  · refine ⟨u, hu, e, fun r hr => ?_⟩
    rw [z] at hr
    exact (dr_mem.mp hr).1
theorem WF.cut0 {v : Sv} (h : WF v) (i n : Int) : WF0 (v.cut i n) := by
  refine ⟨h.p, h.n, ?_, fun t ht => ?_, fun t ht => ?_, fun t ht r hr => ?_, h.nds, h.rs⟩
  · show ((upAt v.tabs i (fun r => dr r n)).map (·.1)).Nodup
    rw [upAt_keys]
    exact h.ndp
  · obtain ⟨u, hu, e, _⟩ := cut_mem ht
    rw [← e]
    exact h.rp u hu
  · obtain ⟨u, hu, e, z | z⟩ := cut_mem ht
    · rw [z]
      exact h.ndn u hu
    · rw [z]
      exact List.Nodup.sublist ((dr_sub _ _).map _) (h.ndn u hu)
  · obtain ⟨u, hu, e, z⟩ := cut_row ht
    exact h.rn u hu r (z r hr)
theorem WF0.gone {v : Sv} (h : WF0 v) (ser : Int) : WF0 (v.gone ser) := ⟨h.p, h.n, h.ndp, h.rp, h.ndn, h.rn, List.Nodup.sublist ((dr_sub _ _).map _) h.nds, fun t ht => h.rs t (dr_mem.mp ht).1⟩
/-- held: by a row, by a number -/
theorem holds_of {v : Sv} (h : WF0 v) {ser : Int} (z : ∃ u ∈ v.tabs, ∃ r ∈ u.2, r.2 = ser) : holds v.tabs ser ≠ [] := by
  obtain ⟨u, hu, r, hr, e⟩ := z
  have l1 : lk v.tabs u.1 = some u.2 := lk_of_mem h.ndp hu
  have l2 : lk u.2 r.1 = some ser := by rw [lk_of_mem (h.ndn u hu) (show (r.1, r.2) ∈ u.2 from hr), e]
  intro z
  rw [holds_eq] at z
  have z1 := List.flatMap_eq_nil_iff.mp z u.1 (srtI_mem.mpr (List.mem_map.mpr ⟨u, hu, rfl⟩))
  unfold hAt at z1
  rw [l1] at z1
  unfold holdsIn at z1
  have z2 := List.map_eq_nil_iff.mp z1
  have : r.1 ∈ (srtI (u.2.map (·.1))).filter fun n => decide (lk u.2 n = some ser) := List.mem_filter.mpr ⟨srtI_mem.mpr (List.mem_map.mpr ⟨r, hr, rfl⟩), decide_eq_true l2⟩
  rw [z2] at this
  cases this
theorem of_holds {v : Sv} {ser : Int} (h : holds v.tabs ser ≠ []) : ∃ u ∈ v.tabs, ∃ r ∈ u.2, r.2 = ser := by
  rw [holds_eq] at h
  obtain ⟨x, hx⟩ := List.exists_mem_of_ne_nil _ h
  obtain ⟨p, _, hp⟩ := List.mem_flatMap.mp hx
  unfold hAt at hp
  cases e : lk v.tabs p with
  | none => rw [e] at hp; cases hp
  | some rows =>
    rw [e] at hp
    obtain ⟨n, hn, _⟩ := List.mem_map.mp hp
    exact ⟨(p, rows), lk_mem e, (n, ser), lk_mem (of_decide_eq_true (List.mem_filter.mp hn).2), rfl⟩
/-- another thing is held as before -/
theorem WF.cut_held {v : Sv} (h : WF v) {i n ser : Int} {rows : List (Int × Int)} (hi : lk v.tabs i = some rows) (hn : lk rows n = some ser) {t : Int × Tv} (ht : t ∈ v.ths) (ne : t.1 ≠ ser) : ∃ u ∈ (v.cut i n).tabs, ∃ r ∈ u.2, r.2 = t.1 := by
  obtain ⟨u, hu, r, hr, e⟩ := h.held t ht
  by_cases c : u.1 = i
  · have eu : u.2 = rows := by
      have := lk_of_mem h.ndp (show (u.1, u.2) ∈ v.tabs from hu)
      rw [c, hi] at this
      exact (Option.some.inj this).symm
    refine ⟨(u.1, dr u.2 n), List.mem_map.mpr ⟨u, hu, by rw [if_pos c]⟩, r, dr_mem.mpr ⟨hr, fun z => ?_⟩, e⟩
    have := lk_of_mem (h.ndn u hu) (show (r.1, r.2) ∈ u.2 from hr)
    rw [z, eu, hn] at this
    exact ne ((Option.some.inj this).trans e).symm
  · exact ⟨u, List.mem_map.mpr ⟨u, hu, by rw [if_neg c]⟩, r, hr, e⟩
theorem fgt_kind (ser : Int) (t : Tv) : (fgtT ser t).isSet = t.isSet := by cases t <;> rfl
theorem off_setOk {v v' : Sv} {es : List Ev} {row : List Int} {ser : Int} (so : SetOk v es row) (hv : ∀ k u f, k ≠ ser → lk v.ths k = some (.src u f) → ∃ u f, lk v'.ths k = some (.src u f)) : SetOk v' (offE (labsE ser es) es) (offR (labsE ser es) row) := by
  obtain ⟨k1, k2, k3, k4, k5, k6⟩ := so
  have sub : (offE (labsE ser es) es).Sublist es := List.filter_sublist
  refine ⟨List.Nodup.sublist (sub.map _) k1, List.Nodup.sublist (sub.map _) k2, List.Nodup.sublist List.filter_sublist k3, fun x hx => ?_, fun e he => ?_, Nat.le_trans sub.length_le k6⟩
  · obtain ⟨h1, h2⟩ := List.mem_filter.mp hx
    obtain ⟨e, he, q1, q2⟩ := k4 x h1
    exact ⟨e, List.mem_filter.mpr ⟨he, by rw [q1]; exact h2⟩, q1, q2⟩
  · obtain ⟨h1, h2⟩ := List.mem_filter.mp he
    obtain ⟨u, f, q⟩ := k5 e h1
    refine hv e.ser u f (fun z => ?_) q
    exact of_decide_eq_true h2 (List.mem_map.mpr ⟨e, List.mem_filter.mpr ⟨h1, decide_eq_true z⟩, rfl⟩)
theorem WF.close {v : Sv} (h : WF v) {i n ser : Int} {rows : List (Int × Int)} (hi : lk v.tabs i = some rows) (hn : lk rows n = some ser) : WF (closeV v i n ser) := by
  have w0 := h.cut0 i n
  unfold closeV
  split
  · rename_i c
    have w1 := w0.gone ser
    have no : ∀ u ∈ (v.cut i n).tabs, ∀ r ∈ u.2, r.2 ≠ ser := fun u hu r hr e => holds_of w0 ⟨u, hu, r, hr, e⟩ c
    have hk : ∀ k, lk (((v.cut i n).gone ser).fgt ser).ths k = if k = ser then none else (lk v.ths k).map (fgtT ser) := fun k => by
      show lk ((dr v.ths ser).map fun t => (t.1, fgtT ser t.2)) k = _
      rw [lk_map, lk_dr]
      split <;> rfl
    refine ⟨w1.p, w1.n, w1.ndp, w1.rp, w1.ndn, w1.rn, fun t ht r hr => ?_, ?_, fun t ht => ?_, fun t ht => ?_, fun t ht es row e => ?_⟩
    · obtain ⟨u, hu, e, z⟩ := cut_row (show t ∈ (v.cut i n).tabs from ht)
      have m := h.th u hu r (z r hr)
      obtain ⟨x, hx, ex⟩ := List.mem_map.mp m
      rw [Sv.fgt, mapT_keys]
      exact List.mem_map.mpr ⟨x, dr_mem.mpr ⟨hx, by rw [ex]; exact no t ht r hr⟩, ex⟩
    · rw [Sv.fgt, mapT_keys]
      exact w1.nds
    · obtain ⟨u, hu, rfl⟩ := List.mem_map.mp ht
      exact w1.rs u hu
    · obtain ⟨u, hu, rfl⟩ := List.mem_map.mp ht
      obtain ⟨u1, u2⟩ := dr_mem.mp hu
      exact h.cut_held (t := u) hi hn u1 u2
    · obtain ⟨u, hu, rfl⟩ := List.mem_map.mp ht
      obtain ⟨u1, u2⟩ := dr_mem.mp hu
      have e' : fgtT ser u.2 = .set es row := e
      cases cu : u.2 with
      | src a b => rw [cu] at e'; cases e'
      | set es0 row0 =>
        rw [cu] at e'
        cases e'
        refine off_setOk (h.ok u u1 _ _ cu) fun k a b kn q => ⟨a, b, ?_⟩
        rw [hk, if_neg kn, q]
        rfl
  · rename_i c
    refine ⟨w0.p, w0.n, w0.ndp, w0.rp, w0.ndn, w0.rn, fun t ht r hr => ?_, h.nds, h.rs, fun t ht => ?_, h.ok⟩
    · obtain ⟨u, hu, e, z⟩ := cut_row ht
      exact h.th u hu r (z r hr)
    · by_cases e : t.1 = ser
      · rw [e]
        exact of_holds c
      · exact h.cut_held hi hn ht e
theorem WF.cutS {v : Sv} (h : WF v) {i n ser : Int} {rows : List (Int × Int)} (hi : lk v.tabs i = some rows) (hn : lk rows n = some ser) : HeldS ((v.cut i n).gone ser) := fun t ht _ => by
  obtain ⟨u1, u2⟩ := dr_mem.mp (show t ∈ dr v.ths ser from ht)
  exact holds_of (h.cut0 i n) (h.cut_held hi hn u1 u2)
theorem fgtK_all {v : Sv} {ser : Int} {ks : List Int} (h : ∀ t ∈ v.ths, t.2.isSet = true → t.1 ∈ ks) : v.fgtK ser ks = v.fgt ser := by
  unfold Sv.fgtK Sv.fgt Sv.mapT
  congr 1
  refine List.map_congr_left fun t ht => ?_
  show (t.1, if t.1 ∈ ks then fgtT ser t.2 else t.2) = (t.1, fgtT ser t.2)
  by_cases c : t.1 ∈ ks
  · rw [if_pos c]
  · rw [if_neg c]
    cases e : t.2 with
    | src u f => rfl
    | set es row => exact (c (h t ht (by rw [e]; rfl))).elim
theorem fgtK_nil (v : Sv) (ser : Int) : v.fgtK ser [] = v := by
  unfold Sv.fgtK Sv.mapT
  have : (v.ths.map fun t => (t.1, if t.1 ∈ ([] : List Int) then fgtT ser t.2 else t.2)) = v.ths := by
    rw [List.map_congr_left (g := id) (fun t _ => by simp), List.map_id]
  rw [this]
theorem fgtK_step {v : Sv} {ser n : Int} {ks : List Int} {tv : Tv} (hl : lk v.ths n = some tv) (nds : (v.ths.map (·.1)).Nodup) (hn : n ∉ ks) : (v.fgtK ser ks).re n (fgtT ser tv) = v.fgtK ser (ks ++ [n]) := by
  rw [Sv.re_map]
  unfold Sv.fgtK Sv.mapT
  congr 1
  rw [List.map_map]
  refine List.map_congr_left fun t ht => ?_
  show (t.1, if t.1 = n then fgtT ser tv else if t.1 ∈ ks then fgtT ser t.2 else t.2) = (t.1, if t.1 ∈ ks ++ [n] then fgtT ser t.2 else t.2)
  by_cases c : t.1 = n
  · have := lk_of_mem nds (show (t.1, t.2) ∈ v.ths from ht)
    rw [c, hl] at this
    cases this
    rw [if_pos c, if_pos (by rw [c]; simp)]
  · rw [if_neg c]
    by_cases c2 : t.1 ∈ ks
    · rw [if_pos c2, if_pos (List.mem_append_left _ c2)]
    · rw [if_neg c2, if_neg (by simp [c, c2])]
theorem fgtK_lk (v : Sv) (ser n : Int) (ks : List Int) : lk (v.fgtK ser ks).ths n = (lk v.ths n).map fun t => if n ∈ ks then fgtT ser t else t := lk_mapK (fun k t => if k ∈ ks then fgtT ser t else t) n v.ths

/-! ### close -/
theorem flat_sub {α β : Type} (f : α → List β) {l l' : List α} (h : l.Sublist l') : (l.flatMap f).Sublist (l'.flatMap f) := by
  induction h with
  | slnil => exact List.Sublist.refl _
  | cons a _ ih => rw [List.flatMap_cons]; exact ih.trans (List.sublist_append_right _ _)
  | cons_cons a _ ih => rw [List.flatMap_cons, List.flatMap_cons]; exact List.Sublist.append (List.Sublist.refl _) ih
section
variable {K : PySem.W.Frag} {H : Hp} {s : Sy}
theorem SyAt.goneT (S : SyAt K H s) (n : Int) : SyAt K (upd H s.G (.dK (kv thV (dr s.ths n)))) { s with ths := dr s.ths n } ∧ Fr' s { s with ths := dr s.ths n } H (upd H s.G (.dK (kv thV (dr s.ths n)))) := by
  have mG : s.G ∈ s.dcs := List.mem_cons_of_mem _ List.mem_cons_self
  obtain ⟨d1, d2⟩ := List.nodup_cons.mp S.nd
  obtain ⟨d3, d4⟩ := List.nodup_cons.mp d2
  have nTG : s.T ≠ s.G := fun z => d1 (by rw [z]; exact List.mem_cons_self)
  have nG : ∀ {u : Int × Tb}, u ∈ s.tabs → u.2.ad ≠ s.G := fun {u} h z => d3 (by rw [← z]; exact List.mem_map.mpr ⟨u, h, rfl⟩)
  have sub : (dr s.ths n).Sublist s.ths := dr_sub _ _
  refine ⟨⟨by rw [upd_ne (Ne.symm (S.np (.inl mG)))]; exact S.ob, by rw [upd_ne nTG]; exact S.tb, fun u h => ?_, upd_same, fun u h => ?_, S.nd, List.Nodup.sublist (sub.map _) S.nt, List.Nodup.sublist (flat_sub _ sub) S.nl, List.Nodup.sublist (flat_sub _ sub) S.ne⟩, ⟨fun b o h nb => ?_, fun b hb => .inl ?_, rfl⟩⟩
  · rw [upd_ne (nG h)]
    exact S.tt u h
  · have h' := sub.subset h
    exact (S.gt u h').keep (S.dc_th mG (.inl (Sy.th_in h'))) (fun x hx => S.dc_th mG (.inr (.inl (Sy.ls_in h' hx)))) (fun x hx => S.dc_th mG (.inr (.inr (Sy.en_in h' hx))))
  · rw [upd_ne (show b ≠ s.G from fun z => nb (z ▸ Sy.in_dcs mG))]
    exact h
  · rcases Sy.foot_cases hb with z | z | z | z | z
    · exact z ▸ List.mem_cons_self
    · exact Sy.in_dcs z
    · exact Sy.in_ths ((sub.map _).subset z)
    · exact Sy.in_lsts ((flat_sub _ sub).subset z)
    · exact Sy.in_ents ((flat_sub _ sub).subset z)
theorem SyAt.cutT (S : SyAt K H s) {i : Int} {t : Tb} (n : Int) (hl : lk s.tabs i = some t) (nd : (s.tabs.map (·.1)).Nodup) : SyAt K (upd H t.ad (.dK (kv V.int (dr t.rows n)))) { s with tabs := upAt s.tabs i (Tb.fn fun r => dr r n) } ∧ Fr' s { s with tabs := upAt s.tabs i (Tb.fn fun r => dr r n) } H (upd H t.ad (.dK (kv V.int (dr t.rows n)))) := by
  have mt : t.ad ∈ s.dcs := List.mem_cons_of_mem _ (List.mem_cons_of_mem _ (List.mem_map.mpr ⟨_, lk_mem hl, rfl⟩))
  have ads : (upAt s.tabs i (Tb.fn fun r => dr r n)).map (·.2.ad) = s.tabs.map (·.2.ad) := by
    unfold upAt
    rw [List.map_map]
    refine List.map_congr_left fun u _ => ?_
    show (if u.1 = i then (u.1, Tb.fn _ u.2) else u).2.ad = u.2.ad
    split <;> rfl
  refine ⟨S.rows (f := fun r => dr r n) hl nd, ⟨fun b o h nb => ?_, fun b hb => .inl ?_, rfl⟩⟩
  · rw [upd_ne (show b ≠ t.ad from fun z => nb (z ▸ Sy.in_dcs mt))]
    exact h
  · have e : ({ s with tabs := upAt s.tabs i (Tb.fn fun r => dr r n) } : Sy).foot = s.foot := by
      unfold Sy.foot Sy.dcs
      show s.p :: ((s.T :: s.G :: (upAt s.tabs i (Tb.fn fun r => dr r n)).map (·.2.ad)) ++ _) = _
      rw [ads]
      rfl
    rw [e] at hb
    exact hb
theorem cutT_v (s : Sy) (i n : Int) : ({ s with tabs := upAt s.tabs i (Tb.fn fun r => dr r n) } : Sy).v = s.v.cut i n := by
  show (⟨s.P, s.N, s.made, (upAt s.tabs i (Tb.fn fun r => dr r n)).map fun t => (t.1, t.2.rows), _⟩ : Sv) = _
  rw [upAt_map (fun t : Tb => t.rows) (Tb.fn fun r => dr r n) (fun r => dr r n) (fun _ => rfl)]
  rfl
theorem goneT_v (s : Sy) (n : Int) : ({ s with ths := dr s.ths n } : Sy).v = s.v.gone n := by
  show (⟨s.P, s.N, s.made, _, (dr s.ths n).map fun t => (t.1, t.2.tg.v)⟩ : Sv) = _
  unfold Sv.gone Sy.v dr
  rw [List.filter_map]
  rfl
end
theorem shaped_holds (l : List (Int × Int)) : SeqAt.shaped (.list (holdsD l)) = true := by
  have h1 : ∀ l : List (Int × Int), PyData.canLayAll0 (holdsD l) = true := fun l => by
    induction l with
    | nil => rfl
    | cons a l ih => rw [show holdsD (a :: l) = .tuple [.int a.1, .int a.2] :: holdsD l from rfl, PyData.canLayAll0, ih]; rfl
  have h2 : ∀ l : List (Int × Int), PyData.depthAll (holdsD l) ≤ 3 := fun l => by
    induction l with
    | nil => exact Nat.zero_le _
    | cons a l ih =>
      rw [show holdsD (a :: l) = .tuple [.int a.1, .int a.2] :: holdsD l from rfl, PyData.depthAll]
      refine Nat.max_le.mpr ⟨?_, ih⟩
      simp [PyData.depth, PyData.depthAll]
  unfold SeqAt.shaped
  rw [PyData.canLay0, h1 l, Bool.true_and]
  refine decide_eq_true ?_
  rw [PyData.depth]
  have := h2 l
  omega
theorem eqv_holds_nil (l : List (Int × Int)) : PyData.eqv (.list (holdsD l)) (.list []) = l.isEmpty := by
  cases l with
  | nil => rfl
  | cons a l => rfl
def sp_close (K : PySem.W.Frag) : Sp := fun vs H Q E => ∃ (s : Sy) (x y : V), vs = [.ref s.p, x, y] ∧ SyAt K H s ∧ WF s.v ∧ s.made ≤ 1000000 ∧ Obj' H x ∧ Obj' H y ∧ ByProc K s x H E fun i t => ByNum K t y H E fun n ser => ∀ H' s', SyAt K H' s' → s'.v = closeV s.v i n ser → s'.tabs = upAt s.tabs i (Tb.fn fun r => dr r n) → WF s'.v → Fr' s s' H H' → Q .non H'
section
variable {P : Program} {w : World} {K : PySem.W.Frag} {mg : Str → Option Value} {base : Heap}
theorem sc_close : FnScope ["self", "process", "number", "serial", "other"] ["self", "process", "number"] (defScope s_System_close) := ⟨rfl, rfl, rfl, by decide +kernel, rfl, by decide +kernel, by decide +kernel⟩
theorem ok_close (T : Tx K mg) : FnOk P w K mg base (L2.CX P w) 9 (mA "System" "close" K) (fdAt K (mA "System" "close" K)) ["self", "process", "number"] (sp_close K) := by
  refine FunD.ok T.f_System_close sc_close (fun vs H Q E h => ?_) (fun cdv A outer s H vs Q E hr h => ?_)
  · obtain ⟨s, x, y, rfl, _⟩ := h
    rfl
  · obtain ⟨S, x, y, rfl, hS, hw, hm, hx, hy, q⟩ := h
    have hu := hu_of hr
    have hu64 := hr.units
    refine ⟨_, pss_cons (ps_set (i := 3) sc_close.nd rfl (Or.inl rfl) (pe_meth (pv 0) T.c_System T.m_System_serial_at (ok_serial_at T) (hr.mono (by decide)) (b_serial_at T) .nil (passes_call (takes_of rfl rfl rfl rfl) (fun _ _ _ _ h => h)) (pa_cons (pv 1) (pa_cons (pv 2) pa_nil))))
      (pss_cons (ps_expr (pe_dpop1 (pe_dget hu (pe_fld (pv 0) rfl) (pv 1) (fun _ _ => rfl)) (pv 2) ⟨rfl, rfl, rfl, rfl⟩))
      (pss_one (ps_if (pt_cmpR (op_eqD hu64) (pe_meth (pv 0) T.c_System T.m_System_holders (ok_holders T) (hr.mono (by decide)) (b_holders T) .nil pass0 (pa_cons (pv 3) pa_nil)) (pe_lst pa_nil) (nomark _))
        (pss_cons (ps_expr (pe_dpop1 (pe_fld (pv 0) rfl) (pv 3) ⟨rfl, rfl, rfl, rfl⟩))
        (pss_one (ps_for (passes_of rfl) rfl (pi_list (pe_meth0 (pv 0) T.c_System T.m_System_set_serials (ok_set_serials T) hr (b_set_serials T) .nil pass0)) (pg_name (i := 4) sc_close.nd rfl (Or.inl rfl))
          (pss_one (ps_expr (pe_meth (pe_dget hu (pe_fld (pv 0) rfl) (pv 4) (fun _ _ => rfl)) T.c_WaitSet T.m_WaitSet_forget (ok_forget T) (hr.mono (by decide)) (b_forget T) .nil pass0 (pa_cons (pv 3) pa_nil))))))) pss_nil))), ?_⟩
    refine ⟨_, rfl, S.p, S.dx, _, rfl, hS.ob, rfl, _, rfl, _, rfl, S, x, y, rfl, hS, hx, hy, ?_⟩
    rcases q with ⟨i, t, rfl, hl, q⟩ | ⟨hn, q⟩
    rotate_left
    · exact .inr ⟨hn, q⟩
    refine .inl ⟨i, t, rfl, hl, ?_⟩
    rcases q with ⟨n, ser, rfl, hs, q⟩ | ⟨hn, q⟩
    rotate_left
    · exact .inr ⟨hn, q⟩
    refine .inl ⟨n, ser, rfl, hs, ?_⟩
    have g1 := DGet.k (k := Sum.inl i) hS.tb
    rw [val_kv, hl] at g1
    have ht := hS.tt _ (lk_mem hl)
    have ndp : (S.tabs.map (·.1)).Nodup := by rw [← Sy.pids]; exact hw.ndp
    have hiv : lk S.v.tabs i = some t.rows := by rw [Sy.tabs_v, hl]; rfl
    have vn : valV (kv V.int t.rows) (Sum.inl n : Key) = some (.int ser) := by rw [val_kv, hs]; rfl
    refine ⟨_, rfl, _, _, _, _, _, rfl, hS.ob, T.c_System, T.n_System_tables, rfl, _, rfl, _, _, rfl, g1, t.ad, rfl, .inl ⟨_, .inl ht⟩, _, rfl, _, Sum.inl n, _, ht, rfl, vn, ?_⟩
    rw [drop_kv]
    obtain ⟨S1, f1⟩ := hS.cutT n hl ndp
    have v1 := cutT_v S i n
    have w1 := hw.cut0 i n
    generalize eS1 : ({ S with tabs := upAt S.tabs i (Tb.fn fun r => dr r n) } : Sy) = s1 at S1 f1 v1
    have p1 : s1.p = S.p := by rw [← eS1]
    have t1 : s1.tabs = upAt S.tabs i (Tb.fn fun r => dr r n) := by rw [← eS1]
    have m1 : s1.made = S.made := by rw [← eS1]
    have k1 : s1.ths = S.ths := by rw [← eS1]
    generalize eH1 : upd H t.ad (.dK (kv V.int (dr t.rows n))) = H1 at S1 f1
    refine ⟨_, rfl, s1.p, s1.dx, _, by rw [p1], S1.ob, rfl, _, rfl, s1, ser, by rw [p1]; rfl, S1, by rw [v1]; exact w1, fun H2 ph nd2 => ?_⟩
    refine ⟨by decide, fun F nF => ?_⟩
    have e3 : Same H2 (upd H2 F (.lst [])) := new_same nF
    have e13 : Same H1 (upd H2 F (.lst [])) := nd2.same.trans e3
    refine ⟨.list (holdsD (holds s1.v.tabs ser)), .list [], Dp.same e3 _ _ nd2.dp, .lst (SqL.of upd_same) .nil, shaped_holds _, rfl, _, rfl, ?_⟩
    generalize eH3 : upd H2 F (.lst []) = H3 at e13
    rw [eqv_holds_nil, v1]
    have S3 := S1.ext e13
    cases hh : holds (S.v.cut i n).tabs ser with
    | cons a l =>
      refine iteF ?_
      have ev : s1.v = closeV S.v i n ser := by
        unfold closeV
        rw [hh, if_neg (fun z => nomatch z)]
        exact v1
      exact q H3 s1 S3 ev t1 (by rw [ev]; exact hw.close hiv hs) (f1.more e13)
    | nil =>
      refine iteT ?_
      obtain ⟨th, hth⟩ := hw.thing hl hs
      have hth1 : lk s1.ths ser = some th := by rw [k1]; exact hth
      have vt : valV (kv thV s1.ths) (Sum.inl ser : Key) = some (thV th) := by rw [val_kv, hth1]; rfl
      refine ⟨_, rfl, _, _, _, _, _, by rw [← p1], S3.ob, T.c_System, T.n_System_things, rfl, s1.G, rfl, .inl ⟨_, .inl S3.gb⟩, _, rfl, _, Sum.inl ser, _, S3.gb, rfl, vt, ?_⟩
      rw [drop_kv]
      obtain ⟨S4, f4⟩ := S3.goneT ser
      have v4 := goneT_v s1 ser
      rw [v1] at v4
      have w4 := w1.gone ser
      have f14 := (f1.more e13).trans f4
      generalize eS4 : ({ s1 with ths := dr s1.ths ser } : Sy) = s4 at S4 f4 v4 f14
      have p4 : s4.p = S.p := by rw [← eS4]; exact p1
      have t4 : s4.tabs = upAt S.tabs i (Tb.fn fun r => dr r n) := by rw [← eS4]; exact t1
      have m4 : s4.made = S.made := by rw [← eS4]; exact m1
      generalize eH4 : upd H3 s1.G (.dK (kv thV (dr s1.ths ser))) = H4 at S4 f4 f14
      refine ⟨_, rfl, s4.p, s4.dx, _, by rw [p4], S4.ob, rfl, s4, by rw [p4]; rfl, S4, by rw [v4]; exact w4, by rw [v4]; exact hw.cutS hiv hs, by rw [m4]; exact hm, fun H5 pl e5 npl h5 => ?_⟩
      have plf : pl ∉ s4.foot := S4.notfoot npl
      have ndx : (setsIn s4.v).Nodup := (setsIn_perm s4.v).nodup_iff.mpr (setSers_nodup (by rw [v4]; exact w4))
      refine ⟨pl, rfl, ⟨_, SqL.of h5⟩, ?_⟩
      refine for_list (xs := (setsIn s4.v).map V.int) (fun k σ H' => (∃ v4', σ = [some (.ref S.p), some (.int i), some (.int n), some (.int ser), v4']) ∧ ∃ sk, SyAt K H' sk ∧ sk.v = s4.v.fgtK ser ((setsIn s4.v).take k) ∧ sk.tabs = s4.tabs ∧ Fr' s4 sk H5 H') ⟨⟨_, rfl⟩, s4, S4.ext e5, by rw [List.take_zero, fgtK_nil], rfl, Fr'.refl _ _⟩ (fun k σ H' hk g => ?_) ?_ ?_
      · obtain ⟨_, sk, _, _, _, fk⟩ := g
        exact SqL.of (fk.keep _ _ h5 plf)
      · rintro k x σ H' hx ⟨⟨v4', rfl⟩, sk, Sk, ek, tk, fk⟩
        rw [List.getElem?_map] at hx
        cases en : (setsIn s4.v)[k]? with
        | none => rw [en] at hx; cases hx
        | some m =>
          rw [en] at hx
          cases hx
          have mm := (setsIn_perm s4.v).mem_iff.mp (List.mem_of_getElem? en)
          obtain ⟨tt, htt, em⟩ := List.mem_map.mp mm
          obtain ⟨ht1, ht2⟩ := List.mem_filter.mp htt
          subst em
          have nds4 : (s4.v.ths.map (·.1)).Nodup := by rw [v4]; exact w4.nds
          have lk4 : lk s4.v.ths tt.1 = some tt.2 := lk_of_mem nds4 ht1
          have hnd : tt.1 ∉ (setsIn s4.v).take k := by
            intro z
            have nd1 : ((setsIn s4.v).take (k + 1)).Nodup := ndx.sublist (List.take_sublist _ _)
            rw [take_next en] at nd1
            exact (List.nodup_append.mp nd1).2.2 tt.1 z tt.1 (List.mem_singleton.mpr rfl) rfl
          have lkk : lk sk.v.ths tt.1 = some tt.2 := by rw [ek, fgtK_lk, lk4, Option.map_some, if_neg hnd]
          rw [Sy.ths_v] at lkk
          obtain ⟨thk, hk1, hk2⟩ := Option.map_eq_some_iff.mp lkk
          obtain ⟨dx, L, R, es, row, et⟩ := set_of (by rw [hk2]; exact ht2 : thk.tg.v.isSet = true)
          have inV : tt ∈ S.v.ths := by
            rw [v4] at ht1
            exact (dr_mem.mp (show tt ∈ dr S.v.ths ser from ht1)).1
          have so : SetOk S.v (es.map En.v) row := hw.ok tt inV _ _ (by rw [← hk2, et]; rfl)
          have tgk := Sk.gt _ (lk_mem hk1)
          rw [show ((tt.1, thk) : Int × Th).2.tg = .set dx L R es row from et] at tgk
          obtain ⟨nLR, nde⟩ := Sk.setLR hk1 et
          have ndk : (sk.ths.map (·.1)).Nodup := by
            rw [← Sy.sers, ek]
            show ((s4.v.fgtK ser _).ths.map (·.1)).Nodup
            unfold Sv.fgtK
            rw [mapT_keys]
            exact nds4
          have g7 : DGet H' sk.G (.int tt.1) (some (thV thk)) := .inl ⟨_, Sum.inl tt.1, .inl Sk.gb, rfl, by rw [val_kv, hk1]; rfl⟩
          have pk : sk.p = S.p := fk.same.trans p4
          have zl : es.length ≤ mostE := by have := so.2.2.2.2.2; rw [List.length_map] at this; exact this
          refine ⟨_, rfl, _, _, _, _, _, by rw [← pk], Sk.ob, T.c_System, T.n_System_things, rfl, _, rfl, _, _, rfl, g7, thk.ad, dx, _, rfl, tgk.1, rfl, _, rfl, thk.ad, dx, L, R, es, row, ser, rfl, tgk, nLR, zl, Nat.le_trans (Nat.le_trans so.row.len so.2.2.2.2.2) mostE_le, fun H6 L' R' hL hR nn a6 l6 r6 k6 => ?_⟩
          have sub : (offN (labsN ser es) es).Sublist es := List.filter_sublist
          have tE : TgAt K H6 thk.ad (.set dx L' R' (offN (labsN ser es) es) (offR (labsN ser es) row)) := ⟨a6, l6, r6, fun y hy => k6 _ _ (tgk.2.2.2 y (sub.subset hy)) (ne_of (tgk.2.2.2 y (sub.subset hy)) tgk.1 (Ne.symm (ins_ne "label" (fun z => nomatch z))))⟩
          obtain ⟨s7, f7⟩ := Sk.resets hk1 et ndk tE (fun b o h nb _ _ _ => k6 b o h nb) hL hR nn (fun a ha => .inl ((sub.map _).subset ha)) (List.Nodup.sublist (sub.map _) nde)
          refine ⟨⟨_, rfl⟩, _, s7, ?_, tk, fk.trans f7⟩
          rw [Sy.re_v, ek, take_next en, ← fgtK_step lk4 nds4 hnd]
          congr 1
          rw [← hk2, et]
          show Tv.set ((offN (labsN ser es) es).map En.v) (offR (labsN ser es) row) = .set (offE (labsE ser (es.map En.v)) (es.map En.v)) (offR (labsE ser (es.map En.v)) row)
          rw [offN_v, labsN_v]
      · rintro σ H' ⟨⟨v4', rfl⟩, sk, Sk, ek, tk, fk⟩
        rw [List.length_map, List.take_length, fgtK_all (fun t ht hs => (setsIn_perm s4.v).mem_iff.mpr (List.mem_map.mpr ⟨t, List.mem_filter.mpr ⟨ht, hs⟩, rfl⟩)), v4] at ek
        have ev : sk.v = closeV S.v i n ser := by
          unfold closeV
          rw [if_pos hh]
          exact ek
        exact q H' sk Sk ev (tk.trans t4) (by rw [ev]; exact hw.close hiv hs) ((f14.more e5).trans fk)
theorem b_close (T : Tx K mg) : Binds K (fdAt K (mA "System" "close" K)) ["self", "process", "number"] [] := FunD.bindsN T.f_System_close fun _ _ _ _ _ _ us hl => match us, hl with | [_, _, _], _ => rfl
end

/-! ### is_integer, is_between of more objects -/
def ObjK (K : PySem.W.Frag) (H : Hp) (x : V) : Prop := Obj' H x ∨ ∃ a xs, x = .ref a ∧ (SqT K H a xs ∨ SqL K H a xs)
theorem objK_ty {K : PySem.W.Frag} {H : Hp} {x : V} (h : ObjK K H x) : ∃ (t : Value) (b c : Bool), TyX K H x t ∧ PySem.W.kitOne K t (.type "int") = some b ∧ PySem.W.kitOne K t (.type "bool") = some c ∧ (b && !c) = isI x := by
  rcases h with h | ⟨a, xs, rfl, h | h⟩
  · exact obj_ty h
  · refine ⟨.type "tuple", false, false, ?_, kit_ty (by decide +kernel), kit_ty (by decide +kernel), rfl⟩
    rcases h with (h | ⟨o, h⟩) | ⟨o, _, _, h1, h2, _⟩
    · exact .base (.tup h)
    · exact .fTuple h
    · exact .kTuple h1 h2
  · refine ⟨.type "list", false, false, ?_, kit_ty (by decide +kernel), kit_ty (by decide +kernel), rfl⟩
    rcases h with (h | ⟨o, h⟩) | ⟨o, _, _, h1, h2, _⟩
    · exact .base (.lst h)
    · exact .base (.frz h)
    · exact .kList h1 h2
def sp_is_integerK (K : PySem.W.Frag) : Sp := fun vs H Q _ => ∃ x, vs = [x] ∧ ObjK K H x ∧ Q (.bl (isI x)) H
def sp_is_betweenK (K : PySem.W.Frag) : Sp := fun vs H Q _ => ∃ x lo hi, vs = [x, .int lo, .int hi] ∧ ObjK K H x ∧ Q (.bl (betw x lo hi)) H
section
variable {P : Program} {w : World} {K : PySem.W.Frag} {mg : Str → Option Value} {base : Heap}
theorem ok_is_integerK (T : Tx K mg) : FnOk P w K mg base CX0 1 (gA "is_integer" K) (fdAt K (gA "is_integer" K)) ["thing"] (sp_is_integerK K) := by
  refine FunD.ok T.f_is_integer sc_is_integer (fun vs H Q E h => ?_) (fun cdv A outer s H vs Q E hr h => ?_)
  · obtain ⟨x, rfl, _⟩ := h
    rfl
  · obtain ⟨x, rfl, hx, q⟩ := h
    refine ⟨_, PSs.nox (pss_one (ps_ret (pe_and (pe_callB call_isi (by rfl) T.free_isinstance (by decide +kernel) (pa_cons (pv 0) (pa_cons (pe_bltn (v := .ty "int") (by rfl) T.free_int (by decide +kernel) rfl) pa_nil)))
      (pe_one (pe_not (pe_callB call_isi (by rfl) T.free_isinstance (by decide +kernel) (pa_cons (pv 0) (pa_cons (pe_bltn (v := .ty "bool") (by rfl) T.free_bool (by decide +kernel) rfl) pa_nil)))))))), ?_⟩
    obtain ⟨t, b, c, ty, h1, h2, e⟩ := objK_ty hx
    refine ⟨_, rfl, _, _, t, .type "int", b, rfl, .ty "int", ty, h1, b, rfl, ?_⟩
    cases b with
    | false =>
      refine iteF ?_
      rw [← e] at q
      exact q
    | true =>
      refine iteT ?_
      refine ⟨_, rfl, _, _, t, .type "bool", c, rfl, .ty "bool", ty, h2, c, rfl, ?_⟩
      rw [← e] at q
      exact q
theorem ok_is_betweenK (T : Tx K mg) : FnOk P w K mg base CX0 2 (gA "is_between" K) (fdAt K (gA "is_between" K)) ["thing", "low", "high"] (sp_is_betweenK K) := by
  refine FunD.ok T.f_is_between sc_is_between (fun vs H Q E h => ?_) (fun cdv A outer s H vs Q E hr h => ?_)
  · obtain ⟨x, lo, hi, rfl, _⟩ := h
    rfl
  · obtain ⟨x, lo, hi, rfl, hx, q⟩ := h
    refine ⟨_, PSs.nox (pss_one (ps_ret (pe_and (pe_call (ok_is_integerK T) hr (by rfl) T.g_is_integer T.f_is_integer.kp (b_is_integer T) .nil pass0 (pa_cons (pv 0) pa_nil))
      (pe_one (pe_chain op_le op_le (pv 1) (pv 0) (pv 2)))))), ?_⟩
    refine ⟨_, rfl, x, rfl, hx, isI x, rfl, ?_⟩
    cases x with
    | int i =>
      refine iteT ?_
      refine ⟨_, rfl, _, rfl, lo, i, rfl, rfl, _, rfl, ?_⟩
      by_cases c : lo ≤ i
      · rw [decide_eq_true c]
        refine iteT ?_
        refine ⟨_, rfl, i, hi, rfl, rfl, ?_⟩
        have e : betw (.int i) lo hi = decide (i ≤ hi) := by show (decide (lo ≤ i) && decide (i ≤ hi)) = _; rw [decide_eq_true c]; rfl
        rw [e] at q
        exact q
      · rw [decide_eq_false c]
        refine iteF ?_
        have e : betw (.int i) lo hi = false := by show (decide (lo ≤ i) && decide (i ≤ hi)) = _; rw [decide_eq_false c]; rfl
        rw [e] at q
        exact q
    | _ => exact iteF q
end
/-! ### copy -/
def Sv.addRow (v : Sv) (i k ser : Int) : Sv := { v with tabs := upAt v.tabs i (· ++ [(k, ser)]) }
def copyV (v : Sv) (i k ser : Int) (rows : List (Int × Int)) : Sv := match lk rows k with
  | none => v.addRow i k ser
  | some old => if old = ser then v else (closeV v i k old).addRow i k ser
theorem WF.addRow {v : Sv} (h : WF v) {i k ser : Int} {rows : List (Int × Int)} (hl : lk v.tabs i = some rows) (hk : 0 ≤ k ∧ k < v.N ∧ k ∉ rows.map (·.1)) (hs : ser ∈ v.ths.map (·.1)) : WF (v.addRow i k ser) := by
  have mem : (i, rows) ∈ v.tabs := lk_mem hl
  have one : ∀ {t : Int × List (Int × Int)}, t ∈ (v.addRow i k ser).tabs → t ∈ v.tabs ∨ t = (i, rows ++ [(k, ser)]) := fun {t} ht => by
    rcases upAt_mem (show t ∈ upAt v.tabs i (· ++ [(k, ser)]) from ht) with ⟨_, z⟩ | ⟨x, hx, rfl⟩
    · exact .inl z
    · have := lk_of_mem h.ndp hx
      rw [hl] at this
      cases this
      exact .inr rfl
  refine ⟨h.p, h.n, ?_, fun t ht => ?_, fun t ht => ?_, fun t ht r hr => ?_, fun t ht r hr => ?_, h.nds, h.rs, fun t ht => ?_, h.ok⟩
  · show ((upAt v.tabs i (· ++ [(k, ser)])).map (·.1)).Nodup
    rw [upAt_keys]
    exact h.ndp
  · rcases one ht with z | z
    · exact h.rp t z
    · subst z
      exact h.rp (i, rows) mem
  · rcases one ht with z | z
    · exact h.ndn t z
    · subst z
      show ((rows ++ [(k, ser)]).map (·.1)).Nodup
      rw [List.map_append]
      exact nd_snoc (h.ndn (i, rows) mem) hk.2.2
  · rcases one ht with z | z
    · exact h.rn t z r hr
    · subst z
      rcases List.mem_append.mp hr with y | y
      · exact h.rn (i, rows) mem r y
      · cases List.mem_singleton.mp y
        exact ⟨hk.1, hk.2.1⟩
  · rcases one ht with z | z
    · exact h.th t z r hr
    · subst z
      rcases List.mem_append.mp hr with y | y
      · exact h.th (i, rows) mem r y
      · cases List.mem_singleton.mp y
        exact hs
  · obtain ⟨u, hu, r, hr, e⟩ := h.held t ht
    refine ⟨_, List.mem_map.mpr ⟨u, hu, rfl⟩, r, ?_, e⟩
    show r ∈ (if u.1 = i then (u.1, u.2 ++ [(k, ser)]) else u).2
    split
    · exact List.mem_append_left _ hr
    · exact hr
theorem closeV_ths {v : Sv} {i n ser k : Int} (h : k ∈ v.ths.map (·.1)) (ne : k ≠ ser) : k ∈ (closeV v i n ser).ths.map (·.1) := by
  unfold closeV
  split
  · rw [Sv.fgt, mapT_keys]
    obtain ⟨t, ht, e⟩ := List.mem_map.mp h
    exact List.mem_map.mpr ⟨t, dr_mem.mpr ⟨ht, by rw [e]; exact ne⟩, e⟩
  · exact h
section
variable {K : PySem.W.Frag} {H : Hp} {s : Sy}
theorem SyAt.addT (S : SyAt K H s) {i : Int} {t : Tb} (k ser : Int) (hl : lk s.tabs i = some t) (nd : (s.tabs.map (·.1)).Nodup) : SyAt K (upd H t.ad (.dK (kv V.int (t.rows ++ [(k, ser)])))) { s with tabs := upAt s.tabs i (Tb.fn (· ++ [(k, ser)])) } ∧ Fr' s { s with tabs := upAt s.tabs i (Tb.fn (· ++ [(k, ser)])) } H (upd H t.ad (.dK (kv V.int (t.rows ++ [(k, ser)])))) ∧ ({ s with tabs := upAt s.tabs i (Tb.fn (· ++ [(k, ser)])) } : Sy).v = s.v.addRow i k ser := by
  have mt : t.ad ∈ s.dcs := List.mem_cons_of_mem _ (List.mem_cons_of_mem _ (List.mem_map.mpr ⟨_, lk_mem hl, rfl⟩))
  have ads : (upAt s.tabs i (Tb.fn (· ++ [(k, ser)]))).map (·.2.ad) = s.tabs.map (·.2.ad) := by
    unfold upAt
    rw [List.map_map]
    refine List.map_congr_left fun u _ => ?_
    show (if u.1 = i then (u.1, Tb.fn _ u.2) else u).2.ad = u.2.ad
    split <;> rfl
  refine ⟨S.rows (f := (· ++ [(k, ser)])) hl nd, ⟨fun b o h nb => ?_, fun b hb => .inl ?_, rfl⟩, ?_⟩
  · rw [upd_ne (show b ≠ t.ad from fun z => nb (z ▸ Sy.in_dcs mt))]
    exact h
  · have e : ({ s with tabs := upAt s.tabs i (Tb.fn (· ++ [(k, ser)])) } : Sy).foot = s.foot := by
      unfold Sy.foot Sy.dcs
      show s.p :: ((s.T :: s.G :: (upAt s.tabs i (Tb.fn (· ++ [(k, ser)]))).map (·.2.ad)) ++ _) = _
      rw [ads]
      rfl
    rw [e] at hb
    exact hb
  · show (⟨s.P, s.N, s.made, (upAt s.tabs i (Tb.fn (· ++ [(k, ser)]))).map fun t => (t.1, t.2.rows), _⟩ : Sv) = _
    rw [upAt_map (fun t : Tb => t.rows) (Tb.fn (· ++ [(k, ser)])) (· ++ [(k, ser)]) (fun _ => rfl)]
    rfl
end
def sp_copy (K : PySem.W.Frag) : Sp := fun vs H Q E => ∃ (s : Sy) (x y z : V), vs = [.ref s.p, x, y, z] ∧ SyAt K H s ∧ WF s.v ∧ s.made ≤ 1000000 ∧ Obj' H x ∧ Obj' H y ∧ ObjK K H z ∧ ByProc K s x H E fun i t => ByNum K t y H E fun n ser =>
  (z = .non → (∀ k, lowFree (t.rows.map (·.1)) s.N = some k → ∀ H' s', SyAt K H' s' → s'.v = s.v.addRow i k ser → WF s'.v → Fr' s s' H H' → Q (.int k) H') ∧ (lowFree (t.rows.map (·.1)) s.N = none → Raised K H E "Full" (errF x))) ∧
  (z ≠ .non → (betw z 0 (s.N - 1) = false → Raised K H E "NoNumber" (errN "NoNumber" z)) ∧ ∀ k, z = .int k → 0 ≤ k → k ≤ s.N - 1 → ∀ H' s', SyAt K H' s' → s'.v = copyV s.v i k ser t.rows → WF s'.v → Fr' s s' H H' → Q (.int k) H')
theorem put0 {H : Hp} {a : Addr} {rows : List (Int × Int)} {v : Sv} {i k ser : Int} (hk : lk rows k = none) (ht : H a = some (.dK (kv V.int rows))) (hi : lk v.tabs i = some rows) (hw : WF v) : DPut H a (.int k) (.int ser) (upd H a (.dK (kv V.int (rows ++ [(k, ser)])))) := by
  have r8 : rows.length ≤ 8 := hw.rows8 (t := (i, rows)) (lk_mem hi)
  have g3 := DPut.k (k := Sum.inl k) (v := .int ser) ht (by rw [kv_len]; exact Nat.lt_of_le_of_lt r8 (by decide))
  rw [put_kv V.int k ser hk] at g3
  exact g3
section
variable {P : Program} {w : World} {K : PySem.W.Frag} {mg : Str → Option Value} {base : Heap}
theorem ei_NoNumber (T : Tx K mg) : FnOk P w K mg base CX0 1 (mA "NoNumber" "__init__" K) (fdAt K (mA "NoNumber" "__init__" K)) ["self", "number"] (spErr (ga K "NoNumber") "number" "NoNumber") :=
  err_init T.x_NoNumber T.f_NoNumber___init__ ⟨rfl, rfl, rfl, by decide +kernel, rfl, by decide +kernel, by decide +kernel⟩ rfl ⟨by decide, by decide⟩ ⟨by decide, by decide⟩ (fun _ => ⟨rfl, rfl⟩) ⟨.inl rfl, .inl rfl⟩
theorem eb_NoNumber (T : Tx K mg) : Binds K (fdAt K (mA "NoNumber" "__init__" K)) ["self", "number"] [] := FunD.bindsN T.f_NoNumber___init__ fun _ _ _ _ _ _ us hl => match us, hl with | [_, _], _ => rfl
theorem sc_copy : FnScope ["self", "process", "number", "to", "serial", "table"] ["self", "process", "number", "to"] (defScope s_System_copy) := ⟨rfl, rfl, rfl, by decide +kernel, rfl, by decide +kernel, by decide +kernel⟩
theorem ok_copy (T : Tx K mg) : FnOk P w K mg base (L2.CX P w) 10 (mA "System" "copy" K) (fdAt K (mA "System" "copy" K)) ["self", "process", "number", "to"] (sp_copy K) := by
  refine FunD.ok T.f_System_copy sc_copy (fun vs H Q E h => ?_) (fun cdv A outer s H vs Q E hr h => ?_)
  · obtain ⟨s, x, y, z, rfl, _⟩ := h
    rfl
  · obtain ⟨S, x, y, z, rfl, hS, hw, hm, hx, hy, hz, q⟩ := h
    have hu := hu_of hr
    have hu64 := hr.units
    refine ⟨_, pss_cons (ps_set (i := 4) sc_copy.nd rfl (Or.inl rfl) (pe_meth (pv 0) T.c_System T.m_System_serial_at (ok_serial_at T) (hr.mono (by decide)) (b_serial_at T) .nil (passes_call (takes_of rfl rfl rfl rfl) (fun _ _ _ _ h => h)) (pa_cons (pv 1) (pa_cons (pv 2) pa_nil))))
      (pss_cons (ps_if (pt_cmpR op_isN (pv 3) pe_non (nomark _)) (pss_one (ps_set (i := 3) sc_copy.nd rfl (Or.inl rfl) (pe_meth (pv 0) T.c_System T.m_System_lowest_free (ok_lowest_free T) (hr.mono (by decide)) (b_lowest_free T) .nil (passes_call (takes_of rfl rfl rfl rfl) (fun _ _ _ _ h => h)) (pa_cons (pv 1) pa_nil))))
        (pss_one (ps_if (pt_not (pt_val (pe_call (ok_is_betweenK T) (hr.mono (by decide)) (by rfl) T.g_is_between T.f_is_between.kp (b_is_between T) .nil pass0 (pa_cons (pv 3) (pa_cons pe_int (pa_cons (pe_op op_sub (pe_fld (pv 0) rfl) pe_int) pa_nil))))))
          (pss_one (ps_raise rfl (takes_of rfl rfl rfl rfl) (pmk_err T.x_NoNumber (ei_NoNumber T) (hr.mono (by decide)) (eb_NoNumber T) pass0 (by rfl) T.g_NoNumber (pv 3)))) pss_nil)))
      (pss_cons (ps_set (i := 5) sc_copy.nd rfl (Or.inl rfl) (pe_dget hu (pe_fld (pv 0) rfl) (pv 1) (fun _ _ => rfl)))
      (pss_cons (ps_if (pt_cmpR (op_neD hu64) (pe_dget1 hu (pv 5) (pv 3) ⟨rfl, rfl, rfl, rfl⟩) (pv 4) (nomark _))
        (pss_cons (ps_if (pt_cmp (pc_din hu (pv 3) (pv 5))) (pss_one (ps_expr (pe_meth (pv 0) T.c_System T.m_System_close (ok_close T) hr (b_close T) .nil (passes_call (takes_of rfl rfl rfl rfl) (fun _ _ _ _ h => h)) (pa_cons (pv 1) (pa_cons (pv 3) pa_nil))))) pss_nil)
        (pss_one (ps_dput hu (pv 5) (pv 3) (pv 4) rfl))) pss_nil)
      (pss_one (ps_ret (pv 3)))))), ?_⟩
    refine ⟨_, rfl, S.p, S.dx, _, rfl, hS.ob, rfl, _, rfl, _, rfl, S, x, y, rfl, hS, hx, hy, ?_⟩
    rcases q with ⟨i, t, rfl, hl, q⟩ | ⟨hn, q⟩
    rotate_left
    · exact .inr ⟨hn, q⟩
    refine .inl ⟨i, t, rfl, hl, ?_⟩
    rcases q with ⟨n, ser, rfl, hs, q⟩ | ⟨hn, q⟩
    rotate_left
    · exact .inr ⟨hn, q⟩
    refine .inl ⟨n, ser, rfl, hs, ?_⟩
    have g1 := DGet.k (k := Sum.inl i) hS.tb
    rw [val_kv, hl] at g1
    have ht := hS.tt _ (lk_mem hl)
    have ndp : (S.tabs.map (·.1)).Nodup := by rw [← Sy.pids]; exact hw.ndp
    have hiv : lk S.v.tabs i = some t.rows := by rw [Sy.tabs_v, hl]; rfl
    have sm : ser ∈ S.v.ths.map (·.1) := hw.th (i, t.rows) (lk_mem hiv) _ (lk_mem hs)
    have sN : S.v.N = S.N := rfl
    have hN := hw.n
    refine ⟨_, rfl, rfl, _, rfl, ?_⟩
    by_cases cz : z = .non
    · subst cz
      refine iteT ⟨_, rfl, S.p, S.dx, _, rfl, hS.ob, rfl, _, rfl, S, .int i, rfl, hS, hx, hw, .inl ⟨i, t, rfl, hl, fun k hk => ?_, (q.1 rfl).2⟩⟩
      obtain ⟨k0, k1, k2⟩ := lowFree_spec hk
      have lkn : lk t.rows k = none := lk_none.mpr k2
      have g2 := DGet.k (k := Sum.inl k) ht
      rw [val_kv, lkn] at g2
      refine ⟨_, rfl, _, _, _, _, _, rfl, hS.ob, T.c_System, T.n_System_tables, rfl, _, rfl, _, _, rfl, g1, ?_⟩
      refine ⟨_, rfl, t.ad, rfl, .inl ⟨_, .inl ht⟩, _, rfl, _, g2, _, rfl, .none, .int ser, .non, .int _, rfl, rfl, _, rfl, ?_⟩
      refine iteT ⟨_, rfl, _, rfl, _, _, rfl, g2, _, rfl, iteF ?_⟩
      refine ⟨_, rfl, _, rfl, _, rfl, t.ad, _, rfl, put0 lkn ht hiv hw, ?_⟩
      obtain ⟨S2, f2, v2⟩ := hS.addT k ser hl ndp
      refine ⟨_, rfl, (q.1 rfl).1 k hk _ _ S2 v2 ?_ f2⟩
      rw [v2]
      exact hw.addRow hiv ⟨k0, by omega, k2⟩ sm
    · rw [decide_eq_false cz]
      refine iteF ⟨_, rfl, _, rfl, _, _, _, _, _, rfl, hS.ob, T.c_System, T.n_System_number_limit, rfl, _, _, rfl, rfl, z, 0, S.N - 1, rfl, hz, ?_⟩
      obtain ⟨qn, qk⟩ := q.2 cz
      refine ⟨_, rfl, ?_⟩
      cases cb : betw z 0 (S.N - 1) with
      | false => exact iteT ⟨_, rfl, fun d hd => (qn cb).here hd⟩
      | true =>
        obtain ⟨k, rfl, k0, k1⟩ := betw_int cb
        have qk := qk k rfl k0 k1
        have g2 := DGet.k (k := Sum.inl k) ht
        rw [val_kv] at g2
        refine iteF ⟨_, rfl, _, _, _, _, _, rfl, hS.ob, T.c_System, T.n_System_tables, rfl, _, rfl, _, _, rfl, g1, ?_⟩
        unfold copyV at qk
        cases lkk : lk t.rows k with
        | none =>
          rw [lkk] at g2 qk
          refine ⟨_, rfl, t.ad, rfl, .inl ⟨_, .inl ht⟩, _, rfl, _, g2, _, rfl, .none, .int ser, .non, .int _, rfl, rfl, _, rfl, ?_⟩
          refine iteT ⟨_, rfl, _, rfl, _, _, rfl, g2, _, rfl, iteF ?_⟩
          refine ⟨_, rfl, _, rfl, _, rfl, t.ad, _, rfl, put0 lkk ht hiv hw, ?_⟩
          obtain ⟨S2, f2, v2⟩ := hS.addT k ser hl ndp
          refine ⟨_, rfl, qk _ _ S2 v2 ?_ f2⟩
          rw [v2]
          exact hw.addRow hiv ⟨k0, by omega, lk_none.mp lkk⟩ sm
        | some old =>
          rw [lkk] at g2 qk
          simp only at qk
          refine ⟨_, rfl, t.ad, rfl, .inl ⟨_, .inl ht⟩, _, rfl, _, g2, _, rfl, .int old, .int ser, .int _, .int _, rfl, rfl, _, rfl, ?_⟩
          by_cases co : old = ser
          · rw [if_pos co] at qk
            rw [show PyData.eqv (.int old) (.int ser) = true from by show (old == ser) = true; simp [co]]
            refine iteF ⟨_, rfl, qk H S hS rfl hw (Fr'.refl _ _)⟩
          · rw [if_neg co] at qk
            rw [show PyData.eqv (.int old) (.int ser) = false from by show (old == ser) = false; simp [co]]
            refine iteT ⟨_, rfl, _, rfl, _, _, rfl, g2, _, rfl, iteT ?_⟩
            refine ⟨_, rfl, S.p, S.dx, _, rfl, hS.ob, rfl, _, rfl, _, rfl, S, .int i, .int k, rfl, hS, hw, hm, hx, True.intro, .inl ⟨i, t, rfl, hl, .inl ⟨k, old, rfl, lkk, fun H1 s1 S1 v1 t1 w1 f1 => ?_⟩⟩⟩
            have hl1 : lk s1.tabs i = some (Tb.fn (fun r => dr r k) t) := by rw [t1, upAt_lk, if_pos rfl, hl]; rfl
            have ht1 := S1.tt _ (lk_mem hl1)
            have hiv1 : lk s1.v.tabs i = some (dr t.rows k) := by rw [Sy.tabs_v, hl1]; rfl
            have lkd : lk (dr t.rows k) k = none := by rw [lk_dr, if_pos rfl]
            refine ⟨_, rfl, _, rfl, _, rfl, t.ad, _, rfl, put0 lkd ht1 hiv1 w1, ?_⟩
            obtain ⟨S2, f2, v2⟩ := S1.addT k ser hl1 (by rw [← Sy.pids]; exact w1.ndp)
            rw [v1] at v2
            refine ⟨_, rfl, qk _ _ S2 v2 ?_ (f1.trans f2)⟩
            rw [v2, ← v1]
            refine w1.addRow hiv1 ⟨k0, ?_, lk_none.mp lkd⟩ ?_
            · have : s1.v.N = S.v.N := by rw [v1]; unfold closeV; split <;> rfl
              omega
            · rw [v1]
              exact closeV_ths sm (Ne.symm co)
theorem b_copyTo (T : Tx K mg) : ∃ ds, Vals [] ds ∧ Binds K (fdAt K (mA "System" "copy" K)) ["self", "process", "number", "to"] ds := by
  have z := FunD.binds1 (ps := ["self", "process", "number", "to"]) T.f_System_copy 4 1 (fun z => nomatch z) rfl fun T kV doc pm an cdv ct us its l1 l2 => match us, its, l1, l2 with | [_, _, _, _], [_], _, _ => ⟨_, rfl, rfl⟩
  exact z
end

/-! ### finish -/
/-! ### finish -/
section
variable {P : Program} {w : World} {K : PySem.W.Frag} {mg : Str → Option Value} {base : Heap}
end

/-! ### registrations -/
def regD (v : Sv) (s : Int) (e : Ev) : PyData := .tuple [nameD v s, .int e.lab, .int e.num, nameD v e.ser, .str e.wrd, .bool e.arm]
def regsOf (v : Sv) (s : Int) : List Ev := match lk v.ths s with
  | some (.set es _) => es
  | _ => []
def regsD (v : Sv) : List PyData := (setsIn v).flatMap fun s => (regsOf v s).map (regD v s)
def sp_registrations (K : PySem.W.Frag) : Sp := fun vs H Q _ => ∃ (s : Sy), vs = [.ref s.p] ∧ SyAt K H s ∧ WF s.v ∧ s.made ≤ 1000000 ∧ (regsD s.v).length ≤ 1000000 ∧ ∀ H' p, Same H H' → Gd K H p H' (regsD s.v) → Q (.ref p) H'
theorem Gd.addT {K : PySem.W.Frag} {H1 H' : Hp} {D p : Addr} {ds es : List PyData} {vs : List V} (g : Gd K H1 D H' ds) (hp : H' p = none) (hp1 : H1 p = none) (hd : DpAll K (frs H1 (off D H')) vs es) : ∃ xs, upd H' p (.tup vs) D = some (.lst xs) ∧ xs.length = ds.length ∧ Gd K H1 D (upd (upd H' p (.tup vs)) D (.lst (xs ++ [.ref p]))) (ds ++ [.tuple es]) := by
  obtain ⟨xs, h1, h2⟩ := g.has
  have ne : D ≠ p := fun z => by rw [← z, h1] at hp; cases hp
  have kk : ∀ b o, H1 b = none → b ≠ D → H' b = some o → upd (upd H' p (.tup vs)) D (.lst (xs ++ [.ref p])) b = some o := fun b o hb n h => by
    rw [upd_ne n, upd_ne (ne_of_none h hp)]
    exact h
  refine ⟨xs, by rw [upd_ne ne]; exact h1, dpLen h2, g.new, _, upd_same, dpApp (DpAll.same (frs_keep kk) _ _ h2) (.cons (.tup (SqT.of ?_) (DpAll.same (frs_keep kk) _ _ hd)) .nil)⟩
  rw [frs_new hp1, off_ne (Ne.symm ne), upd_ne (Ne.symm ne), upd_same]
/-- what is new behind H' is new behind H1 -/
theorem frs_offD {H1 H' H'' : Hp} {D : Addr} (e : Same H1 H') (hD : ∃ o, H' D = some o) : Same (frs H' H'') (frs H1 (off D H'')) := fun b o h => by
  have hb : H' b = none := by
    cases q : H' b with
    | none => rfl
    | some _ => unfold frs at h; rw [q] at h; cases h
  rw [frs_new hb] at h
  have h1 : H1 b = none := by
    cases q : H1 b with
    | none => rfl
    | some o => rw [e _ _ q] at hb; cases hb
  have ne : b ≠ D := fun z => by
    obtain ⟨o, ho⟩ := hD
    rw [z, ho] at hb
    cases hb
  rw [frs_new h1, off_ne ne]
  exact h
section
variable {P : Program} {w : World} {K : PySem.W.Frag} {mg : Str → Option Value} {base : Heap}
theorem sc_registrations : FnScope ["self", "found", "serial", "name", "entry", "source"] ["self"] (defScope s_System_registrations) := ⟨rfl, rfl, rfl, by decide +kernel, rfl, by decide +kernel, by decide +kernel⟩
theorem ok_registrations (T : Tx K mg) : FnOk P w K mg base CX0 9 (mA "System" "registrations" K) (fdAt K (mA "System" "registrations" K)) ["self"] (sp_registrations K) := by
  refine FunD.ok T.f_System_registrations sc_registrations (fun vs H Q E h => ?_) (fun cdv A outer s H vs Q E hr h => ?_)
  · obtain ⟨x, rfl, _⟩ := h
    rfl
  · obtain ⟨S, rfl, hS, hw, hm, hlen, q⟩ := h
    have hu := hu_of hr
    refine ⟨_, PSs.nox (pss_cons (ps_set (i := 1) sc_registrations.nd rfl (Or.inl rfl) (pe_lst pa_nil))
      (pss_cons (ps_for PassesOwn.never rfl (pi_list (pe_meth0 (pv 0) T.c_System T.m_System_set_serials (ok_set_serials T) hr (b_set_serials T) .nil pass0)) (pg_name (i := 2) sc_registrations.nd rfl (Or.inl rfl))
        (pss_cons (ps_set (i := 3) sc_registrations.nd rfl (Or.inl rfl) (pe_meth (pv 0) T.c_System T.m_System_name_of (ok_name_of T) (hr.mono (by decide)) (b_name_of T) .nil pass0 (pa_cons (pv 2) pa_nil)))
        (pss_one (ps_for PassesOwn.never rfl (pi_list (pe_fld (pe_dget hu (pe_fld (pv 0) rfl) (pv 2) (fun _ _ => rfl)) rfl)) (pg_name (i := 4) sc_registrations.nd rfl (Or.inl rfl))
          (pss_cons (ps_set (i := 5) sc_registrations.nd rfl (Or.inl rfl) (pe_meth (pv 0) T.c_System T.m_System_name_of (ok_name_of T) (hr.mono (by decide)) (b_name_of T) .nil pass0 (pa_cons (pe_fld (pv 4) rfl) pa_nil)))
          (pss_one (ps_expr (pe_bm PySem.F.plainAttrs_list PySem.F.slot_list_append PySem.F.type_list_append mt_append (pv 1) (pa_cons (pe_tup (pa_cons (pv 3) (pa_cons (pe_fld (pv 4) rfl) (pa_cons (pe_fld (pv 4) rfl) (pa_cons (pv 5) (pa_cons (pe_fld (pv 4) rfl) (pa_cons (pe_fld (pv 4) rfl) pa_nil))))))) pa_nil)))))))))
      (pss_one (ps_ret (pv 1))))), ?_⟩
    have sL : (1000002 : Nat) < sizeLine := by decide
    refine ⟨by decide, fun D nD => ?_⟩
    have e0 : Same H (upd H D (.lst [])) := new_same nD
    have S0 := hS.ext e0
    refine ⟨_, rfl, S.p, S.dx, _, rfl, S0.ob, rfl, S, rfl, S0, hw.w0, hw.heldS, hm, fun H1 pl e1 npl h1 => ?_⟩
    have npD : pl ≠ D := fun z => by rw [z, upd_same] at npl; cases npl
    have nds : (S.ths.map (·.1)).Nodup := by rw [← Sy.sers]; exact hw.nds
    have gd1 : Gd K H D H1 [] := (Gd.start nD).keep fun b o _ h => e1 _ _ h
    refine ⟨pl, rfl, ⟨_, SqL.of h1⟩, ?_⟩
    refine for_list (xs := (setsIn S.v).map V.int) (fun k σ H' => (∃ v2 v3 v4 v5, σ = [some (.ref S.p), some (.ref D), v2, v3, v4, v5]) ∧ Same H H' ∧ H' pl = some (.lst ((setsIn S.v).map V.int)) ∧ Gd K H D H' (((setsIn S.v).take k).flatMap fun s => (regsOf S.v s).map (regD S.v s))) ⟨⟨_, _, _, _, rfl⟩, e0.trans e1, h1, gd1⟩ (fun k σ H' hk g => SqL.of g.2.2.1) ?_ ?_
    · rintro k x σ H' hx ⟨⟨v2, v3, v4, v5, rfl⟩, sm, hpl, gd⟩
      rw [List.getElem?_map] at hx
      cases en : (setsIn S.v)[k]? with
      | none => rw [en] at hx; cases hx
      | some n =>
        rw [en] at hx
        cases hx
        obtain ⟨t, ht, hset⟩ := setSers_mem ((setsIn_perm S.v).mem_iff.mp (List.mem_of_getElem? en))
        have hl : lk S.ths n = some t := lk_of_mem nds ht
        have hK := hS.ext sm
        have hlv : lk S.v.ths n = some t.tg.v := by rw [Sy.ths_v, hl]; rfl
        have tk : (setsIn S.v).take (k + 1) = (setsIn S.v).take k ++ [n] := take_next en
        have hheld : holds S.v.tabs n ≠ [] := hw.held' (t := (n, t.tg.v)) (lk_mem hlv)
        refine ⟨_, rfl, S.p, S.dx, _, rfl, hK.ob, rfl, _, rfl, S, n, rfl, hK, hw.w0, hheld, fun H2 nm nd => ?_⟩
        have sm2 := sm.trans nd.same
        obtain ⟨xs0, hD0, _⟩ := gd.has
        have gd2 : Gd K H D H2 (((setsIn S.v).take k).flatMap fun s => (regsOf S.v s).map (regD S.v s)) := gd.keep fun b o _ h => nd.same _ _ h
        have nmD : Dp K (frs H (off D H2)) nm (nameD S.v n) := Dp.same (frs_offD sm ⟨_, hD0⟩) _ _ nd.dat
        have hK2 := hS.ext sm2
        have g := DGet.k (k := Sum.inl n) hK2.gb
        rw [val_kv, hl] at g
        have tg := hK2.gt _ (lk_mem hl)
        cases et : t.tg with
        | src dx u f => rw [et] at hset; cases hset
        | set dx L R es row =>
          have et' : (n, t).2.tg = .set dx L R es row := et
          rw [et'] at tg
          obtain ⟨t1, t2, t3, t4⟩ := tg
          have neL : L ≠ D := fun z => by
            have tgH := hS.gt _ (lk_mem hl)
            rw [et'] at tgH
            rw [← z, tgH.2.1] at nD
            cases nD
          have hro : regsOf S.v n = es.map En.v := by
            unfold regsOf
            rw [hlv, et]
            rfl
          have so : SetOk S.v (es.map En.v) row := hw.ok (n, t.tg.v) (List.mem_map.mpr ⟨(n, t), ht, rfl⟩) _ _ (by show t.tg.v = _; rw [et]; rfl)
          have hlen2 : (((setsIn S.v).take k).flatMap fun s => (regsOf S.v s).map (regD S.v s)).length + es.length ≤ 1000000 := by
            have z := hlen
            unfold regsD at z
            rw [← List.take_append_drop (k + 1) (setsIn S.v), tk, List.flatMap_append, List.flatMap_append, List.length_append, List.length_append, List.flatMap_cons, List.flatMap_nil, List.append_nil, hro, List.length_map, List.length_map] at z
            omega
          refine ⟨_, rfl, _, _, _, _, _, rfl, hK2.ob, T.c_System, T.n_System_things, rfl, _, rfl, _, _, rfl, g, _, _, _, _, _, rfl, t1, T.c_WaitSet, T.n_WaitSet_entries, rfl, L, rfl, ⟨_, SqL.of t2⟩, ?_⟩
          refine for_list (xs := es.map fun e => V.ref e.ad) (fun j σ H3 => (∃ v4 v5, σ = [some (.ref S.p), some (.ref D), some (.int n), some nm, v4, v5]) ∧ (∀ b o, b ≠ D → H2 b = some o → H3 b = some o) ∧ Same H H3 ∧ Gd K H D H3 ((((setsIn S.v).take k).flatMap fun s => (regsOf S.v s).map (regD S.v s)) ++ ((es.take j).map En.v).map (regD S.v n))) ⟨⟨_, _, rfl⟩, fun b o _ h => h, sm2, by rw [List.take_zero, List.map_nil, List.map_nil, List.append_nil]; exact gd2⟩ (fun j σ H3 hj g => SqL.of (g.2.1 _ _ neL t2)) ?_ ?_
          · rintro j x σ H3 hx ⟨⟨v4, v5, rfl⟩, kp, sm3, gd3⟩
            rw [List.getElem?_map] at hx
            cases ee : es[j]? with
            | none => rw [ee] at hx; cases hx
            | some e =>
              rw [ee] at hx
              cases hx
              have he := List.mem_of_getElem? ee
              have jl : j < es.length := (List.getElem?_eq_some_iff.mp ee).1
              have hK3 := hS.ext sm3
              have tg3 := hK3.gt _ (lk_mem hl)
              rw [et'] at tg3
              have hE := tg3.2.2.2 e he
              obtain ⟨u, f, hsrc⟩ := so.2.2.2.2.1 e.v (List.mem_map.mpr ⟨e, he, rfl⟩)
              have hh2 : holds S.v.tabs e.ser ≠ [] := hw.held' (t := (e.ser, .src u f)) (lk_mem hsrc)
              refine ⟨_, rfl, S.p, S.dx, _, rfl, hK3.ob, rfl, _, rfl, _, _, _, _, _, rfl, hE, T.c_Entry, T.n_Entry_serial, rfl, S, e.ser, rfl, hK3, hw.w0, hh2, fun H4 sv nd4 => ?_⟩
              have sm4 := sm3.trans nd4.same
              obtain ⟨xs3, hD3, _⟩ := gd3.has
              have gd4 := gd3.keep fun b o _ h => nd4.same _ _ h
              have svD : Dp K (frs H (off D H4)) sv (nameD S.v e.ser) := Dp.same (frs_offD sm3 ⟨_, hD3⟩) _ _ nd4.dat
              have nm4 : Dp K (frs H (off D H4)) nm (nameD S.v n) := Dp.same (frs_keep fun b o hb hn h => nd4.same _ _ (kp b o hn h)) _ _ nmD
              have hE4 := nd4.same _ _ hE
              obtain ⟨xs4, hD4, _⟩ := gd4.has
              refine ⟨_, rfl, .inl ⟨rfl, _, SqL.of hD4⟩, _, rfl, _, rfl, _, _, _, _, _, rfl, hE4, T.c_Entry, T.n_Entry_label, rfl, _, rfl, _, _, _, _, _, rfl, hE4, T.c_Entry, T.n_Entry_number, rfl, _, rfl, _, rfl, _, _, _, _, _, rfl, hE4, T.c_Entry, T.n_Entry_word, rfl, _, rfl, _, _, _, _, _, rfl, hE4, T.c_Entry, T.n_Entry_armed, rfl, (by show 6 ≤ sizeLine; decide), fun tp ntp => ?_⟩
              have ntp : H4 tp = none := ntp
              have ntH : H tp = none := by
                cases q : H tp with
                | none => rfl
                | some o => rw [sm4 _ _ q] at ntp; cases ntp
              obtain ⟨xs5, hD5, lx5, gd5⟩ := gd4.addT (vs := [nm, .int e.lab, .int e.num, sv, .str e.wrd, .bl e.arm]) (es := [nameD S.v n, .int e.lab, .int e.num, nameD S.v e.ser, .str e.wrd, .bool e.arm]) ntp ntH (.cons nm4 (.cons (.int _) (.cons (.int _) (.cons svD (.cons (.str _) (.cons (.bl _) .nil))))))
              have neD : D ≠ tp := fun z => by rw [← z, hD4] at ntp; cases ntp
              refine ⟨D, xs5, _, rfl, rfl, hD5, ?_, ⟨_, _, rfl⟩, ?_, ?_, ?_⟩
              · rw [lx5, List.length_append, List.length_map, List.length_map, List.length_take]
                omega
              · intro b o hb h
                rw [upd_ne hb]
                have := nd4.same _ _ (kp b o hb h)
                rw [upd_ne (ne_of_none this ntp)]
                exact this
              · intro b o h
                rw [upd_ne (ne_of_none h nD), upd_ne (ne_of_none (sm4 _ _ h) ntp)]
                exact sm4 _ _ h
              · rw [take_next ee, List.map_append, List.map_append, ← List.append_assoc]
                exact gd5
          · rintro σ H3 ⟨⟨v4, v5, rfl⟩, kp, sm3, gd3⟩
            rw [List.length_map, List.take_length] at gd3
            refine ⟨⟨_, _, _, _, rfl⟩, sm3, kp _ _ npD (nd.same _ _ hpl), ?_⟩
            rw [tk, List.flatMap_append, List.flatMap_cons, List.flatMap_nil, List.append_nil, hro]
            exact gd3
    · rintro σ H' ⟨⟨v2, v3, v4, v5, rfl⟩, sm, hpl, gd⟩
      rw [List.length_map, List.take_length] at gd
      exact ⟨_, rfl, q _ _ sm gd⟩
theorem b_registrations (T : Tx K mg) : Binds K (fdAt K (mA "System" "registrations" K)) ["self"] [] := FunD.bindsN T.f_System_registrations fun _ _ _ _ _ _ us hl => match us, hl with | [_], _ => rfl
end

/-! ### units -/
section
variable {P : Program} {w : World} {K : PySem.W.Frag} {mg : Str → Option Value} {base : Heap}
end

/-! ### same -/
section
variable {P : Program} {w : World} {K : PySem.W.Frag} {mg : Str → Option Value} {base : Heap}
end

/-! ### which registrations are reached -/
def numsL (rows : List (Int × Int)) (ser : Int) : List Int := (srtI (rows.map (·.1))).filter fun n => decide (lk rows n = some ser)
theorem numsL_mem {rows : List (Int × Int)} {ser n : Int} : n ∈ numsL rows ser ↔ lk rows n = some ser := by
  unfold numsL
  rw [List.mem_filter, decide_eq_true_eq]
  constructor
  · exact fun h => h.2
  · exact fun h => ⟨srtI_mem.mpr (List.mem_map.mpr ⟨_, lk_mem h, rfl⟩), h⟩
def sp_numbers_of (K : PySem.W.Frag) : Sp := fun vs H Q _ => ∃ (s : Sy) (p ser : Int) (t : Tb), vs = [.ref s.p, .int p, .int ser] ∧ SyAt K H s ∧ WF0 s.v ∧ lk s.tabs p = some t ∧ ∀ H' q, NewD K H H' (.ref q) (.list ((numsL t.rows ser).map PyData.int)) → Q (.ref q) H'
section
variable {P : Program} {w : World} {K : PySem.W.Frag} {mg : Str → Option Value} {base : Heap}
theorem sc_numbers_of : FnScope ["system", "process", "serial", "table", "number"] ["system", "process", "serial"] (defScope s_numbers_of) := ⟨rfl, rfl, rfl, by decide +kernel, rfl, by decide +kernel, by decide +kernel⟩
theorem ok_numbers_of (T : Tx K mg) : FnOk P w K mg base CX0 1 (gA "numbers_of" K) (fdAt K (gA "numbers_of" K)) ["system", "process", "serial"] (sp_numbers_of K) := by
  refine FunD.ok T.f_numbers_of sc_numbers_of (fun vs H Q E h => ?_) (fun cdv A outer s H vs Q E hr h => ?_)
  · obtain ⟨S, p, ser, t, rfl, _⟩ := h
    rfl
  · obtain ⟨S, p, ser, t, rfl, hS, hw, hl, q⟩ := h
    have hu := hu_of hr
    refine ⟨_, PSs.nox (pss_cons (ps_set (i := 3) sc_numbers_of.nd rfl (Or.inr rfl) (pe_dget hu (pe_fld (pv 0) rfl) (pv 1) (fun _ _ => rfl)))
      (pss_one (ps_ret (pe_lc (own := [("number", 4)]) (g := gName 4) rfl sc_numbers_of.nd (pi_list (pe_callB (call_sortedDI rfl) (by rfl) T.free_sorted (by decide +kernel) (pa_cons (pv 3) pa_nil))) (blkOk_by (N := ["system", "process", "serial", "table", "number"]) (sc := defScope s_numbers_of) (by decide +kernel))
            (fun _ _ _ _ _ => pg_name (i := 4) sc_numbers_of.nd rfl (Or.inl rfl)) (fun _ _ _ _ _ => pts_one (pt_cmpR op_eq (pe_dget hu (pv 3) (pv 4) (fun _ _ => rfl)) (pv 2) (nomark _))) (fun _ _ _ _ _ => pv 4))))), ?_⟩
    have g1 := DGet.k (k := Sum.inl p) hS.tb
    rw [val_kv, hl] at g1
    have ht := hS.tt _ (lk_mem hl)
    have mem : (p, t.rows) ∈ S.v.tabs := List.mem_map.mpr ⟨_, lk_mem hl, rfl⟩
    have r8 : t.rows.length ≤ 8 := hw.rows8 mem
    refine ⟨_, rfl, _, _, _, _, _, rfl, hS.ob, T.c_System, T.n_System_tables, rfl, _, rfl, _, _, rfl, g1, ?_⟩
    refine ⟨_, rfl, _, _, t.rows.map (·.1), rfl, .inl ht, kv_keys _ _, by rw [List.length_map]; omega, fun ys ps h1 h2 np => ?_⟩
    rw [srtI_eq h1 h2]
    refine ⟨ps, rfl, ⟨_, SqL.of upd_same⟩, fun D nD => ?_⟩
    have eH : Same H (upd H ps (.lst ((srtI (t.rows.map (·.1))).map V.int))) := new_same np
    refine lc_list (xs := (srtI (t.rows.map (·.1))).map V.int) (fun j H4 => Gro K (upd H ps (.lst ((srtI (t.rows.map (·.1))).map V.int))) D H4 ((((srtI (t.rows.map (·.1))).take j).filter fun n => decide (lk t.rows n = some ser)).map PyData.int)) (Gro.start nD) (fun j H4 hj g => SqL.of (g.same _ _ upd_same)) (fun j x H4 hx gg => ?_) (fun H4 gg => ?_)
    · rw [List.getElem?_map] at hx
      cases en : (srtI (t.rows.map (·.1)))[j]? with
      | none => rw [en] at hx; cases hx
      | some n =>
        rw [en] at hx
        cases hx
        obtain ⟨z, hz⟩ := lk_some_of (srtI_mem.mp (List.mem_of_getElem? en))
        have S4 := hS.ext (eH.trans gg.same)
        have g2 := DGet.k (k := Sum.inl n) (S4.tt _ (lk_mem hl))
        rw [val_kv, hz] at g2
        refine ⟨rfl, _, rfl, _, rfl, _, _, rfl, g2, _, rfl, rfl, _, rfl, ?_⟩
        rw [take_next en, List.filter_append, List.map_append]
        have fl : ∀ (m : Nat), ((((srtI (t.rows.map (·.1))).take m).filter fun n => decide (lk t.rows n = some ser)).map PyData.int).length ≤ 8 := fun m => by
          rw [List.length_map]
          refine Nat.le_trans (List.length_filter_le _ _) ?_
          rw [List.length_take, srtI_len, List.length_map]
          exact Nat.le_trans (Nat.min_le_right _ _) r8
        by_cases c : z = ser
        · subst c
          rw [decide_eq_true (show V.int z = V.int z from rfl)]
          refine iteT ?_
          obtain ⟨acc, a1, a2, a3⟩ := gg.add (Same.refl _) (y := .int n) (d := .int n) (.int n)
          refine ⟨_, rfl, acc, a1, by rw [a2]; exact Nat.lt_of_le_of_lt (fl j) (by decide), ?_⟩
          rw [List.filter_cons, if_pos (decide_eq_true hz)]
          exact a3
        · rw [decide_eq_false (show V.int z ≠ V.int ser from fun q => c (V.int.inj q))]
          refine iteF ?_
          rw [List.filter_cons, if_neg (by rw [hz]; simpa using c), List.filter_nil, List.map_nil, List.append_nil]
          exact gg
    · rw [show ((srtI (t.rows.map (·.1))).map V.int).length = (srtI (t.rows.map (·.1))).length from List.length_map .., List.take_length] at gg
      have gg2 := Gro.fin gg
      exact q _ _ ⟨eH.trans gg.same, Dp.same (frs_old eH) _ _ gg2⟩
theorem b_numbers_of (T : Tx K mg) : Binds K (fdAt K (gA "numbers_of" K)) ["system", "process", "serial"] [] := FunD.bindsN T.f_numbers_of fun _ _ _ _ _ _ us hl => match us, hl with | [_, _, _], _ => rfl
end

/-! ### a registration found by its set's name and its label -/
def sp_serial_named (K : PySem.W.Frag) : Sp := fun vs H Q _ => ∃ (s : Sy) (na : Addr) (p n ser : Int) (t : Tb), vs = [.ref s.p, .ref na] ∧ SyAt K H s ∧ WF0 s.v ∧ SqT K H na [.int p, .int n] ∧ lk s.tabs p = some t ∧ lk t.rows n = some ser ∧ nameAt s.v ser = (p, n) ∧ ∀ H', Same H H' → Q (.int ser) H'
def sp_found_entry (K : PySem.W.Frag) : Sp := fun vs H Q _ => ∃ (s : Sy) (na : Addr) (p n ser lab : Int) (t : Tb) (th : Th) (dx L R : Addr) (es : List En) (row : List Int) (e : En), vs = [.ref s.p, .ref na, .int lab] ∧ SyAt K H s ∧ WF0 s.v ∧ SqT K H na [.int p, .int n] ∧ lk s.tabs p = some t ∧ lk t.rows n = some ser ∧ nameAt s.v ser = (p, n) ∧ lk s.ths ser = some th ∧ th.tg = .set dx L R es row ∧ fLab es lab = some e ∧
  ∀ H' q, Same H H' → H q = none → H' q = some (.tup [.int ser, .ref e.ad]) → Q (.ref q) H'
theorem held_in {v : Sv} (hw : WF0 v) {p n ser : Int} {rows : List (Int × Int)} (hl : lk v.tabs p = some rows) (hn : lk rows n = some ser) : holds v.tabs ser ≠ [] := by
  intro z
  rw [holds_eq] at z
  have z1 := List.flatMap_eq_nil_iff.mp z p (srtI_mem.mpr (List.mem_map.mpr ⟨_, lk_mem hl, rfl⟩))
  unfold hAt at z1
  rw [hl] at z1
  unfold holdsIn at z1
  have z2 := List.map_eq_nil_iff.mp z1
  have : n ∈ (srtI (rows.map (·.1))).filter fun n => decide (lk rows n = some ser) := List.mem_filter.mpr ⟨srtI_mem.mpr (List.mem_map.mpr ⟨_, lk_mem hn, rfl⟩), decide_eq_true hn⟩
  rw [z2] at this
  cases this
theorem shaped2 (a b : Int) : SeqAt.shaped (.tuple [.int a, .int b]) = true := by
  unfold SeqAt.shaped
  simp [PyData.canLay0, PyData.canLayAll0, PyData.depth, PyData.depthAll]
section
variable {P : Program} {w : World} {K : PySem.W.Frag} {mg : Str → Option Value} {base : Heap}
theorem sc_serial_named : FnScope ["self", "name", "serial"] ["self", "name"] (defScope s_System_serial_named) := ⟨rfl, rfl, rfl, by decide +kernel, rfl, by decide +kernel, by decide +kernel⟩
theorem ok_serial_named (T : Tx K mg) : FnOk P w K mg base CX0 6 (mA "System" "serial_named" K) (fdAt K (mA "System" "serial_named" K)) ["self", "name"] (sp_serial_named K) := by
  refine FunD.ok T.f_System_serial_named sc_serial_named (fun vs H Q E h => ?_) (fun cdv A outer s H vs Q E hr h => ?_)
  · obtain ⟨S, na, p, n, ser, t, rfl, _⟩ := h
    rfl
  · obtain ⟨S, na, p, n, ser, t, rfl, hS, hw, hna, hl, hn, hnm, q⟩ := h
    have hu := hu_of hr
    have hu64 := hr.units
    refine ⟨_, PSs.nox (pss_cons (ps_if (PW.pt (pw_or (pt_not (pt_val (pe_callB call_isi (by rfl) T.free_isinstance (by decide +kernel) (pa_cons (pv 1) (pa_cons (pe_bltn (v := .ty "tuple") (by rfl) T.free_tuple (by decide +kernel) rfl) pa_nil)))))
          (pw_or (pt_cmpR (op_neD hu64) (pe_callB call_len (by rfl) T.free_len PySem.boot_len (pa_cons (pv 1) pa_nil)) pe_int (nomark _))
          (pw_or (pt_not (pt_val (pe_call (ok_is_integer T) (hr.mono (by decide)) (by rfl) T.g_is_integer T.f_is_integer.kp (b_is_integer T) .nil pass0 (pa_cons (pe_ix ix_tup (pv 1) pe_int (fun _ _ => rfl)) pa_nil))))
          (pw_or1 (pt_not (pt_val (pe_call (ok_is_integer T) (hr.mono (by decide)) (by rfl) T.g_is_integer T.f_is_integer.kp (b_is_integer T) .nil pass0 (pa_cons (pe_ix ix_tup (pv 1) pe_int (fun _ _ => rfl)) pa_nil)))))))))
        (pss_one ps_no) pss_nil)
      (pss_cons (ps_set (i := 2) sc_serial_named.nd rfl (Or.inl rfl) (pe_dget1 hu (pe_dget2 hu (pe_fld (pv 0) rfl) (pe_ix ix_tup (pv 1) pe_int (fun _ _ => rfl)) pe_dnewK ⟨rfl, rfl, rfl, rfl⟩) (pe_ix ix_tup (pv 1) pe_int (fun _ _ => rfl)) ⟨rfl, rfl, rfl, rfl⟩))
      (pss_one (ps_ret (pe_ifExp (PW.pt (pw_and (pt_cmpR op_notN (pv 2) pe_non (nomark _)) (pw_and1 (pt_cmpR (op_eqD hu64) (pe_meth (pv 0) T.c_System T.m_System_name_of (ok_name_of T) hr (b_name_of T) .nil pass0 (pa_cons (pv 2) pa_nil)) (pv 1) (nomark _))))) (pv 2) pe_non))))), ?_⟩
    have ty : TyX K H (.ref na) (.type "tuple") := by
      rcases hna with (h | ⟨o, h⟩) | ⟨o, _, _, h1, h2, _⟩
      · exact .base (.tup h)
      · exact .fTuple h
      · exact .kTuple h1 h2
    have gD : ∀ {k : Int} {x : V}, atI [V.int p, V.int n] k = some x → atI [V.int p, V.int n] k = some x := fun h => h
    have i0 : atI [V.int p, V.int n] 0 = some (.int p) := rfl
    have i1 : atI [V.int p, V.int n] 1 = some (.int n) := rfl
    refine ⟨_, rfl, _, _, _, .type "tuple", true, rfl, .ty "tuple", ty, kit_ty (by decide +kernel), _, rfl, iteF ?_⟩
    refine ⟨_, rfl, _, _, rfl, .inr ⟨_, hna, rfl⟩, .int 2, .int 2, .int 2, .int 2, rfl, rfl, _, rfl, iteF ?_⟩
    refine ⟨_, rfl, _, _, _, _, rfl, rfl, hna, i0, .int p, rfl, True.intro, _, rfl, iteF ?_⟩
    refine ⟨_, rfl, _, _, _, _, rfl, rfl, hna, i1, .int n, rfl, True.intro, _, rfl, iteF ?_⟩
    have g1 := DGet.k (k := Sum.inl p) hS.tb
    rw [val_kv, hl] at g1
    have ht := hS.tt _ (lk_mem hl)
    have g2 := DGet.k (k := Sum.inl n) ht
    rw [val_kv, hn] at g2
    refine ⟨_, rfl, _, _, _, _, _, rfl, hS.ob, T.c_System, T.n_System_tables, rfl, _, rfl, .inl ⟨_, .inl hS.tb⟩, _, rfl, _, _, _, _, rfl, rfl, hna, i0, fun D nD => ?_⟩
    have eD : Same H (upd H D (.dK [])) := new_same nD
    have S1 := hS.ext eD
    have g1 := DGet.k (k := Sum.inl p) S1.tb
    rw [val_kv, hl] at g1
    have ht := S1.tt _ (lk_mem hl)
    have g2 := DGet.k (k := Sum.inl n) ht
    rw [val_kv, hn] at g2
    have hna1 := Same.sqt eD hna
    refine ⟨_, g1, _, rfl, .inl ⟨_, .inl ht⟩, _, rfl, _, _, _, _, rfl, rfl, hna1, i1, _, g2, ?_⟩
    refine ⟨_, rfl, rfl, _, rfl, iteT ?_⟩
    have hiv : lk S.v.tabs p = some t.rows := by rw [Sy.tabs_v, hl]; rfl
    refine ⟨_, rfl, S.p, S.dx, _, rfl, S1.ob, rfl, _, rfl, S, ser, rfl, S1, hw, held_in hw hiv hn, fun H' v nd => ?_⟩
    have dp := nd.dp
    unfold nameD at dp
    rw [hnm] at dp
    have hna2 := Same.sqt nd.same hna1
    refine ⟨_, rfl, _, _, dp, .tup hna2 (.cons (.int p) (.cons (.int n) .nil)), shaped2 _ _, shaped2 _ _, _, rfl, ?_⟩
    have ee : PyData.eqv (.tuple [.int p, .int n]) (.tuple [.int p, .int n]) = true := by
      show (p == p && (n == n && true)) = true
      simp
    rw [ee]
    exact iteT ⟨_, rfl, q _ (eD.trans nd.same)⟩
theorem b_serial_named (T : Tx K mg) : Binds K (fdAt K (mA "System" "serial_named" K)) ["self", "name"] [] := FunD.bindsN T.f_System_serial_named fun _ _ _ _ _ _ us hl => match us, hl with | [_, _], _ => rfl
end

section
variable {P : Program} {w : World} {K : PySem.W.Frag} {mg : Str → Option Value} {base : Heap}
theorem sc_found_entry : FnScope ["self", "set_name", "label", "serial", "entry"] ["self", "set_name", "label"] (defScope s_System_found_entry) := ⟨rfl, rfl, rfl, by decide +kernel, rfl, by decide +kernel, by decide +kernel⟩
theorem ok_found_entry (T : Tx K mg) : FnOk P w K mg base CX0 7 (mA "System" "found_entry" K) (fdAt K (mA "System" "found_entry" K)) ["self", "set_name", "label"] (sp_found_entry K) := by
  refine FunD.ok T.f_System_found_entry sc_found_entry (fun vs H Q E h => ?_) (fun cdv A outer s H vs Q E hr h => ?_)
  · obtain ⟨S, na, p, n, ser, lab, t, th, dx, L, R, es, row, e, rfl, _⟩ := h
    rfl
  · obtain ⟨S, na, p, n, ser, lab, t, th, dx, L, R, es, row, e, rfl, hS, hw, hna, hl, hn, hnm, hth, etg, he, q⟩ := h
    have hu := hu_of hr
    refine ⟨_, PSs.nox (pss_cons (ps_set (i := 3) sc_found_entry.nd rfl (Or.inl rfl) (pe_meth (pv 0) T.c_System T.m_System_serial_named (ok_serial_named T) hr (b_serial_named T) .nil pass0 (pa_cons (pv 1) pa_nil)))
      (pss_cons (ps_if (PW.pt (pw_or (pt_cmpR op_isN (pv 3) pe_non (nomark _))
          (pw_or (pt_not (pt_val (pe_callB call_isi (by rfl) T.free_isinstance (by decide +kernel) (pa_cons (pe_dget hu (pe_fld (pv 0) rfl) (pv 3) (fun _ _ => rfl)) (pa_cons (pe_glob (v := .ref (ga K "WaitSet")) (by rfl) T.g_WaitSet rfl) pa_nil)))))
          (pw_or1 (pt_not (pt_val (pe_call (ok_is_integer T) (hr.mono (by decide)) (by rfl) T.g_is_integer T.f_is_integer.kp (b_is_integer T) .nil pass0 (pa_cons (pv 2) pa_nil))))))))
        (pss_one ps_no) pss_nil)
      (pss_cons (ps_set (i := 4) sc_found_entry.nd rfl (Or.inl rfl) (pe_meth (pe_dget hu (pe_fld (pv 0) rfl) (pv 3) (fun _ _ => rfl)) T.c_WaitSet T.m_WaitSet_labelled (ok_labelled T) (hr.mono (by decide)) (b_labelled T) .nil pass0 (pa_cons (pv 2) pa_nil)))
      (pss_cons (ps_if (pt_cmpR op_isN (pv 4) pe_non (nomark _)) (pss_one ps_no) pss_nil)
      (pss_one (ps_ret (pe_tup (pa_cons (pv 3) (pa_cons (pv 4) pa_nil))))))))), ?_⟩
    refine ⟨_, rfl, S.p, S.dx, _, rfl, hS.ob, rfl, _, rfl, S, na, p, n, ser, t, rfl, hS, hw, hna, hl, hn, hnm, fun H1 e1 => ?_⟩
    have S1 := hS.ext e1
    have g := DGet.k (k := Sum.inl ser) S1.gb
    rw [val_kv, hth] at g
    refine ⟨_, rfl, rfl, _, rfl, iteF ?_⟩
    refine ⟨_, rfl, _, _, _, _, _, rfl, S1.ob, T.c_System, T.n_System_things, rfl, _, rfl, _, _, rfl, g, ?_⟩
    rcases ty_src T S1 hth with ⟨z, _⟩ | ⟨_, ty⟩
    · rw [etg] at z
      cases z
    have tg := S1.gt _ (lk_mem hth)
    rw [show ((ser, th) : Int × Th).2.tg = _ from etg] at tg
    refine ⟨_, _, _, .ref (ga K "WaitSet"), true, rfl, .own _, ty, T.q_WaitSet_WaitSet, _, rfl, iteF ?_⟩
    refine ⟨_, rfl, .int lab, rfl, True.intro, _, rfl, iteF ?_⟩
    refine ⟨_, rfl, _, _, _, _, _, rfl, S1.ob, T.c_System, T.n_System_things, rfl, _, rfl, _, _, rfl, g, ?_⟩
    obtain ⟨tg1, _⟩ := id tg
    refine ⟨_, dx, _, rfl, tg1, rfl, _, rfl, _, dx, L, R, es, row, lab, rfl, tg, ?_⟩
    rw [he]
    refine ⟨_, rfl, rfl, _, rfl, iteF ?_⟩
    refine ⟨_, rfl, _, rfl, (by show 2 ≤ sizeLine; decide), fun q' nq => ?_⟩
    exact q _ _ (e1.trans (new_same nq)) (e1.free nq) upd_same
theorem b_found_entry (T : Tx K mg) : Binds K (fdAt K (mA "System" "found_entry" K)) ["self", "set_name", "label"] [] := FunD.bindsN T.f_System_found_entry fun _ _ _ _ _ _ us hl => match us, hl with | [_, _, _], _ => rfl
end

/-! ### reached, sealed -/
theorem layI : ∀ l : List Int, PyData.canLayAll0 (l.map PyData.int) = true
  | [] => rfl
  | _ :: l => layI l
theorem depI : ∀ l : List Int, PyData.depthAll (l.map PyData.int) ≤ 1
  | [] => by simp [PyData.depthAll]
  | _ :: l => by
    have := depI l
    rw [List.map_cons]
    simp only [PyData.depthAll, PyData.depth]
    omega
theorem shapedI (l : List Int) : SeqAt.shaped (.list (l.map PyData.int)) = true := by
  refine Bool.and_eq_true_iff.mpr ⟨by rw [PyData.canLay0]; exact layI l, decide_eq_true ?_⟩
  rw [PyData.depth]
  have := depI l
  omega
theorem anyI (l : List Int) (i : Int) : ((l.map PyData.int).any fun z => PyData.eqv z (.int i)) = decide (i ∈ l) := by
  induction l with
  | nil => rfl
  | cons a l ih =>
    rw [List.map_cons, List.any_cons, ih]
    show ((a == i) || decide (i ∈ l)) = decide (i ∈ a :: l)
    by_cases c : a = i
    · subst c
      simp
    · by_cases d : i ∈ l
      · simp [d]
      · simp [d, Ne.symm c, c]
theorem nilI (l : List Int) : (!PyData.eqv (.list (l.map PyData.int)) (.list [])) = !l.isEmpty := by
  cases l <;> rfl
/-- a registration as its set's name and its label tell it -/
def FE (K : PySem.W.Frag) (H : Hp) (s : Sy) (na : Addr) (lab ser : Int) (e : En) : Prop := ∃ (p n : Int) (t : Tb) (th : Th) (dx L R : Addr) (es : List En) (row : List Int), SqT K H na [.int p, .int n] ∧ lk s.tabs p = some t ∧ lk t.rows n = some ser ∧ nameAt s.v ser = (p, n) ∧ lk s.ths ser = some th ∧ th.tg = .set dx L R es row ∧ fLab es lab = some e
theorem FE.ent {K : PySem.W.Frag} {H : Hp} {s : Sy} {na : Addr} {lab ser : Int} {e : En} (h : FE K H s na lab ser e) (S : SyAt K H s) : H e.ad = some (.ins (ga K "Entry") e.dx (entF e)) := by
  obtain ⟨p, n, t, th, dx, L, R, es, row, _, _, _, _, hth, etg, he⟩ := h
  have tg := S.gt _ (lk_mem hth)
  rw [show ((ser, th) : Int × Th).2.tg = _ from etg] at tg
  exact tg.2.2.2 e (List.mem_of_find?_eq_some he)
def rchAt (v : Sv) (ser num src p : Int) : Bool := match lk v.tabs p with
  | some rows => decide (num ∈ numsL rows src) && !(numsL rows ser).isEmpty
  | none => false
def bothAt (v : Sv) (a b p : Int) : Bool := match lk v.tabs p with
  | some rows => !(numsL rows a).isEmpty && !(numsL rows b).isEmpty
  | none => false
def reachV (v : Sv) (ser num src : Int) : Bool := (srtI (v.tabs.map (·.1))).any (rchAt v ser num src)
def sealV (v : Sv) (ser src : Int) : Bool := !(srtI (v.tabs.map (·.1))).any (bothAt v ser src)
def sp_is_reached (K : PySem.W.Frag) : Sp := fun vs H Q _ => ∃ (s : Sy) (na : Addr) (lab ser : Int) (e : En), vs = [.ref s.p, .ref na, .int lab] ∧ SyAt K H s ∧ WF0 s.v ∧ FE K H s na lab ser e ∧ ∀ H', Same H H' → Q (.bl (reachV s.v ser e.num e.ser)) H'
def sp_holds_both (K : PySem.W.Frag) : Sp := fun vs H Q _ => ∃ (s : Sy) (p a b : Int), vs = [.ref s.p, .int p, .int a, .int b] ∧ SyAt K H s ∧ WF0 s.v ∧ p ∈ s.tabs.map (·.1) ∧ ∀ H', Same H H' → Q (.bl (bothAt s.v a b p)) H'
def sp_is_sealed (K : PySem.W.Frag) : Sp := fun vs H Q _ => ∃ (s : Sy) (na : Addr) (lab ser : Int) (e : En), vs = [.ref s.p, .ref na, .int lab] ∧ SyAt K H s ∧ WF0 s.v ∧ FE K H s na lab ser e ∧ ∀ H', Same H H' → Q (.bl (sealV s.v ser e.ser)) H'
section
variable {P : Program} {w : World} {K : PySem.W.Frag} {mg : Str → Option Value} {base : Heap}
theorem sc_is_reached : FnScope ["system", "set_name", "label", "serial", "entry", "process", "sources"] ["system", "set_name", "label"] (defScope s_is_reached) := ⟨rfl, rfl, rfl, by decide +kernel, rfl, by decide +kernel, by decide +kernel⟩
theorem ok_is_reached (T : Tx K mg) : FnOk P w K mg base CX0 8 (gA "is_reached" K) (fdAt K (gA "is_reached" K)) ["system", "set_name", "label"] (sp_is_reached K) := by
  refine FunD.ok T.f_is_reached sc_is_reached (fun vs H Q E h => ?_) (fun cdv A outer s H vs Q E hr h => ?_)
  · obtain ⟨S, na, lab, ser, e, rfl, _⟩ := h
    rfl
  · obtain ⟨S, na, lab, ser, e, rfl, hS, hw, hf, q⟩ := h
    have hu := hu_of hr
    have hu64 := hr.units
    have hu65 : (A.deeper (envOfC "is_reached" (defScope s_is_reached) s.heap.objs.size (gA "is_reached" K) cdv)).units + 65 < cLine := by have := hr.un; omega
    refine ⟨_, PSs.nox (pss_cons (ps_asg (pe_meth (pv 0) T.c_System T.m_System_found_entry (ok_found_entry T) hr (b_found_entry T) .nil pass0 (pa_cons (pv 1) (pa_cons (pv 2) pa_nil))) (pg_tup (n := 2) rfl (pgs_cons (pg_name (i := 3) sc_is_reached.nd rfl (Or.inl rfl)) (pgs_cons (pg_name (i := 4) sc_is_reached.nd rfl (Or.inl rfl)) pgs_nil))))
      (pss_cons (ps_for PassesOwn.never rfl (pi_list (pe_meth0 (pv 0) T.c_System T.m_System_alive (ok_alive T) (hr.mono (by decide)) (b_alive T) .nil pass0)) (pg_name (i := 5) sc_is_reached.nd rfl (Or.inl rfl))
        (pss_cons (ps_set (i := 6) sc_is_reached.nd rfl (Or.inl rfl) (pe_call (ok_numbers_of T) (hr.mono (by decide)) (by rfl) T.g_numbers_of T.f_numbers_of.kp (b_numbers_of T) .nil pass0 (pa_cons (pv 0) (pa_cons (pv 5) (pa_cons (pe_fld (pv 4) rfl) pa_nil)))))
        (pss_one (ps_if (PW.pt (pw_and (pt_cmpR (op_inD hu65) (pe_fld (pv 4) rfl) (pv 6) (by rfl)) (pw_and1 (pt_cmpR (op_neD hu64) (pe_call (ok_numbers_of T) (hr.mono (by decide)) (by rfl) T.g_numbers_of T.f_numbers_of.kp (b_numbers_of T) .nil pass0 (pa_cons (pv 0) (pa_cons (pv 5) (pa_cons (pv 3) pa_nil)))) (pe_lst pa_nil) (nomark _)))))
          (pss_one (ps_ret pe_bl)) pss_nil))))
      (pss_one (ps_ret pe_bl)))), ?_⟩
    have hE := entT T
    obtain ⟨p0, n0, t0, th0, dx0, L0, R0, es0, row0, f1, f2, f3, f4, f5, f6, f7⟩ := id hf
    refine ⟨_, rfl, S.p, S.dx, _, rfl, hS.ob, rfl, _, rfl, _, rfl, S, na, p0, n0, ser, lab, t0, th0, dx0, L0, R0, es0, row0, e, rfl, hS, hw, f1, f2, f3, f4, f5, f6, f7, fun H1 q1 e1 nq hq => ?_⟩
    refine ⟨q1, _, rfl, SqT.of hq, rfl, _, _, rfl, _, _, rfl, rfl, ?_⟩
    have S1 := hS.ext e1
    have ent1 := e1 _ _ (hf.ent hS)
    have h6 := hw.tabs6
    rw [show S.v.tabs.length = S.tabs.length from List.length_map ..] at h6
    refine ⟨_, rfl, S.p, S.dx, _, rfl, S1.ob, rfl, S, rfl, S1, by omega, fun pl npl => ?_⟩
    have e2 : Same H1 (upd H1 pl (.lst ((srtI (S.tabs.map (·.1))).map V.int))) := new_same npl
    refine ⟨pl, rfl, ⟨_, SqL.of upd_same⟩, ?_⟩
    have pids : S.tabs.map (·.1) = S.v.tabs.map (·.1) := (Sy.pids S).symm
    refine for_list (xs := (srtI (S.tabs.map (·.1))).map V.int) (fun j σ H3 => (∃ v5 v6, σ = [some (.ref S.p), some (.ref na), some (.int lab), some (.int ser), some (.ref e.ad), v5, v6]) ∧ Same (upd H1 pl (.lst ((srtI (S.tabs.map (·.1))).map V.int))) H3 ∧ ∀ i < j, ∀ x, (srtI (S.tabs.map (·.1)))[i]? = some x → rchAt S.v ser e.num e.ser x = false)
      ⟨⟨_, _, rfl⟩, Same.refl _, fun i hi => absurd hi (Nat.not_lt_zero _)⟩ (fun j σ H3 hj g => SqL.of (g.2.1 _ _ upd_same)) ?_ ?_
    · rintro j x σ H3 hx ⟨⟨v5, v6, rfl⟩, e3, hb⟩
      rw [List.getElem?_map] at hx
      cases ep : (srtI (S.tabs.map (·.1)))[j]? with
      | none => rw [ep] at hx; cases hx
      | some p =>
        rw [ep] at hx
        cases hx
        obtain ⟨t, hl⟩ := lk_some_of (srtI_mem.mp (List.mem_of_getElem? ep))
        have hiv : lk S.v.tabs p = some t.rows := by rw [Sy.tabs_v, hl]; rfl
        have S3 := S1.ext (e2.trans e3)
        have ent3 := (e2.trans e3) _ _ ent1
        refine ⟨_, rfl, _, rfl, _, rfl, _, _, _, _, _, rfl, ent3, hE.c, hE.serial, rfl, S, p, e.ser, t, rfl, S3, hw, hl, fun H4 q4 nd4 => ?_⟩
        have S4 := S3.ext nd4.same
        have ent4 := nd4.same _ _ ent3
        have rv : rchAt S.v ser e.num e.ser p = (decide (e.num ∈ numsL t.rows e.ser) && !(numsL t.rows ser).isEmpty) := by unfold rchAt; rw [hiv]
        have next : ∀ {H5 : Hp} {v6 : Option V}, Same H4 H5 → rchAt S.v ser e.num e.ser p = false → (∃ v5 v6', [some (V.ref S.p), some (.ref na), some (.int lab), some (.int ser), some (.ref e.ad), some (.int p), v6] = [some (V.ref S.p), some (.ref na), some (.int lab), some (.int ser), some (.ref e.ad), v5, v6']) ∧ Same (upd H1 pl (.lst ((srtI (S.tabs.map (·.1))).map V.int))) H5 ∧ ∀ i < j + 1, ∀ x, (srtI (S.tabs.map (·.1)))[i]? = some x → rchAt S.v ser e.num e.ser x = false := fun {H5 v6} e5 hz => ⟨⟨_, _, rfl⟩, (e3.trans nd4.same).trans e5, fun i hi x hx => by
          by_cases ci : i < j
          · exact hb i ci x hx
          · have : i = j := by omega
            subst this
            rw [ep] at hx
            cases hx
            exact hz⟩
        refine ⟨_, rfl, _, _, _, _, _, rfl, ent4, hE.c, hE.number, rfl, _, rfl, .int e.num, _, .int _, nd4.dp, rfl, shapedI _, _, rfl, ?_⟩
        rw [anyI]
        by_cases c : e.num ∈ numsL t.rows e.ser
        · rw [decide_eq_true c] at rv ⊢
          refine iteT ⟨_, rfl, _, rfl, _, rfl, S, p, ser, t, rfl, S4, hw, hl, fun H5 q5 nd5 => ⟨by decide, fun F nF => ?_⟩⟩
          have e6 : Same H5 (upd H5 F (.lst [])) := new_same nF
          refine ⟨_, .list [], Dp.same e6 _ _ nd5.dp, .lst (SqL.of upd_same) .nil, shapedI _, by decide, _, rfl, ?_⟩
          rw [nilI]
          cases cz : (numsL t.rows ser).isEmpty with
          | false =>
            rw [cz] at rv
            refine iteT ?_
            have : reachV S.v ser e.num e.ser = true := by
              unfold reachV
              rw [← pids]
              exact List.any_eq_true.mpr ⟨p, List.mem_of_getElem? ep, rv⟩
            rw [this] at q
            exact q _ ((e1.trans (e2.trans e3)).trans (nd4.same.trans (nd5.same.trans e6)))
          | true =>
            rw [cz] at rv
            refine iteF ?_
            exact next (nd5.same.trans e6) rv
        · rw [decide_eq_false c] at rv ⊢
          refine iteF ?_
          exact next (Same.refl _) rv
    · rintro σ H3 ⟨⟨v5, v6, rfl⟩, e3, hb⟩
      have : reachV S.v ser e.num e.ser = false := by
        unfold reachV
        rw [← pids, Bool.eq_false_iff]
        intro z
        obtain ⟨x, hx, hx2⟩ := List.any_eq_true.mp z
        obtain ⟨i, hi⟩ := List.mem_iff_getElem?.mp hx
        have := hb i (by rw [List.length_map]; exact (List.getElem?_eq_some_iff.mp hi).1) x hi
        rw [this] at hx2
        cases hx2
      rw [this] at q
      exact q _ (e1.trans (e2.trans e3))
theorem b_is_reached (T : Tx K mg) : Binds K (fdAt K (gA "is_reached" K)) ["system", "set_name", "label"] [] := FunD.bindsN T.f_is_reached fun _ _ _ _ _ _ us hl => match us, hl with | [_, _, _], _ => rfl
end

theorem dp_bls {K : PySem.W.Frag} {H : Hp} : ∀ {bs : List Bool} {xs : List V}, DpAll K H xs (bs.map PyData.bool) → xs = bs.map V.bl
  | [], _, h => by cases h; rfl
  | b :: bs, _, h => by
    rw [List.map_cons] at h
    cases h with
    | cons h1 h2 =>
      cases h1
      rw [dp_bls h2]
      rfl
section
variable {P : Program} {w : World} {K : PySem.W.Frag} {mg : Str → Option Value} {base : Heap}
theorem sc_holds_both : FnScope ["system", "process", "one", "other"] ["system", "process", "one", "other"] (defScope s_holds_both) := ⟨rfl, rfl, rfl, by decide +kernel, rfl, by decide +kernel, by decide +kernel⟩
theorem ok_holds_both (T : Tx K mg) : FnOk P w K mg base CX0 2 (gA "holds_both" K) (fdAt K (gA "holds_both" K)) ["system", "process", "one", "other"] (sp_holds_both K) := by
  refine FunD.ok T.f_holds_both sc_holds_both (fun vs H Q E h => ?_) (fun cdv A outer s H vs Q E hr h => ?_)
  · obtain ⟨S, p, a, b, rfl, _⟩ := h
    rfl
  · obtain ⟨S, p, a, b, rfl, hS, hw, hp, q⟩ := h
    have hu64 := hr.units
    refine ⟨_, PSs.nox (pss_one (ps_ret (pe_and (pe_cmpR (op_neD hu64) (pe_call (ok_numbers_of T) hr (by rfl) T.g_numbers_of T.f_numbers_of.kp (b_numbers_of T) .nil pass0 (pa_cons (pv 0) (pa_cons (pv 1) (pa_cons (pv 2) pa_nil)))) (pe_lst pa_nil) (nomark _))
      (pe_one (pe_cmpR (op_neD hu64) (pe_call (ok_numbers_of T) hr (by rfl) T.g_numbers_of T.f_numbers_of.kp (b_numbers_of T) .nil pass0 (pa_cons (pv 0) (pa_cons (pv 1) (pa_cons (pv 3) pa_nil)))) (pe_lst pa_nil) (nomark _)))))), ?_⟩
    obtain ⟨t, hl⟩ := lk_some_of hp
    have hiv : lk S.v.tabs p = some t.rows := by rw [Sy.tabs_v, hl]; rfl
    have bv : bothAt S.v a b p = (!(numsL t.rows a).isEmpty && !(numsL t.rows b).isEmpty) := by unfold bothAt; rw [hiv]
    rw [bv] at q
    refine ⟨_, rfl, _, rfl, _, rfl, S, p, a, t, rfl, hS, hw, hl, fun H4 q4 nd4 => ⟨by decide, fun F nF => ?_⟩⟩
    have e4 : Same H4 (upd H4 F (.lst [])) := new_same nF
    refine ⟨_, .list [], Dp.same e4 _ _ nd4.dp, .lst (SqL.of upd_same) .nil, shapedI _, by decide, _, rfl, ?_⟩
    rw [nilI]
    cases ca : (numsL t.rows a).isEmpty with
    | true =>
      rw [ca] at q
      exact iteF (q _ (nd4.same.trans e4))
    | false =>
      rw [ca] at q
      have S4 := hS.ext (nd4.same.trans e4)
      refine iteT ⟨_, rfl, _, rfl, _, rfl, S, p, b, t, rfl, S4, hw, hl, fun H5 q5 nd5 => ⟨by decide, fun F5 nF5 => ?_⟩⟩
      have e5 : Same H5 (upd H5 F5 (.lst [])) := new_same nF5
      refine ⟨_, .list [], Dp.same e5 _ _ nd5.dp, .lst (SqL.of upd_same) .nil, shapedI _, by decide, ?_⟩
      rw [nilI]
      exact q _ ((nd4.same.trans e4).trans (nd5.same.trans e5))
theorem b_holds_both (T : Tx K mg) : Binds K (fdAt K (gA "holds_both" K)) ["system", "process", "one", "other"] [] := FunD.bindsN T.f_holds_both fun _ _ _ _ _ _ us hl => match us, hl with | [_, _, _, _], _ => rfl
theorem sc_is_sealed : FnScope ["system", "set_name", "label", "serial", "entry", "process"] ["system", "set_name", "label"] (defScope s_is_sealed) := ⟨rfl, rfl, rfl, by decide +kernel, rfl, by decide +kernel, by decide +kernel⟩
theorem ok_is_sealed (T : Tx K mg) : FnOk P w K mg base CX0 8 (gA "is_sealed" K) (fdAt K (gA "is_sealed" K)) ["system", "set_name", "label"] (sp_is_sealed K) := by
  refine FunD.ok T.f_is_sealed sc_is_sealed (fun vs H Q E h => ?_) (fun cdv A outer s H vs Q E hr h => ?_)
  · obtain ⟨S, na, lab, ser, e, rfl, _⟩ := h
    rfl
  · obtain ⟨S, na, lab, ser, e, rfl, hS, hw, hf, q⟩ := h
    refine ⟨_, PSs.nox (pss_cons (ps_asg (pe_meth (pv 0) T.c_System T.m_System_found_entry (ok_found_entry T) hr (b_found_entry T) .nil pass0 (pa_cons (pv 1) (pa_cons (pv 2) pa_nil))) (pg_tup (n := 2) rfl (pgs_cons (pg_name (i := 3) sc_is_sealed.nd rfl (Or.inr rfl)) (pgs_cons (pg_name (i := 4) sc_is_sealed.nd rfl (Or.inr rfl)) pgs_nil))))
      (pss_one (ps_ret (pe_not (pe_callB (cr_anyB rfl) (by rfl) T.free_any (by decide +kernel) (pa_cons (pe_lc (own := [("process", 5)]) (g := gName 5) (tt := tYes) rfl sc_is_sealed.nd (pi_list (pe_meth0 (pv 0) T.c_System T.m_System_alive (ok_alive T) (hr.mono (by decide)) (b_alive T) .nil pass0)) (blkOk_by (N := ["system", "set_name", "label", "serial", "entry", "process"]) (sc := defScope s_is_sealed) (by decide +kernel))
          (fun _ _ _ _ _ => pg_name (i := 5) sc_is_sealed.nd rfl (Or.inl rfl)) (fun _ _ _ _ _ => pts_nil) (fun _ _ _ _ _ => pe_call (ok_holds_both T) (hr.mono (by decide)) (by rfl) T.g_holds_both T.f_holds_both.kp (b_holds_both T) .nil pass0 (pa_cons (pv 0) (pa_cons (pv 5) (pa_cons (pv 3) (pa_cons (pe_fldK K (pv 4) rfl) pa_nil)))))) pa_nil)))))), ?_⟩
    have hE := entT T
    obtain ⟨p0, n0, t0, th0, dx0, L0, R0, es0, row0, f1, f2, f3, f4, f5, f6, f7⟩ := id hf
    refine ⟨_, rfl, S.p, S.dx, _, rfl, hS.ob, rfl, _, rfl, _, rfl, S, na, p0, n0, ser, lab, t0, th0, dx0, L0, R0, es0, row0, e, rfl, hS, hw, f1, f2, f3, f4, f5, f6, f7, fun H1 q1 e1 nq hq => ?_⟩
    refine ⟨q1, _, rfl, SqT.of hq, rfl, _, _, rfl, _, _, rfl, rfl, ?_⟩
    have S1 := hS.ext e1
    have ent1 := e1 _ _ (hf.ent hS)
    have h6 := hw.tabs6
    rw [show S.v.tabs.length = S.tabs.length from List.length_map ..] at h6
    refine ⟨_, rfl, S.p, S.dx, _, rfl, S1.ob, rfl, S, rfl, S1, by omega, fun pl npl => ?_⟩
    have e2 : Same H1 (upd H1 pl (.lst ((srtI (S.tabs.map (·.1))).map V.int))) := new_same npl
    refine ⟨pl, rfl, ⟨_, SqL.of upd_same⟩, fun D nD => ?_⟩
    have pids : S.tabs.map (·.1) = S.v.tabs.map (·.1) := (Sy.pids S).symm
    refine lc_list (xs := (srtI (S.tabs.map (·.1))).map V.int) (fun j H3 => Gro K (upd H1 pl (.lst ((srtI (S.tabs.map (·.1))).map V.int))) D H3 ((((srtI (S.tabs.map (·.1))).take j).map (bothAt S.v ser e.ser)).map PyData.bool)) (Gro.start nD) (fun j H3 hj g => SqL.of (g.same _ _ upd_same)) (fun j x H3 hx gg => ?_) (fun H3 gg => ?_)
    · rw [List.getElem?_map] at hx
      cases ep : (srtI (S.tabs.map (·.1)))[j]? with
      | none => rw [ep] at hx; cases hx
      | some p =>
        rw [ep] at hx
        cases hx
        have S3 := S1.ext (e2.trans gg.same)
        have ent3 := (e2.trans gg.same) _ _ ent1
        refine ⟨rfl, _, rfl, _, rfl, _, rfl, _, rfl, _, _, _, _, _, rfl, ent3, hE.c, hE.serial, rfl, S, p, ser, e.ser, rfl, S3, hw, srtI_mem.mp (List.mem_of_getElem? ep), fun H4 e4 => ?_⟩
        obtain ⟨acc, a1, a2, a3⟩ := gg.add e4 (y := .bl (bothAt S.v ser e.ser p)) (d := .bool (bothAt S.v ser e.ser p)) (.bl _)
        refine ⟨acc, a1, ?_, ?_⟩
        · rw [a2, List.length_map, List.length_map, List.length_take]
          have : (srtI (S.tabs.map (·.1))).length ≤ 6 := by rw [srtI_len, List.length_map]; exact h6
          have z : (64 : Nat) < sizeLine := by decide
          omega
        · rw [take_next ep, List.map_append, List.map_append]
          exact a3
    · rw [show ((srtI (S.tabs.map (·.1))).map V.int).length = (srtI (S.tabs.map (·.1))).length from List.length_map .., List.take_length] at gg
      obtain ⟨xs, b1, b2⟩ := gg.has
      have b3 := dp_bls b2
      rw [b3] at b1
      refine ⟨D, _, rfl, SqL.of b1, _, rfl, ?_⟩
      have : sealV S.v ser e.ser = !(((srtI (S.tabs.map (·.1))).map (bothAt S.v ser e.ser)).any id) := by
        unfold sealV
        rw [← pids, List.any_map]
        rfl
      rw [this] at q
      exact q _ (e1.trans (e2.trans gg.same))
theorem b_is_sealed (T : Tx K mg) : Binds K (fdAt K (gA "is_sealed" K)) ["system", "set_name", "label"] [] := FunD.bindsN T.f_is_sealed fun _ _ _ _ _ _ us hl => match us, hl with | [_, _, _], _ => rfl
end

/-! ### systems at the law's level -/
def sca : Val → Bool
  | .non => true
  | .bl _ => true
  | .int _ => true
  | .str _ => true
  | _ => false
theorem sca_obj {K : PySem.W.Frag} {ad : Nat → Addr} {b : Nat} {H H' : Hp} {x : Val} {u : V} (h : sca x = true) (r : VR K ad b H x u) : Obj' H' u := by
  cases r <;> first | exact trivial | cases h
def errV (f : Str) (x : Val) (c : Str) : List (Str × Val) := [(f, x), ("caption", .str c)]
def byP (v : Sv) (x : Val) (μ : Mu) (k : Int → List (Int × Int) → R Val) : R Val := if sca x = true then match x with
    | .int i => match lk v.tabs i with
      | some rows => k i rows
      | none => .er "NoProcess" (errV "process" x "NoProcess") μ
    | _ => .er "NoProcess" (errV "process" x "NoProcess") μ
  else .no
def byN (rows : List (Int × Int)) (y : Val) (μ : Mu) (k : Int → Int → R Val) : R Val := if sca y = true then match y with
    | .int i => match lk rows i with
      | some ser => k i ser
      | none => .er "NotOpen" (errV "number" y "NotOpen") μ
    | _ => .er "NotOpen" (errV "number" y "NotOpen") μ
  else .no
def onSrc (v : Sv) (ser : Int) (y : Val) (μ : Mu) (k : Int → Bool → R Val) : R Val := match lk v.ths ser with
  | some (.src u f) => k u f
  | some (.set _ _) => .er "NotASource" (errV "number" y "NotASource") μ
  | none => .no
def onSet (v : Sv) (ser : Int) (y : Val) (μ : Mu) (k : List Ev → List Int → R Val) : R Val := match lk v.ths ser with
  | some (.set es row) => k es row
  | some (.src _ _) => .er "NotASet" (errV "number" y "NotASet") μ
  | none => .no
section
variable {K : PySem.W.Frag} {E : XK} {w : Wt} {μ : Mu} {H : Hp} {n : Nat} {v : Sv} {Q : VK}
theorem raisedP (S : Sim K w μ H) {c : Str} {fs : List (Str × Val)} {us : List (Str × V)} (hp : Post K (relE K) E w μ.nx H Q (.er c fs μ)) (hk : us.map (·.1) = fs.map (·.1)) (r : VRs K w.ad μ.nx H (fs.map (·.2)) (us.map (·.2))) : Raised K H E c us := fun H' d e nd hd => by
  obtain ⟨S', g⟩ := S.same e
  exact hp w H' d us S' g hd hk (r.grow g)
theorem raised1 (S : Sim K w μ H) {c f cap : Str} {x : Val} {u : V} (hp : Post K (relE K) E w μ.nx H Q (.er c (errV f x cap) μ)) (r : VR K w.ad μ.nx H x u) : Raised K H E c [(f, u), ("caption", .str cap)] :=
  raisedP S hp rfl (.cons r (.cons (.str _) .nil))
theorem byP_ok (S : Sim K w μ H) (hob : μ.ob n = some (.sys v)) {x : Val} {u : V} (r : VR K w.ad μ.nx H x u) {k : Int → List (Int × Int) → R Val} (hp : Post K (relE K) E w μ.nx H Q (byP v x μ k)) {G : Int → Tb → Prop}
    (f : ∀ i t, lk (w.sy n).tabs i = some t → lk v.tabs i = some t.rows → Post K (relE K) E w μ.nx H Q (k i t.rows) → G i t) : Obj' H u ∧ ByProc K (w.sy n) u H E G := by
  obtain ⟨h1, h2, h3, h4⟩ := S.ok _ _ hob
  unfold byP at hp
  split at hp
  · rename_i hs
    refine ⟨sca_obj hs r, ?_⟩
    split at hp
    · rename_i i
      cases r
      split at hp
      · rename_i rows hr
        rw [← h3, Sy.tabs_v] at hr
        obtain ⟨t, e1, e2⟩ := Option.map_eq_some_iff.mp hr
        subst e2
        exact .inl ⟨i, t, rfl, e1, f i t e1 (by rw [← h3, Sy.tabs_v, e1]; rfl) hp⟩
      · rename_i hr
        rw [← h3, Sy.tabs_v] at hr
        exact .inr ⟨fun j e => by cases e; exact Option.map_eq_none_iff.mp hr, raised1 S hp (.int _)⟩
    · rename_i hni
      refine .inr ⟨fun i e => ?_, raised1 S hp r⟩
      subst e
      cases r
      exact (hni _ rfl).elim
  · exact hp.elim
theorem byN_ok (S : Sim K w μ H) {t : Tb} {y : Val} {u : V} (r : VR K w.ad μ.nx H y u) {k : Int → Int → R Val} (hp : Post K (relE K) E w μ.nx H Q (byN t.rows y μ k)) {G : Int → Int → Prop}
    (f : ∀ i ser, lk t.rows i = some ser → Post K (relE K) E w μ.nx H Q (k i ser) → G i ser) : ByNum K t u H E G := by
  unfold byN at hp
  split at hp
  · split at hp
    · rename_i i
      cases r
      split at hp
      · rename_i ser hr
        exact .inl ⟨_, ser, rfl, hr, f _ ser hr hp⟩
      · rename_i hr
        exact .inr ⟨fun j e => by cases e; exact hr, raised1 S hp (.int _)⟩
    · rename_i hni
      refine .inr ⟨fun i e => ?_, raised1 S hp r⟩
      subst e
      cases r
      exact (hni _ rfl).elim
  · exact hp.elim
theorem onSrc_ok (S : Sim K w μ H) (hob : μ.ob n = some (.sys v)) {ser : Int} {y : Val} {u : V} (r : VR K w.ad μ.nx H y u) {k : Int → Bool → R Val} (hp : Post K (relE K) E w μ.nx H Q (onSrc v ser y μ k)) {th : Th} (ht : lk (w.sy n).ths ser = some th) {G : Prop}
    (f : ∀ a b, th.tg.v = .src a b → lk v.ths ser = some (.src a b) → Post K (relE K) E w μ.nx H Q (k a b) → G) : (th.tg.v.isSet = false → G) ∧ (th.tg.v.isSet = true → Raised K H E "NotASource" (errN "NotASource" u)) := by
  obtain ⟨h1, h2, h3, h4⟩ := S.ok _ _ hob
  have e : lk v.ths ser = some th.tg.v := by rw [← h3, Sy.ths_v, ht]; rfl
  unfold onSrc at hp
  rw [e] at hp
  cases q : th.tg.v with
  | src a b =>
    rw [q] at hp e
    exact ⟨fun _ => f a b q e hp, fun z => by cases z⟩
  | set es row =>
    rw [q] at hp
    exact ⟨fun z => (by cases z), fun _ => raised1 S hp r⟩
theorem onSet_ok (S : Sim K w μ H) (hob : μ.ob n = some (.sys v)) {ser : Int} {y : Val} {u : V} (r : VR K w.ad μ.nx H y u) {k : List Ev → List Int → R Val} (hp : Post K (relE K) E w μ.nx H Q (onSet v ser y μ k)) {th : Th} (ht : lk (w.sy n).ths ser = some th) {G : Prop}
    (f : ∀ a b, th.tg.v = .set a b → lk v.ths ser = some (.set a b) → Post K (relE K) E w μ.nx H Q (k a b) → G) : (th.tg.v.isSet = true → G) ∧ (th.tg.v.isSet = false → Raised K H E "NotASet" (errN "NotASet" u)) := by
  obtain ⟨h1, h2, h3, h4⟩ := S.ok _ _ hob
  have e : lk v.ths ser = some th.tg.v := by rw [← h3, Sy.ths_v, ht]; rfl
  unfold onSet at hp
  rw [e] at hp
  cases q : th.tg.v with
  | set a b =>
    rw [q] at hp e
    exact ⟨fun _ => f a b q e hp, fun z => by cases z⟩
  | src es row =>
    rw [q] at hp
    exact ⟨fun z => (by cases z), fun _ => raised1 S hp r⟩
end
/-! ### the calls -/
def newM (tv : Tv) : MSy := fun n v xs μ => match xs with
  | [x] => if 0 ≤ v.made ∧ v.made ≤ 1000000 then byP v x μ fun i rows => match lowFree (rows.map (·.1)) v.N with
      | some k => .ok (.int k) (μ.put n (.sys (v.place i k tv)))
      | none => .er "Full" (errV "process" x "Full") μ
    else .no
  | _ => .no
def cntOf (x : Val) (lo hi : Int) : Option Int := match x with
  | .int k => if lo ≤ k ∧ k ≤ hi then some k else none
  | _ => none
def wordOf (x : Val) : Option Str := match x with
  | .str z => if z ∈ words then some z else none
  | _ => none
def addM' : MSy := fun n v xs μ => match xs with
  | [x, y, z, l, wd] => if (sca x = true ∧ sca y = true ∧ sca z = true) ∧ sca l = true ∧ sca wd = true then byP v x μ fun i rows => byN rows y μ fun k1 ser1 => onSet v ser1 y μ fun es row => byN rows z μ fun k ser => onSrc v ser z μ fun u f => match cntOf l 0 999999 with
      | none => .er "BadLabel" (errV "label" l "BadLabel") μ
      | some lab => match wordOf wd with
        | none => .er "BadWord" (errV "word" wd "BadWord") μ
        | some wz => if ∃ e ∈ es, e.num = k ∧ e.ser = ser then .er "Registered" (errV "number" z "Registered") μ else if ∃ e ∈ es, e.lab = lab then .er "Taken" (errV "label" l "Taken") μ
          else if es.length < 1000000 then .ok .non (μ.put n (.sys (v.re ser1 (addV es row k ser lab wz (f || decide (0 < u)))))) else .no
    else .no
  | _ => .no
section
variable {K : PySem.W.Frag}
theorem cnt_betw {ad : Nat → Addr} {b : Nat} {H : Hp} {m : Val} {u : V} {lo hi : Int} (r : VR K ad b H m u) : (cntOf m lo hi = none → betw u lo hi = false) ∧ (∀ c, cntOf m lo hi = some c → m = .int c ∧ u = .int c ∧ lo ≤ c ∧ c ≤ hi) ∧ (cntOf m lo hi = none → ∀ c, u = .int c → lo ≤ c → c ≤ hi → False) := by
  unfold cntOf
  cases r with
  | int i =>
    simp only
    by_cases c : lo ≤ i ∧ i ≤ hi
    · rw [if_pos c]
      refine ⟨fun z => (by cases z), fun k z => ?_, fun z => (by cases z)⟩
      cases z
      exact ⟨rfl, rfl, c.1, c.2⟩
    · rw [if_neg c]
      refine ⟨fun _ => ?_, fun k z => (by cases z), fun _ k e h1 h2 => ?_⟩
      · unfold betw
        simp only
        rw [Bool.eq_false_iff]
        intro z
        apply c
        simpa using z
      · cases e
        exact c ⟨h1, h2⟩
  | _ => exact ⟨fun _ => rfl, fun k z => (by cases z), fun _ k e => (by cases e)⟩
theorem made_v {w : Wt} {μ : Mu} {H : Hp} {n : Nat} {v : Sv} (S : Sim K w μ H) (hob : μ.ob n = some (.sys v)) : (w.sy n).made = v.made ∧ (w.sy n).N = v.N ∧ (w.sy n).P = v.P := by
  obtain ⟨h1, h2, h3, h4⟩ := S.ok _ _ hob
  subst h3
  exact ⟨rfl, rfl, rfl⟩
theorem s_new {tv : Tv} (ht : tv.fresh) : PrimS K (sp_new K tv) (newM tv) := by
  intro E w μ H n v xs us Q S hob r hp
  obtain ⟨h1, h2, h3, h4⟩ := S.ok _ _ hob
  unfold newM at hp
  split at hp
  · rename_i x
    split at hp
    · rename_i hm
      cases r with
      | cons r1 r2 =>
        cases r2
        obtain ⟨e1, e2, e3⟩ := made_v S hob
        obtain ⟨o1, o2⟩ := byP_ok S hob r1 hp (G := fun i tb => (∀ k, lowFree (tb.rows.map (·.1)) (w.sy n).N = some k → ∀ H' s', SyAt K H' s' → s'.v = (w.sy n).v.place i k tv → Fr' (w.sy n) s' H H' → Q (.int k) H') ∧ (lowFree (tb.rows.map (·.1)) (w.sy n).N = none → Raised K H E "Full" (errF _))) (fun i t hl hv hk => by
          refine ⟨fun k hf H' s' S' ev fr => ?_, fun hf => ?_⟩
          · rw [e2] at hf
            rw [hf] at hk
            have wf : WF (v.place i k tv) := h4.place hv (lowFree_spec hf) ht hm.1
            obtain ⟨w', q1, q2, _⟩ := S.setS hob S' (by rw [ev, h3]) wf fr
            exact hk w' H' _ q1 (.int _) q2
          · rw [e2] at hf
            rw [hf] at hk
            exact raised1 S hk r1)
        exact ⟨w.sy n, _, by rw [h1], h2, o1, by rw [h3]; exact h4, by rw [e1]; exact hm, o2⟩
    · exact hp.elim
  · exact hp.elim
theorem betw_in {c lo hi : Int} (h1 : lo ≤ c) (h2 : c ≤ hi) : betw (.int c) lo hi = true := by
  unfold betw
  simp only
  simpa using ⟨h1, h2⟩
theorem s_add : PrimS K (sp_add K) addM' := by
  intro E w μ H n v xs us Q S hob r hp
  obtain ⟨h1, h2, h3, h4⟩ := S.ok _ _ hob
  unfold addM' at hp
  split at hp
  · rename_i x y z l wd
    split at hp
    · rename_i hm
      cases r with
      | cons r1 r2 =>
      cases r2 with
      | cons r2 r3 =>
      cases r3 with
      | cons r3 r4 =>
      cases r4 with
      | cons r4 r5 =>
      cases r5 with
      | cons r5 r6 =>
        cases r6
        refine ⟨w.sy n, _, _, _, _, _, by rw [h1], h2, by rw [h3]; exact h4, sca_obj hm.1.1 r1, sca_obj hm.1.2.1 r2, sca_obj hm.1.2.2 r3, sca_obj hm.2.1 r4, sca_obj hm.2.2 r5, (byP_ok S hob r1 hp fun i t hl hv hk => byN_ok S r2 hk fun k1 ser1 hs1 hk => fun th1 hth1 => onSet_ok S hob r2 hk hth1 fun es row hu1 hlu1 hk => byN_ok S r3 hk fun k ser hs hk => fun th hth => ?_).2⟩
        refine ⟨(onSrc_ok S hob r3 hk hth (G := True) fun _ _ _ _ _ => trivial).2, fun u f hu => ?_⟩
        have hlu : lk v.ths ser = some (.src u f) := by rw [← h3, Sy.ths_v, hth, ← hu]; rfl
        unfold onSrc at hk
        rw [hlu] at hk
        simp only at hk
        obtain ⟨c1, c2, c3⟩ := cnt_betw (lo := 0) (hi := 999999) r4
        cases hc : cntOf l 0 999999 with
        | none =>
          rw [hc] at hk
          exact ⟨fun _ => raised1 S hk r4, fun k e l1 l2 => (c3 hc k e l1 l2).elim⟩
        | some lab =>
          rw [hc] at hk
          obtain ⟨q1, rfl, q3, q4⟩ := c2 lab hc
          refine ⟨fun z => ?_, fun lab' e l1 l2 => ?_⟩
          · rw [betw_in q3 q4] at z
            cases z
          cases e
          cases hw : wordOf wd with
          | none =>
            rw [hw] at hk
            refine ⟨fun _ => raised1 S hk r5, fun wz es row e hwz => ?_⟩
            subst e
            cases r5
            unfold wordOf at hw
            simp only at hw
            rw [if_pos hwz] at hw
            cases hw
          | some wz =>
            rw [hw] at hk
            have hwd : wd = .str wz ∧ wz ∈ words := by
              unfold wordOf at hw
              split at hw
              · split at hw
                · cases hw
                  exact ⟨rfl, by assumption⟩
                · cases hw
              · cases hw
            obtain ⟨rfl, hwz⟩ := hwd
            cases r5
            refine ⟨fun z => ?_, fun wz' es' row' e _ hu1' => ?_⟩
            · unfold isWord at z
              exact absurd (decide_eq_true hwz) (by rw [show decide (wz ∈ words) = false from z]; exact Bool.false_ne_true)
            · cases e
              rw [hu1] at hu1'
              cases hu1'
              simp only at hk
              refine ⟨fun c => ?_, fun c => ⟨fun d => ?_, fun d => ?_⟩⟩
              · rw [if_pos c] at hk
                exact raised1 S hk r3
              · rw [if_neg c, if_pos d] at hk
                exact raised1 S hk r4
              · rw [if_neg c, if_neg d] at hk
                split at hk
                · rename_i hz
                  refine ⟨hz, fun H' s' S' ev wf fr => ?_⟩
                  obtain ⟨w', q1, q2, _⟩ := S.setS hob S' (by rw [ev, h3]) (by rw [← h3, ← ev]; exact wf) fr
                  exact hk w' H' _ q1 .non q2
                · exact hk.elim
    · exact hp.elim
  · exact hp.elim
/-! ### new systems -/
def makM (xs : List Val) (μ : Mu) : R Val := match xs with
  | [.int a, .int b] => if (2 ≤ a ∧ a ≤ 6) ∧ 3 ≤ b ∧ b ≤ 8 then .ok (.loc μ.nx) (μ.new (.sys (newSv a b))) else .no
  | _ => .no
theorem s_make {E : XK} {w : Wt} {μ : Mu} {H : Hp} {xs : List Val} {us : List V} {Q : VK} (S : Sim K w μ H) (r : VRs K w.ad μ.nx H xs us) (hp : Post K (relE K) E w μ.nx H Q (makM xs μ)) (x dx : Addr) (nx : H x = none) (ndx : H dx = none) (ne : dx ≠ x) :
    sp_Sys_init K (.ref x :: us) (upd (upd H dx (.own x)) x (.ins (ga K "System") dx [])) (fun v H2 => v = .non ∧ Q (.ref x) H2) E := by
  unfold makM at hp
  split at hp
  · rename_i a b
    cases r with
    | cons r1 r2 =>
      cases r2 with
      | cons r2 r3 =>
        cases r3; cases r1; cases r2
        split at hp
        · rename_i hz
          refine ⟨x, dx, _, _, rfl, upd_same, trivial, trivial, fun z => ?_, fun _ z => ?_, fun a' b' ea eb l1 l2 l3 l4 H' s S' ep ev k f => ?_⟩
          · rw [betw_in hz.1.1 hz.1.2] at z; cases z
          · rw [betw_in hz.2.1 hz.2.2] at z; cases z
          · cases ea; cases eb
            have sm : Same H H' := fun c o h => k c o (by rw [upd_ne (ne_of_none h nx), upd_ne (ne_of_none h ndx)]; exact h) (ne_of_none h nx)
            obtain ⟨w', q1, q2, q3⟩ := S.newS sm S' ev (WF.new ⟨l1, l2⟩ ⟨l3, l4⟩) (fun c hc => by
              rcases f c hc with z | z
              · rw [z]; exact nx
              · by_cases c1 : c = x
                · rw [c1]; exact nx
                · rw [upd_ne c1] at z
                  by_cases c2 : c = dx
                  · rw [c2]; exact ndx
                  · rw [upd_ne c2] at z; exact z)
            refine ⟨rfl, hp w' H' _ q1 ?_ q2⟩
            rw [← ep, ← q3]
            exact VR.loc (Nat.lt_succ_self _)
        · exact hp.elim
  · exact hp.elim
end
section
variable {X : Cx} {E : XK} {x : Str} {p pos : Pos} {kws : List Keyword} {mk : MA}
/-- System(k = v, ..) -/
def mMakeK (f : List Val → Mu → R Val) (l : Nat) (g : List Val → List Val) (a : MA) : ME := fun ρ μ => (a ρ μ).bind fun zs μ => if zs.length = l then f (g zs) μ else .no
theorem pm_sysK (T : Tx X.K X.mg) (hr : Room 5 X.A) (hg : Gl X "System") (hx : Passes (L2.CX X.prog X.w) X E) {ks : List Str} {g : List Value → List Value → List Value} {gV : List V → List V → List V} {gM : List Val → List Val} (hb : KBn X.K (fdAt X.K (mA "System" "__init__" X.K)) ["self", "processes", "numbers"] 1 ks g gV)
    (hgM : ∀ ad b H a zs ws, VRs X.K ad b H zs ws → zs.length = ks.length → ∃ us', gV [.ref a] ws = .ref a :: us' ∧ VRs X.K ad b H (gM zs) us') (hkw : PMK X E kws mk)
    (hall : (backToKw pos (keywordEach kws X.env)).all (·.1.isSome) = true := by rfl) (hks : (backToKw pos (keywordEach kws X.env)).filterMap (·.1) = ks := by rfl)
    (hpl : ((backTo pos (starEach [] X.env)).any (·.1) || (backToKw pos (keywordEach kws X.env)).any (·.1.isNone)) = false := by rfl) : PM X E (.Call (.Name "System" p) [] kws pos) (mMakeK makM ks.length gM mk) :=
  PE.imp (pe_makeK0 T.k_System (ok_Sys_init T) hr hg T.g_System hb hx hkw hall hks (by decide) hpl) fun σ H Q ⟨w, ρ, μ, S, EN, hp⟩ => ⟨w, ρ, μ, S, EN, Post.bind hp fun zs μ1 w1 H1 ws S1 r1 g1 h1 => by
    split at h1
    · rename_i hl
      refine ⟨rfl, by rw [VRs.length r1]; exact hl, fun y dx nx ndx ne => ?_⟩
      obtain ⟨us', e1, e2⟩ := hgM _ _ _ y _ _ r1 hl
      rw [e1]
      exact s_make S1 e2 h1 y dx nx ndx ne
    · exact h1.elim⟩
end
section
variable {P : Program} {w : World} {K : PySem.W.Frag} {mg : Str → Option Value} {base : Heap}
end

/-! ### calls that go well -/
section
variable {μ : Mu} {x : Nat} {v : Sv} {p n c : Int} {rows : List (Int × Int)} {ser u : Int} {f : Bool} {es : List Ev} {row : List Int}
theorem cnt_ok {lo hi c : Int} (h1 : lo ≤ c) (h2 : c ≤ hi) : cntOf (.int c) lo hi = some c := by
  unfold cntOf
  simp only
  rw [if_pos ⟨h1, h2⟩]
theorem new_ok (tv : Tv) (hp : lk v.tabs p = some rows) (hm : 0 ≤ v.made ∧ v.made ≤ 1000000) {k : Int} (hk : lowFree (rows.map (·.1)) v.N = some k) : newM tv x v [.int p] μ = .ok (.int k) (μ.put x (.sys (v.place p k tv))) := by
  unfold newM byP
  simp only [sca, hm, and_self, if_true, hp, hk]
theorem add_ok {m lab ser1 : Int} {wz : Str} (hp : lk v.tabs p = some rows) (hn : lk rows n = some ser1) (hs : lk v.ths ser1 = some (.set es row)) (hm : lk rows m = some ser) (hs2 : lk v.ths ser = some (.src u f)) (h1 : 0 ≤ lab) (h2 : lab ≤ 999999) (hw : wz ∈ words) (hk : ¬ ∃ e ∈ es, e.num = m ∧ e.ser = ser) (hl : ¬ ∃ e ∈ es, e.lab = lab) (hz : es.length < 1000000) :
    addM' x v [.int p, .int n, .int m, .int lab, .str wz] μ = .ok .non (μ.put x (.sys (v.re ser1 (addV es row m ser lab wz (f || decide (0 < u)))))) := by
  unfold addM' byP byN onSet onSrc wordOf
  simp only [sca, and_self, if_true, hp, hn, hs, hm, hs2, cnt_ok h1 h2, hw]
  rw [if_neg hk, if_neg hl, if_pos hz]
end

/-! ### change, remove at the law's level -/
section
variable {K : PySem.W.Frag}
end
section
variable {μ : Mu} {x : Nat} {v : Sv} {p n m : Int} {rows : List (Int × Int)} {ser ser1 u : Int} {f : Bool} {es : List Ev} {row : List Int} {e : Ev}
end

section
variable {K : PySem.W.Frag}
end
section
variable {μ : Mu} {x : Nat} {v : Sv} {p n m : Int} {rows : List (Int × Int)} {ser ser1 u : Int} {f : Bool} {es : List Ev} {row : List Int} {e : Ev}
end

/-! ### finish, close, copy at the law's level -/
def cloM : MSy := fun n v xs μ => match xs with
  | [x, y] => if (sca x = true ∧ sca y = true) ∧ v.made ≤ 1000000 then byP v x μ fun i rows => byN rows y μ fun k ser => .ok .non (μ.put n (.sys (closeV v i k ser)))
    else .no
  | _ => .no
/-- what may be handed to copy as the other number -/
def obv (μ : Mu) : Val → Bool
  | .non => true
  | .bl _ => true
  | .int _ => true
  | .str _ => true
  | .tup _ => true
  | .loc n => (seqOf μ n).isSome
theorem obv_obj {K : PySem.W.Frag} {w : Wt} {μ : Mu} {H : Hp} (S : Sim K w μ H) {x : Val} {u : V} (h : obv μ x = true) (r : VR K w.ad μ.nx H x u) : ObjK K H u := by
  cases r with
  | non => exact .inl True.intro
  | bl _ => exact .inl True.intro
  | int _ => exact .inl True.intro
  | str _ => exact .inl True.intro
  | tup hq _ => exact .inr ⟨_, _, rfl, .inl hq⟩
  | loc hn =>
    unfold obv at h
    obtain ⟨vs, hv⟩ := Option.isSome_iff_exists.mp h
    obtain ⟨us, hq, _⟩ := seqOf_sq S hv
    exact .inr ⟨_, _, rfl, .inr hq⟩
def copM : MSy := fun n v xs μ => match xs with
  | [x, y, z] => if (sca x = true ∧ sca y = true ∧ obv μ z = true) ∧ v.made ≤ 1000000 then byP v x μ fun i rows => byN rows y μ fun k ser => match z with
      | .non => match lowFree (rows.map (·.1)) v.N with
        | none => .er "Full" (errV "process" x "Full") μ
        | some k => .ok (.int k) (μ.put n (.sys (v.addRow i k ser)))
      | z => match cntOf z 0 (v.N - 1) with
        | none => .er "NoNumber" (errV "number" z "NoNumber") μ
        | some k => .ok (.int k) (μ.put n (.sys (copyV v i k ser rows)))
    else .no
  | _ => .no
section
variable {K : PySem.W.Frag}
theorem s_clo : PrimS K (sp_close K) cloM := by
  intro E w μ H n v xs us Q S hob r hp
  obtain ⟨h1, h2, h3, h4⟩ := S.ok _ _ hob
  obtain ⟨e1, e2, e3⟩ := made_v S hob
  unfold cloM at hp
  split at hp
  · rename_i x y
    split at hp
    · rename_i hm
      cases r with
      | cons r1 r2 =>
      cases r2 with
      | cons r2 r3 =>
        cases r3
        refine ⟨w.sy n, _, _, by rw [h1], h2, by rw [h3]; exact h4, by rw [e1]; exact hm.2, sca_obj hm.1.1 r1, sca_obj hm.1.2 r2, (byP_ok S hob r1 hp fun i t hl hv hk => byN_ok S r2 hk fun k ser hs hk => fun H' s' S' ev te wf fr => ?_).2⟩
        obtain ⟨w', q1, q2, _⟩ := S.setS hob S' (by rw [ev, h3]) (by rw [← h3, ← ev]; exact wf) fr
        exact hk w' H' _ q1 .non q2
    · exact hp.elim
  · exact hp.elim
theorem s_cop : PrimS K (sp_copy K) copM := by
  intro E w μ H n v xs us Q S hob r hp
  obtain ⟨h1, h2, h3, h4⟩ := S.ok _ _ hob
  obtain ⟨e1, e2, e3⟩ := made_v S hob
  unfold copM at hp
  split at hp
  · rename_i x y z
    split at hp
    · rename_i hm
      cases r with
      | cons r1 r2 =>
      cases r2 with
      | cons r2 r3 =>
      cases r3 with
      | cons r3 r4 =>
        cases r4
        refine ⟨w.sy n, _, _, _, by rw [h1], h2, by rw [h3]; exact h4, by rw [e1]; exact hm.2, sca_obj hm.1.1 r1, sca_obj hm.1.2.1 r2, obv_obj S hm.1.2.2 r3, (byP_ok S hob r1 hp fun i t hl hv hk => byN_ok S r2 hk fun k ser hs hk => ?_).2⟩
        obtain ⟨c1, c2, c3⟩ := cnt_betw (lo := 0) (hi := v.N - 1) r3
        split at hk
        · cases r3
          refine ⟨fun _ => ⟨fun k hf H' s' S' ev wf fr => ?_, fun hf => ?_⟩, fun z => (z rfl).elim⟩
          · rw [e2] at hf
            rw [hf] at hk
            obtain ⟨w', q1, q2, _⟩ := S.setS hob S' (by rw [ev, h3]) (by rw [← h3, ← ev]; exact wf) fr
            exact hk w' H' _ q1 (.int _) q2
          · rw [e2] at hf
            rw [hf] at hk
            exact raised1 S hk r1
        · rename_i hnn
          refine ⟨fun z => ?_, fun _ => ?_⟩
          · subst z
            cases r3
            exact (hnn rfl).elim
          · rw [e2]
            split at hk
            · rename_i hc
              exact ⟨fun _ => raised1 S hk r3, fun k e l1 l2 => (c3 hc k e l1 l2).elim⟩
            · rename_i c hc
              obtain ⟨q1, rfl, q3, q4⟩ := c2 c hc
              refine ⟨fun z => ?_, fun k e l1 l2 H' s' S' ev wf fr => ?_⟩
              · rw [betw_in q3 q4] at z
                cases z
              · cases e
                obtain ⟨w', q1, q2, _⟩ := S.setS hob S' (by rw [ev, h3]) (by rw [← h3, ← ev]; exact wf) fr
                exact hk w' H' _ q1 (.int _) q2
    · exact hp.elim
  · exact hp.elim
end
section
variable {μ : Mu} {x : Nat} {v : Sv} {p n m k : Int} {rows : List (Int × Int)} {ser u : Int} {f : Bool}
theorem clo_ok (hp : lk v.tabs p = some rows) (hn : lk rows n = some ser) (hm : v.made ≤ 1000000) : cloM x v [.int p, .int n] μ = .ok .non (μ.put x (.sys (closeV v p n ser))) := by
  unfold cloM byP byN
  simp only [sca, hm, and_self, if_true, hp, hn]
theorem copTo_ok (hp : lk v.tabs p = some rows) (hn : lk rows n = some ser) (hm : v.made ≤ 1000000) (k0 : 0 ≤ k) (k1 : k ≤ v.N - 1) : copM x v [.int p, .int n, .int k] μ = .ok (.int k) (μ.put x (.sys (copyV v p k ser rows))) := by
  unfold copM byP byN
  simp only [sca, obv, hm, and_self, if_true, hp, hn, cnt_ok k0 k1]
end

/-! ### registrations, wait by keyword, change by keywords, sorted reports: at the law's level -/
def nameV (v : Sv) (ser : Int) : Val := .tup [.int (nameAt v ser).1, .int (nameAt v ser).2]
def regV (v : Sv) (s : Int) (e : Ev) : Val := .tup [nameV v s, .int e.lab, .int e.num, nameV v e.ser, .str e.wrd, .bl e.arm]
def regsV (v : Sv) : List Val := (setsIn v).flatMap fun s => (regsOf v s).map (regV v s)
theorem ofDs_app : ∀ a b : List PyData, ofDs (a ++ b) = ofDs a ++ ofDs b
  | [], b => rfl
  | d :: a, b => by rw [List.cons_append, ofDs, ofDs, ofDs_app a b]; rfl
theorem noLs_app : ∀ a b : List PyData, noLs (a ++ b) = (noLs a && noLs b)
  | [], b => by rw [List.nil_append, noLs, Bool.true_and]
  | d :: a, b => by rw [List.cons_append, noLs, noLs, noLs_app a b, Bool.and_assoc]
theorem ofDs_reg (v : Sv) (s : Int) : ∀ es : List Ev, ofDs (es.map (regD v s)) = es.map (regV v s) ∧ noLs (es.map (regD v s)) = true
  | [] => ⟨rfl, rfl⟩
  | e :: es => by
    obtain ⟨i1, i2⟩ := ofDs_reg v s es
    refine ⟨?_, ?_⟩
    · rw [List.map_cons, List.map_cons, ofDs, i1]
      rfl
    · rw [List.map_cons, noLs, i2]
      rfl
theorem ofDs_regs (v : Sv) : ofDs (regsD v) = regsV v ∧ noLs (regsD v) = true := by
  unfold regsD regsV
  generalize setsIn v = l
  induction l with
  | nil => exact ⟨rfl, rfl⟩
  | cons a l ih =>
    obtain ⟨i1, i2⟩ := ih
    obtain ⟨j1, j2⟩ := ofDs_reg v a (regsOf v a)
    rw [List.flatMap_cons, List.flatMap_cons, ofDs_app, noLs_app, i1, i2, j1, j2]
    exact ⟨rfl, rfl⟩
def regM : MSy := fun _ v xs μ => match xs with
  | [] => if v.made ≤ 1000000 ∧ (regsD v).length ≤ 1000000 then .ok (.loc μ.nx) (μ.new (.lst (regsV v))) else .no
  | _ => .no
section
variable {K : PySem.W.Frag}
theorem s_reg : PrimS K (sp_registrations K) regM := by
  intro E w μ H n v xs us Q S hob r hp
  obtain ⟨h1, h2, h3, h4⟩ := S.ok _ _ hob
  obtain ⟨e1, e2, e3⟩ := made_v S hob
  unfold regM at hp
  split at hp
  · split at hp
    · rename_i hm
      cases r
      refine ⟨w.sy n, by rw [h1], h2, by rw [h3]; exact h4, by rw [e1]; exact hm.1, by rw [h3]; exact hm.2, fun H' p sm gd => ?_⟩
      rw [h3] at gd
      obtain ⟨S1, g1⟩ := S.same sm
      obtain ⟨xs, hp1, hp2⟩ := gd.has
      obtain ⟨d1, d2⟩ := ofDs_regs v
      have vr := vrs_dp (ad := w.ad) (b := μ.nx) (H' := H') (frs_le.trans off_le) _ _ hp2 d2
      rw [d1] at vr
      obtain ⟨w4, S4, g4, e4⟩ := S1.takeL hp1 (fun m z => by
        obtain ⟨o, ho, _⟩ := S.ftm z
        rw [gd.new] at ho
        cases ho) vr
      exact hp w4 _ _ S4 (by rw [← e4]; exact VR.loc (Nat.lt_succ_self _)) (g1.trans g4)
    · exact hp.elim
  · exact hp.elim
variable {mg : Str → Option Value}
end
/-! ### sorted of reports -/
section
variable {X : Cx}
end
section
variable {K : PySem.W.Frag}
end

/-! ### System(processes=, numbers=), row_of by keywords -/
section
variable {K : PySem.W.Frag} {mg : Str → Option Value}
theorem b_SysPN (T : Tx K mg) : ∃ mv, KBn K (fdAt K (mA "System" "__init__" K)) ["self", "processes", "numbers"] 1 ["processes", "numbers"] (fun us ws => us ++ (ws ++ mv)) (fun vs zs => vs ++ (zs ++ [])) :=
  FunD.kbinds0 T.f_System___init__ 1 ["processes", "numbers"] [] (fun a b c => a ++ (c ++ b)) (fun z => nomatch z) (fun q hq => nomatch hq) (fun r1 r2 r3 => r1.append (r3.append r2)) fun D doc pm an cdv ct us mv ws l1 l2 l3 => match us, mv, ws, l1, l2, l3 with | [_], [], [_, _], _, _, _ => rfl
end

/-! ### units, at the law's level -/
section
variable {K : PySem.W.Frag}
end
section
variable {μ : Mu} {x : Nat} {v : Sv} {p n : Int} {rows : List (Int × Int)} {ser u : Int} {f : Bool}
end

/-! ### fork, at the law's level -/
def forM : MSy := fun n v xs μ => match xs with
  | [x] => if sca x = true then byP v x μ fun _ rows => match lowFree (v.tabs.map (·.1)) v.P with
      | some c => .ok (.int c) (μ.put n (.sys (v.fork c rows)))
      | none => .no
    else .no
  | _ => .no
theorem Sy.keys_v (s : Sy) : s.v.tabs.map (·.1) = s.tabs.map (·.1) := by
  show (s.tabs.map fun t => (t.1, t.2.rows)).map (·.1) = _
  rw [List.map_map]
  rfl
section
variable {K : PySem.W.Frag}
theorem s_for : PrimS K (sp_fork K) forM := by
  intro E w μ H n v xs us Q S hob r hp
  obtain ⟨h1, h2, h3, h4⟩ := S.ok _ _ hob
  have eP : (w.sy n).P = v.P := by rw [← h3]; rfl
  have eT : (w.sy n).tabs.map (·.1) = v.tabs.map (·.1) := by rw [← h3, Sy.keys_v]
  unfold forM at hp
  split at hp
  · rename_i x
    split at hp
    · rename_i hm
      cases r with
      | cons r1 r2 =>
        cases r2
        refine ⟨w.sy n, _, by rw [h1], h2, sca_obj hm r1, by rw [h3]; exact h4, (byP_ok S hob r1 hp fun i t hl hv hk => ?_).2⟩
        rw [eP, eT]
        cases hf : lowFree (v.tabs.map (·.1)) v.P with
        | none =>
          rw [hf] at hk
          exact hk.elim
        | some c =>
          rw [hf] at hk
          refine ⟨fun c' e H' s' F => ?_, fun e => nomatch e⟩
          cases e
          obtain ⟨f1, f2, f3⟩ := F
          obtain ⟨c0, c1, c2⟩ := lowFree_spec hf
          have wf : WF (v.fork c t.rows) := h4.fork hv ⟨c0, c1, c2⟩
          obtain ⟨w', q1, q2, _⟩ := S.setS hob f1 (by rw [f2, h3]) wf f3
          exact hk w' H' _ q1 (.int _) q2
    · exact hp.elim
  · exact hp.elim
end
section
variable {μ : Mu} {x : Nat} {v : Sv} {p c : Int} {rows : List (Int × Int)}
theorem for_ok (hp : lk v.tabs p = some rows) (hc : lowFree (v.tabs.map (·.1)) v.P = some c) : forM x v [.int p] μ = .ok (.int c) (μ.put x (.sys (v.fork c rows))) := by
  unfold forM byP
  simp only [sca, if_true, hp, hc]
end

/-! ### calls by keywords -/
section
variable {K : PySem.W.Frag} {mg : Str → Option Value}
end

/-! ### same, at the law's level -/
section
variable {K : PySem.W.Frag}
end
section
variable {μ : Mu} {x : Nat} {v : Sv} {p n p2 n2 : Int} {rows rows2 : List (Int × Int)} {ser ser2 : Int}
end
/-! ### numbers, at the law's level -/
section
variable {K : PySem.W.Frag}
end
section
variable {μ : Mu} {x : Nat} {v : Sv} {p : Int} {rows : List (Int × Int)}
end
section
variable {K : PySem.W.Frag} {mg : Str → Option Value}
end

/-! ### calls by keywords in another order -/
section
variable {K : PySem.W.Frag} {mg : Str → Option Value}
end

/-! ### is_reached, is_sealed, at the law's level -/
def setOf (v : Sv) (p n lab : Int) (k : Int → Ev → R Val) : R Val := match lk v.tabs p with
  | some rows => match lk rows n with
    | some ser => if nameAt v ser = (p, n) then match lk v.ths ser with
        | some (.set es _) => match es.find? fun e => decide (e.lab = lab) with
          | some e => k ser e
          | none => .no
        | _ => .no
      else .no
    | none => .no
  | none => .no
def rchM : MSy := fun _ v xs μ => match xs with
  | [.tup [.int p, .int n], .int lab] => setOf v p n lab fun ser e => .ok (.bl (reachV v ser e.num e.ser)) μ
  | _ => .no
def selM : MSy := fun _ v xs μ => match xs with
  | [.tup [.int p, .int n], .int lab] => setOf v p n lab fun ser e => .ok (.bl (sealV v ser e.ser)) μ
  | _ => .no
section
variable {K : PySem.W.Frag}
theorem fLab_v {es : List En} {lab : Int} {e : Ev} (h : (es.map En.v).find? (fun e => decide (e.lab = lab)) = some e) : ∃ e', fLab es lab = some e' ∧ e'.v = e := by
  rw [List.find?_map] at h
  obtain ⟨e', h1, h2⟩ := Option.map_eq_some_iff.mp h
  exact ⟨e', h1, h2⟩
theorem setOf_ok {E : XK} {w : Wt} {μ : Mu} {H : Hp} {n : Nat} {v : Sv} {p m lab : Int} {a : Addr} {k : Int → Ev → R Val} {Q : VK} {G : Prop} (S : Sim K w μ H) (hob : μ.ob n = some (.sys v)) (hq : SqT K H a [.int p, .int m])
    (h : Post K (relE K) E w μ.nx H Q (setOf v p m lab k)) (hk : ∀ ser e, SyAt K H (w.sy n) → WF0 (w.sy n).v → FE K H (w.sy n) a lab ser e → (w.sy n).v = v → Post K (relE K) E w μ.nx H Q (k ser e.v) → G) : G := by
  obtain ⟨h1, h2, h3, h4⟩ := S.ok _ _ hob
  unfold setOf at h
  split at h
  · rename_i rows hp
    split at h
    · rename_i ser hn
      split at h
      · rename_i hnm
        split at h
        · rename_i es row hth
          split at h
          · rename_i e he
            rw [← h3, Sy.tabs_v] at hp
            obtain ⟨t, ht, rfl⟩ := Option.map_eq_some_iff.mp hp
            rw [← h3, Sy.ths_v] at hth
            obtain ⟨th, htt, htg⟩ := Option.map_eq_some_iff.mp hth
            cases hg : th.tg with
            | src dx u f => rw [hg] at htg; cases htg
            | set dx L R es' row' =>
              rw [hg] at htg
              cases htg
              obtain ⟨e', f1, f2⟩ := fLab_v he
              subst f2
              exact hk ser e' h2 (by rw [h3]; exact h4.w0) ⟨p, m, t, th, dx, L, R, es', _, hq, ht, hn, by rw [h3]; exact hnm, htt, hg, f1⟩ h3 h
          · exact h.elim
        · exact h.elim
      · exact h.elim
    · exact h.elim
  · exact h.elim
theorem s_rch : PrimS K (sp_is_reached K) rchM := by
  intro E w μ H n v xs us Q S hob r hp
  have h1 := (S.ok _ _ hob).1
  unfold rchM at hp
  split at hp
  · cases r with
    | cons r1 r2 =>
    cases r2 with
    | cons r2 r3 =>
      cases r3
      cases r2
      cases r1 with
      | tup t1 t2 =>
        cases t2 with
        | cons a1 t2 =>
        cases t2 with
        | cons a2 t2 =>
          cases t2
          cases a1
          cases a2
          refine setOf_ok S hob t1 hp fun ser e hS hw hf hv q => ⟨w.sy n, _, _, ser, e, by rw [h1], hS, hw, hf, fun H' sm => ?_⟩
          obtain ⟨S1, g1⟩ := S.same sm
          rw [hv]
          exact q w H' _ S1 (.bl _) g1
  · exact hp.elim
theorem s_sel : PrimS K (sp_is_sealed K) selM := by
  intro E w μ H n v xs us Q S hob r hp
  have h1 := (S.ok _ _ hob).1
  unfold selM at hp
  split at hp
  · cases r with
    | cons r1 r2 =>
    cases r2 with
    | cons r2 r3 =>
      cases r3
      cases r2
      cases r1 with
      | tup t1 t2 =>
        cases t2 with
        | cons a1 t2 =>
        cases t2 with
        | cons a2 t2 =>
          cases t2
          cases a1
          cases a2
          refine setOf_ok S hob t1 hp fun ser e hS hw hf hv q => ⟨w.sy n, _, _, ser, e, by rw [h1], hS, hw, hf, fun H' sm => ?_⟩
          obtain ⟨S1, g1⟩ := S.same sm
          rw [hv]
          exact q w H' _ S1 (.bl _) g1
  · exact hp.elim
end
section
variable {μ : Mu} {x : Nat} {v : Sv} {p n lab ser : Int} {rows : List (Int × Int)} {es : List Ev} {row : List Int} {e : Ev}
theorem rch_ok (hp : lk v.tabs p = some rows) (hn : lk rows n = some ser) (hm : nameAt v ser = (p, n)) (hs : lk v.ths ser = some (.set es row)) (he : es.find? (fun e => decide (e.lab = lab)) = some e) : rchM x v [.tup [.int p, .int n], .int lab] μ = .ok (.bl (reachV v ser e.num e.ser)) μ := by
  unfold rchM setOf
  simp only [hp, hn, hm, hs, he, if_true]
theorem sel_ok (hp : lk v.tabs p = some rows) (hn : lk rows n = some ser) (hm : nameAt v ser = (p, n)) (hs : lk v.ths ser = some (.set es row)) (he : es.find? (fun e => decide (e.lab = lab)) = some e) : selM x v [.tup [.int p, .int n], .int lab] μ = .ok (.bl (sealV v ser e.ser)) μ := by
  unfold selM setOf
  simp only [hp, hn, hm, hs, he, if_true]
end

def m__law_bag_1 : MS :=
    sSet 3 (mOp modM (mFn intM (mCons (mOp addM (mOp addM (mOp addM (mOp mulM (mV 3) (mC (.int 42061))) (mOp modM (mFn intM (mCons (mV 5) (mNil))) (mC (.int 2147483549)))) (mOp mulM (mC (.int 97)) (mV 4))) (mC (.int 11))) (mNil))) (mC (.int 2147483563)))
def m__law_bag : MS :=
    sSeq (sSet 2 (mIf (mTest (mOp ltM (mV 1) (mFn lenM (mCons (mV 0) (mNil))))) (mOp getM (mV 0) (mV 1)) (mC (.int 0))))
    (sSeq (sSet 3 (mOp addM (mOp mulM (mC (.int 740)) (mV 1)) (mC (.int 117))))
    (sSeq (sFor (iEnm (mCons (mSl (mV 0) (mP0) (mP (mC (.int 60)))) (mNil))) (tgT [4, 5]) (m__law_bag_1))
    (sRet (mLst (mCons (mIf (mTest (mOp geM (mFn absM (mCons (mV 2) (mNil))) (mOp powM (mC (.int 10)) (mC (.int 18))))) (mFn absM (mCons (mV 2) (mNil))) (mC (.int 0))) (mCons (mV 3) (mNil)))))))
def d__law_bag : List Val → Mu → R Val := runM 2 6 m__law_bag
section
variable {P : Program} {w : World} {K : PySem.W.Frag} {mg : Str → Option Value} {base : Heap}
theorem sm__law_bag : FnScope ["_law_script", "_law_at", "_law_number", "_law_mixed", "_law_spot", "_law_each"] ["_law_script", "_law_at"] (defScope s__law_bag) := ⟨rfl, rfl, rfl, by decide +kernel, rfl, by decide +kernel, by decide +kernel⟩
theorem bm__law_bag (T : Tx K mg) : Binds K (fdAt K (gA "_law_bag" K)) ["_law_script", "_law_at"] [] := FunD.bindsN T.f__law_bag fun _ _ _ _ _ _ us hl => match us, hl with | [_, _], _ => rfl
theorem okm__law_bag (T : Tx K mg) : FnG P w K mg base CX0 1 (gA "_law_bag" K) (fdAt K (gA "_law_bag" K)) ["_law_script", "_law_at"] (spM K 2 d__law_bag) := by
  refine okM T.f__law_bag sm__law_bag rfl rfl fun cdv A outer s H hg hr => ?_
  have hu := hr.units
  have hu1 := hu_of hr
  have hu2 := hr.units1
  exact pmss_cons (pms_set (i := 2) sm__law_bag.nd rfl (by first | exact Or.inl rfl | exact Or.inr rfl) (pm_ifExp (pmt_cmp c_lt (pm_var (pv 1)) (pm_callB call_len p_len (by rfl) T.free_len PySem.boot_len (pma_cons (pm_var (pv 0)) (pma_nil)))) (pm_ix (pm_var (pv 0)) (pm_var (pv 1))) (pm_int)))
      (pmss_cons (pms_set (i := 3) sm__law_bag.nd rfl (by first | exact Or.inl rfl | exact Or.inr rfl) (pm_bin b_add (pm_bin b_mul (pm_int) (pm_var (pv 1))) (pm_int)))
      (pmss_cons (pms_for PassesOwn.never rfl (pmi_enm (by rfl) T.free_enumerate (pma_cons (pm_slice (pm_var (pv 0)) (pmo_none) (pmo_some (pm_int))) (pma_nil))) (pmg_tup rfl (pmgs_cons (i := 4) sm__law_bag.nd rfl (by first | exact Or.inl rfl | exact Or.inr rfl) (pmgs_cons (i := 5) sm__law_bag.nd rfl (by first | exact Or.inl rfl | exact Or.inr rfl) (pmgs_nil)))) (pmss_one (pms_set (i := 3) sm__law_bag.nd rfl (by first | exact Or.inl rfl | exact Or.inr rfl) (pm_bin b_mod (pm_callTy call_int1 p_int (by rfl) T.free_int (by decide +kernel) (pma_cons (pm_bin b_add (pm_bin b_add (pm_bin b_add (pm_bin b_mul (pm_var (pv 3)) (pm_int)) (pm_bin b_mod (pm_callTy call_int1 p_int (by rfl) T.free_int (by decide +kernel) (pma_cons (pm_var (pv 5)) (pma_nil))) (pm_int))) (pm_bin b_mul (pm_int) (pm_var (pv 4)))) (pm_int)) (pma_nil))) (pm_int)))))
      (pmss_one (pms_ret (pm_lst (pma_cons (pm_ifExp (pmt_cmp c_ge (pm_callB call_abs p_abs (by rfl) T.free_abs (by decide +kernel) (pma_cons (pm_var (pv 2)) (pma_nil))) (pm_bin b_pow (pm_int) (pm_int))) (pm_callB call_abs p_abs (by rfl) T.free_abs (by decide +kernel) (pma_cons (pm_var (pv 2)) (pma_nil))) (pm_int)) (pma_cons (pm_var (pv 3)) (pma_nil))))))))
end
def m__law_take : MS :=
    sSeq (sIf (mTest (mOp gtM (mOp getM (mV 0) (mC (.int 0))) (mC (.int 0)))) (sSeq (sSet 2 (mOp modM (mFn intM (mCons (mOp getM (mV 0) (mC (.int 0))) (mNil))) (mV 1)))
    (sSeq (sSto stoM (mV 0) (mC (.int 0)) (mOp fdivM (mOp getM (mV 0) (mC (.int 0))) (mV 1)))
    (sRet (mV 2)))) (sNil))
    (sSeq (sSto stoM (mV 0) (mC (.int 1)) (mOp modM (mFn intM (mCons (mOp addM (mOp mulM (mOp getM (mV 0) (mC (.int 1))) (mC (.int 40093))) (mC (.int 7133))) (mNil))) (mC (.int 2147483587))))
    (sRet (mOp modM (mOp fdivM (mOp modM (mFn intM (mCons (mOp mulM (mOp fdivM (mOp getM (mV 0) (mC (.int 1))) (mC (.int 17))) (mC (.int 60169))) (mNil))) (mC (.int 2147483629))) (mC (.int 64))) (mV 1))))
def d__law_take : List Val → Mu → R Val := runM 2 3 m__law_take
section
variable {P : Program} {w : World} {K : PySem.W.Frag} {mg : Str → Option Value} {base : Heap}
theorem sm__law_take : FnScope ["_law_bag_here", "_law_many", "_law_digit"] ["_law_bag_here", "_law_many"] (defScope s__law_take) := ⟨rfl, rfl, rfl, by decide +kernel, rfl, by decide +kernel, by decide +kernel⟩
theorem bm__law_take (T : Tx K mg) : Binds K (fdAt K (gA "_law_take" K)) ["_law_bag_here", "_law_many"] [] := FunD.bindsN T.f__law_take fun _ _ _ _ _ _ us hl => match us, hl with | [_, _], _ => rfl
theorem okm__law_take (T : Tx K mg) : FnG P w K mg base CX0 1 (gA "_law_take" K) (fdAt K (gA "_law_take" K)) ["_law_bag_here", "_law_many"] (spM K 2 d__law_take) := by
  refine okM T.f__law_take sm__law_take rfl rfl fun cdv A outer s H hg hr => ?_
  have hu := hr.units
  have hu1 := hu_of hr
  have hu2 := hr.units1
  exact pmss_cons (pms_if (pmt_cmp c_gt (pm_ix (pm_var (pv 0)) (pm_int)) (pm_int)) (pmss_cons (pms_set (i := 2) sm__law_take.nd rfl (by first | exact Or.inl rfl | exact Or.inr rfl) (pm_bin b_mod (pm_callTy call_int1 p_int (by rfl) T.free_int (by decide +kernel) (pma_cons (pm_ix (pm_var (pv 0)) (pm_int)) (pma_nil))) (pm_var (pv 1))))
      (pmss_cons (pms_sto (pm_bin b_fdiv (pm_ix (pm_var (pv 0)) (pm_int)) (pm_var (pv 1))) (pm_var (pv 0)) (pm_int))
      (pmss_one (pms_ret (pm_var (pv 2)))))) (pmss_nil))
      (pmss_cons (pms_sto (pm_bin b_mod (pm_callTy call_int1 p_int (by rfl) T.free_int (by decide +kernel) (pma_cons (pm_bin b_add (pm_bin b_mul (pm_ix (pm_var (pv 0)) (pm_int)) (pm_int)) (pm_int)) (pma_nil))) (pm_int)) (pm_var (pv 0)) (pm_int))
      (pmss_one (pms_ret (pm_bin b_mod (pm_bin b_fdiv (pm_bin b_mod (pm_callTy call_int1 p_int (by rfl) T.free_int (by decide +kernel) (pma_cons (pm_bin b_mul (pm_bin b_fdiv (pm_ix (pm_var (pv 0)) (pm_int)) (pm_int)) (pm_int)) (pma_nil))) (pm_int)) (pm_int)) (pm_var (pv 1))))))
end
def m__law_of : MS :=
    sRet (mOp getM (mV 1) (mCall 2 d__law_take (mCons (mV 0) (mCons (mFn lenM (mCons (mV 1) (mNil))) (mNil)))))
def d__law_of : List Val → Mu → R Val := runM 2 2 m__law_of
section
variable {P : Program} {w : World} {K : PySem.W.Frag} {mg : Str → Option Value} {base : Heap}
theorem sm__law_of : FnScope ["_law_bag_here", "_law_some"] ["_law_bag_here", "_law_some"] (defScope s__law_of) := ⟨rfl, rfl, rfl, by decide +kernel, rfl, by decide +kernel, by decide +kernel⟩
theorem bm__law_of (T : Tx K mg) : Binds K (fdAt K (gA "_law_of" K)) ["_law_bag_here", "_law_some"] [] := FunD.bindsN T.f__law_of fun _ _ _ _ _ _ us hl => match us, hl with | [_, _], _ => rfl
theorem okm__law_of (T : Tx K mg) : FnG P w K mg base CX0 2 (gA "_law_of" K) (fdAt K (gA "_law_of" K)) ["_law_bag_here", "_law_some"] (spM K 2 d__law_of) := by
  refine okM T.f__law_of sm__law_of rfl rfl fun cdv A outer s H hg hr => ?_
  have hu := hr.units
  have hu1 := hu_of hr
  have hu2 := hr.units1
  exact pmss_one (pms_ret (pm_ix (pm_var (pv 1)) (pm_call (okm__law_take T) hg (hr.mono (by decide)) (by rfl) T.g__law_take T.f__law_take.kp (bm__law_take T) (pma_cons (pm_var (pv 0)) (pma_cons (pm_callB call_len p_len (by rfl) T.free_len PySem.boot_len (pma_cons (pm_var (pv 1)) (pma_nil))) (pma_nil))))))
end
def m__law_due_1 : MS :=
    sExpr (mBm extM (mV 2) (mCons (mListVals (mOp dgetM (mV 0) (mV 3))) (mNil)))
def m__law_due_2 : MS :=
    sLk 0 (sSet 4 (mLc (iKey 0) [3] (tgN 3) (mAnd (mInVals (mC (.str "set")) (mOp dgetM (mV 0) (mV 3))) (mInVals (mC (.str "source")) (mOp dgetM (mV 0) (mV 3)))) (mV 3)))
def m__law_due_3 : MS :=
    sSet 5 (mLc (iSeq (mV 4)) [3] (tgN 3) (mTest (mOp eqM (mDm getDM (mOp dgetM (mV 0) (mV 3)) (mV 1)) (mC (.str "source")))) (mV 3))
def m__law_due_4 : MS :=
    sRet (mLst (mCons (mAndT (mOp inM (mC (.str "set")) (mV 2)) (mOp inM (mC (.str "source")) (mV 2))) (mCons (mOp neM (mV 5) (mLst (mNil))) (mCons (mOp eqM (mV 4) (mLst (mNil))) (mNil)))))
def m__law_due : MS :=
    sSeq (sSet 2 (mLst (mNil)))
    (sSeq (sLk 0 (sFor (iKey 0) (tgN 3) (m__law_due_1)))
    (sSeq (m__law_due_2)
    (sSeq (m__law_due_3)
    (m__law_due_4))))
def d__law_due : List Val → Mu → R Val := runM 2 6 m__law_due
section
variable {P : Program} {w : World} {K : PySem.W.Frag} {mg : Str → Option Value} {base : Heap}
theorem sm__law_due : FnScope ["_law_tables", "_law_n", "_law_held", "_law_p", "_law_both", "_law_reached"] ["_law_tables", "_law_n"] (defScope s__law_due) := ⟨rfl, rfl, rfl, by decide +kernel, rfl, by decide +kernel, by decide +kernel⟩
theorem bm__law_due (T : Tx K mg) : Binds K (fdAt K (gA "_law_due" K)) ["_law_tables", "_law_n"] [] := FunD.bindsN T.f__law_due fun _ _ _ _ _ _ us hl => match us, hl with | [_, _], _ => rfl
theorem okm__law_due (T : Tx K mg) : FnG P w K mg base CX0 1 (gA "_law_due" K) (fdAt K (gA "_law_due" K)) ["_law_tables", "_law_n"] (spM K 2 d__law_due) := by
  refine okM T.f__law_due sm__law_due rfl rfl fun cdv A outer s H hg hr => ?_
  have hu := hr.units
  have hu1 := hu_of hr
  have hu2 := hr.units1
  exact pmss_cons (pms_set (i := 2) sm__law_due.nd rfl (by first | exact Or.inl rfl | exact Or.inr rfl) (pm_lst (pma_nil)))
      (pmss_cons (pms_lk (i := 0) (pms_for PassesOwn.never rfl (pmi_key (pv 0)) (pmg_name (i := 3) sm__law_due.nd rfl (by first | exact Or.inl rfl | exact Or.inr rfl)) (pmss_one (pms_expr (pm_bmL PySem.F.slot_list_extend PySem.F.type_list_extend mt_extend p_extend (pm_var (pv 2)) (pma_cons (pm_listVals rfl (pm_dget hu1 (pm_var (pv 0)) (pm_var (pv 3))) (by rfl) T.free_list (by rfl)) (pma_nil)))))))
      (pmss_cons (pms_lk (i := 0) (pms_setLc (i := 4) (own := [("_law_p", 3)]) rfl sm__law_due.nd rfl rfl (sw_true rfl rfl rfl (by decide +kernel)) (pmi_key (pv 0)) (blkOk_by (N := ["_law_tables", "_law_n", "_law_held", "_law_p", "_law_both", "_law_reached"]) (sc := defScope s__law_due) (by decide +kernel)) (fun _ _ _ _ _ => pmg_name (i := 3) sm__law_due.nd rfl (by first | exact Or.inl rfl | exact Or.inr rfl)) (fun _ _ _ _ _ => pmts_one (PMW.t (pmw_and (pmt_inVals rfl (pm_str) (pm_dget hu1 (pm_var (pv 0)) (pm_var (pv 3)))) (pmw_and1 (pmt_inVals rfl (pm_str) (pm_dget hu1 (pm_var (pv 0)) (pm_var (pv 3)))))))) (fun _ _ _ _ _ => pm_var (pv 3))))
      (pmss_cons (pms_setLc (i := 5) (own := [("_law_p", 3)]) rfl sm__law_due.nd rfl rfl (sw_true rfl rfl rfl (by decide +kernel)) (pmi_seq (pm_var (pv 4))) (blkOk_by (N := ["_law_tables", "_law_n", "_law_held", "_law_p", "_law_both", "_law_reached"]) (sc := defScope s__law_due) (by decide +kernel)) (fun _ _ _ _ _ => pmg_name (i := 3) sm__law_due.nd rfl (by first | exact Or.inl rfl | exact Or.inr rfl)) (fun _ _ _ _ _ => pmts_one (pmt_cmp (c_eq hu) (pm_dget1 hu1 (pm_dget hu1 (pm_var (pv 0)) (pm_var (pv 3))) (pm_var (pv 1))) (pm_str))) (fun _ _ _ _ _ => pm_var (pv 3)))
      (pmss_one (pms_ret (pm_lst (pma_cons (pm_andT (pm_cmp (c_in hu2) (pm_str) (pm_var (pv 2))) (pm_one (pm_cmp (c_in hu2) (pm_str) (pm_var (pv 2))))) (pma_cons (pm_cmp (c_ne hu) (pm_var (pv 5)) (pm_lst (pma_nil))) (pma_cons (pm_cmp (c_eq hu) (pm_var (pv 4)) (pm_lst (pma_nil))) (pma_nil))))))))))
end
def m__law_found_1 : MS :=
    sSet 2 (mLc (iSeq (mMeth (regM) [] (mV 0) mNil)) [3] (tgN 3) (mTest (mOp eqM (mOp getM (mV 3) (mC (.int 1))) (mV 1))) (mV 3))
def m__law_found_2 : MS :=
    sIf (mTest (mOp eqM (mV 2) (mLst (mNil)))) (sRet (mLst (mCons (mC (.bl false)) (mCons (mC (.bl false)) (mCons (mC (.bl true)) (mNil)))))) (sNil)
def m__law_found_3 : MS :=
    sRet (mLst (mCons (mC (.bl true)) (mCons (mFnS rchM (mCons (mV 0) (mCons (mOp getM (mOp getM (mV 2) (mC (.int 0))) (mC (.int 0))) (mCons (mV 1) (mNil))))) (mCons (mFnS selM (mCons (mV 0) (mCons (mOp getM (mOp getM (mV 2) (mC (.int 0))) (mC (.int 0))) (mCons (mV 1) (mNil))))) (mNil)))))
def m__law_found : MS :=
    sSeq (m__law_found_1)
    (sSeq (m__law_found_2)
    (m__law_found_3))
def d__law_found : List Val → Mu → R Val := runM 2 4 m__law_found
section
variable {P : Program} {w : World} {K : PySem.W.Frag} {mg : Str → Option Value} {base : Heap}
theorem sm__law_found : FnScope ["_law_box", "_law_label", "_law_rows", "_law_row"] ["_law_box", "_law_label"] (defScope s__law_found) := ⟨rfl, rfl, rfl, by decide +kernel, rfl, by decide +kernel, by decide +kernel⟩
theorem bm__law_found (T : Tx K mg) : Binds K (fdAt K (gA "_law_found" K)) ["_law_box", "_law_label"] [] := FunD.bindsN T.f__law_found fun _ _ _ _ _ _ us hl => match us, hl with | [_, _], _ => rfl
theorem okm__law_found (T : Tx K mg) : FnG P w K mg base CX0 10 (gA "_law_found" K) (fdAt K (gA "_law_found" K)) ["_law_box", "_law_label"] (spM K 2 d__law_found) := by
  refine okM T.f__law_found sm__law_found rfl rfl fun cdv A outer s H hg hr => ?_
  have hu := hr.units
  have hu1 := hu_of hr
  have hu2 := hr.units1
  exact pmss_cons (pms_setLc (i := 2) (own := [("_law_row", 3)]) rfl sm__law_found.nd rfl rfl (sw_true rfl rfl rfl (by decide +kernel)) (pmi_seq (pm_meth0 (pm_var (pv 0)) T.c_System T.m_System_registrations (ok_registrations T) (hr.mono (by decide)) (b_registrations T) pass0 s_reg)) (blkOk_by (N := ["_law_box", "_law_label", "_law_rows", "_law_row"]) (sc := defScope s__law_found) (by decide +kernel)) (fun _ _ _ _ _ => pmg_name (i := 3) sm__law_found.nd rfl (by first | exact Or.inl rfl | exact Or.inr rfl)) (fun _ _ _ _ _ => pmts_one (pmt_cmp (c_eq hu) (pm_ix (pm_var (pv 3)) (pm_int)) (pm_var (pv 1)))) (fun _ _ _ _ _ => pm_var (pv 3)))
      (pmss_cons (pms_if (pmt_cmp (c_eq hu) (pm_var (pv 2)) (pm_lst (pma_nil))) (pmss_one (pms_ret (pm_lst (pma_cons (pm_bl) (pma_cons (pm_bl) (pma_cons (pm_bl) (pma_nil))))))) (pmss_nil))
      (pmss_one (pms_ret (pm_lst (pma_cons (pm_bl) (pma_cons (pm_fnS (ok_is_reached T) (hr.mono (by decide)) (by rfl) T.g_is_reached T.f_is_reached.kp (b_is_reached T) pass0 s_rch (pma_cons (pm_var (pv 0)) (pma_cons (pm_ix (pm_ix (pm_var (pv 2)) (pm_int)) (pm_int)) (pma_cons (pm_var (pv 1)) (pma_nil))))) (pma_cons (pm_fnS (ok_is_sealed T) (hr.mono (by decide)) (by rfl) T.g_is_sealed T.f_is_sealed.kp (b_is_sealed T) pass0 s_sel (pma_cons (pm_var (pv 0)) (pma_cons (pm_ix (pm_ix (pm_var (pv 2)) (pm_int)) (pm_int)) (pma_cons (pm_var (pv 1)) (pma_nil))))) (pma_nil))))))))
end
def m__law_right_1 : MS :=
    sPar 4 5 (mCons (mCall 2 d__law_due (mCons (mV 1) (mCons (mV 2) (mNil)))) (mCons (mCall 2 d__law_found (mCons (mV 0) (mCons (mV 3) (mNil)))) (mNil)))
def m__law_right_2 : MS :=
    sRet (mIf (mTest (mOp getM (mV 4) (mC (.int 0)))) (mOp eqM (mV 5) (mV 4)) (mNotV (mOp getM (mV 5) (mC (.int 0)))))
def m__law_right : MS :=
    sSeq (m__law_right_1)
    (m__law_right_2)
def d__law_right : List Val → Mu → R Val := runM 4 6 m__law_right
section
variable {P : Program} {w : World} {K : PySem.W.Frag} {mg : Str → Option Value} {base : Heap}
theorem sm__law_right : FnScope ["_law_box", "_law_tables", "_law_n", "_law_label", "_law_due_here", "_law_found_here"] ["_law_box", "_law_tables", "_law_n", "_law_label"] (defScope s__law_right) := ⟨rfl, rfl, rfl, by decide +kernel, rfl, by decide +kernel, by decide +kernel⟩
theorem bm__law_right (T : Tx K mg) : Binds K (fdAt K (gA "_law_right" K)) ["_law_box", "_law_tables", "_law_n", "_law_label"] [] := FunD.bindsN T.f__law_right fun _ _ _ _ _ _ us hl => match us, hl with | [_, _, _, _], _ => rfl
theorem okm__law_right (T : Tx K mg) : FnG P w K mg base CX0 11 (gA "_law_right" K) (fdAt K (gA "_law_right" K)) ["_law_box", "_law_tables", "_law_n", "_law_label"] (spM K 4 d__law_right) := by
  refine okM T.f__law_right sm__law_right rfl rfl fun cdv A outer s H hg hr => ?_
  have hu := hr.units
  have hu1 := hu_of hr
  have hu2 := hr.units1
  exact pmss_cons (pms_par (i := 4) (j := 5) rfl sm__law_right.nd rfl rfl (by decide) rfl rfl (pma_cons (pm_call (okm__law_due T) hg (hr.mono (by decide)) (by rfl) T.g__law_due T.f__law_due.kp (bm__law_due T) (pma_cons (pm_var (pv 1)) (pma_cons (pm_var (pv 2)) (pma_nil)))) (pma_cons (pm_call (okm__law_found T) hg (hr.mono (by decide)) (by rfl) T.g__law_found T.f__law_found.kp (bm__law_found T) (pma_cons (pm_var (pv 0)) (pma_cons (pm_var (pv 3)) (pma_nil)))) (pma_nil))) rfl)
      (pmss_one (pms_ret (pm_ifExp (pmt_val (pm_ix (pm_var (pv 4)) (pm_int))) (pm_cmp (c_eq hu) (pm_var (pv 5)) (pm_var (pv 4))) (pm_not (pm_ix (pm_var (pv 5)) (pm_int))))))
end

def m_law_1 : MS :=
    sPar 4 5 (mCons (mOp addM (mC (.int 4)) (mCall 2 d__law_take (mCons (mV 2) (mCons (mC (.int 3)) (mNil))))) (mCons (mCall 2 d__law_take (mCons (mV 2) (mCons (mC (.int 1000)) (mNil)))) (mNil)))
def m_law_2 : MS :=
    sSet 6 (mMakeK makM 2 (fun zs => zs ++ []) (mCons (mC (.int 2)) (mCons (mV 4) (mNil))))
def m_law_3 : MS :=
    sSet 7 (mLst (mCons (mMeth (newM (.set [] [])) ([]) (mV 6) (mCons (mC (.int 0)) (mNil))) (mCons (mMeth (newM (.src 0 false)) ([]) (mV 6) (mCons (mC (.int 0)) (mNil))) (mCons (mMeth (newM (.src 0 false)) ([]) (mV 6) (mCons (mC (.int 0)) (mNil))) (mNil)))))
def m_law_4 : MS :=
    sSet 8 (mDisp [(mC (.int 0), mDisp [(mC (.int 0), mC (.str "set")), (mC (.int 1), mC (.str "source")), (mC (.int 2), mC (.str "other"))])])
def m_law_5 : MS :=
    sExpr (mMethK (addM') 4 1 (fun xs zs => xs ++ (zs ++ [])) (mV 6) (mCons (mC (.int 0)) (mCons (mOp getM (mV 7) (mC (.int 0))) (mCons (mOp getM (mV 7) (mC (.int 1))) (mCons (mV 5) (mNil))))) (mCons (mCall 2 d__law_of (mCons (mV 2) (mCons (mLst (mCons (mC (.str "level")) (mCons (mC (.str "edge")) (mCons (mC (.str "once")) (mNil))))) (mNil)))) (mNil)))
def m_law_6 : MS :=
    sExpr (mMeth (copM) ([]) (mV 6) (mCons (mC (.int 0)) (mCons (mV 9) (mCons (mC (.int 3)) (mNil)))))
def m_law_7 : MS :=
    sSet 8 (mDisp [(mC (.int 0), mDisp [(mC (.int 0), mC (.str "set")), (mC (.int 1), mC (.str "source")), (mC (.int 2), mC (.str "other")), (mC (.int 3), mOp getM (mLst (mCons (mC (.str "set")) (mCons (mC (.str "source")) (mNil)))) (mV 9))])])
def m_law_8 : MS :=
    sIf (mTest (mOp eqM (mCall 2 d__law_take (mCons (mV 2) (mCons (mC (.int 2)) (mNil)))) (mC (.int 0)))) (sSeq (sSet 9 (mCall 2 d__law_take (mCons (mV 2) (mCons (mC (.int 2)) (mNil)))))
    (sSeq (m_law_6)
    (m_law_7))) (sNil)
def m_law_9 : MS :=
    sSet 8 (mDisp [(mC (.int 0), mOp dgetM (mV 8) (mC (.int 0))), (mC (.int 1), mFn dictDM (mCons (mOp dgetM (mV 8) (mC (.int 0))) (mNil)))])
def m_law_10 : MS :=
    sPar3 11 12 13 (mCons (mCall 2 d__law_take (mCons (mV 2) (mCons (mC (.int 2)) (mNil)))) (mCons (mCall 2 d__law_take (mCons (mV 2) (mCons (mV 4) (mNil)))) (mCons (mCall 2 d__law_take (mCons (mV 2) (mCons (mV 4) (mNil)))) (mNil))))
def m_law_11 : MS :=
    sExpr (mMeth (copM) ([]) (mV 6) (mCons (mV 11) (mCons (mV 12) (mCons (mV 13) (mNil)))))
def m_law_12 : MS :=
    sIf (mAnd (mTest (mOp eqM (mCall 2 d__law_take (mCons (mV 2) (mCons (mC (.int 2)) (mNil)))) (mC (.int 0)))) (mTest (mOp inM (mV 12) (mV 14)))) (sSeq (sExpr (mMeth (cloM) ([]) (mV 6) (mCons (mV 11) (mCons (mV 12) (mNil)))))
    (sExpr (mDm popDM (mV 14) (mV 12)))) (sIf (mTest (mOp inM (mV 12) (mV 14))) (sSeq (m_law_11)
    (sSto dstoM (mV 14) (mV 13) (mOp dgetM (mV 14) (mV 12)))) (sNil))
def m_law_13 : MS :=
    sIf (mNot (mTest (mCall 4 d__law_right (mCons (mV 6) (mCons (mV 8) (mCons (mC (.int 1)) (mCons (mV 5) (mNil)))))))) (sRet (mC (.bl false))) (sNil)
def m_law_14 : MS :=
    sSeq (m_law_10)
    (sSeq (sSet 14 (mOp dgetM (mV 8) (mV 11)))
    (sSeq (m_law_12)
    (m_law_13)))
def m_law_15 : MS :=
    sFor (iRng1 (mCons (mCall 2 d__law_take (mCons (mV 2) (mCons (mC (.int 9)) (mNil)))) (mNil))) (tgN 10) (m_law_14)
def m_law_16 : MS :=
    sSeq (m_law_1)
    (sSeq (m_law_2)
    (sSeq (m_law_3)
    (sSeq (m_law_4)
    (sSeq (m_law_5)
    (sSeq (m_law_8)
    (sSeq (sExpr (mMeth (forM) ([]) (mV 6) (mCons (mC (.int 0)) (mNil))))
    (sSeq (m_law_9)
    (m_law_15))))))))
def m_law_17 : MS :=
    sSeq (sSet 2 (mCall 2 d__law_bag (mCons (mV 0) (mCons (mV 1) (mNil)))))
    (sFor (iRng1 (mCons (mC (.int 3)) (mNil))) (tgN 3) (m_law_16))
def m_law_18 : MS :=
    sFor (iRng1 (mCons (mFn maxM (mCons (mC (.int 2)) (mCons (mFn minM (mCons (mC (.int 5)) (mCons (mFn lenM (mCons (mV 0) (mNil))) (mNil)))) (mNil)))) (mNil))) (tgN 1) (m_law_17)
def m_law : MS :=
    sSeq (m_law_18)
    (sRet (mC (.bl true)))
def d_law : List Val → Mu → R Val := runM 1 15 m_law
section
variable {P : Program} {w : World} {K : PySem.W.Frag} {mg : Str → Option Value} {base : Heap}
theorem sm_law : FnScope ["_law_script", "_law_at", "_law_bag_here", "_law_turn", "_law_size", "_law_label", "_law_box", "_law_spots", "_law_tables", "_law_copied", "_law_more", "_law_p", "_law_n", "_law_to", "_law_here"] ["_law_script"] (defScope s_law) := ⟨rfl, rfl, rfl, by decide +kernel, rfl, by decide +kernel, by decide +kernel⟩
theorem okm_law (T : Tx K mg) : FnG P w K mg base CX0 12 (gA "law" K) (fdAt K (gA "law" K)) ["_law_script"] (spM K 1 d_law) := by
  refine okM T.f_law sm_law rfl rfl fun cdv A outer s H hg hr => ?_
  have hu := hr.units
  have hu1 := hu_of hr
  have hu2 := hr.units1
  exact pmss_cons (pms_for PassesOwn.never rfl (pmi_rng1 (by rfl) T.free_range (pma_cons (pm_callB (call_max2 rfl) p_max (by rfl) T.free_max (by decide +kernel) (pma_cons (pm_int) (pma_cons (pm_callB (call_min2 rfl) p_min (by rfl) T.free_min (by decide +kernel) (pma_cons (pm_int) (pma_cons (pm_callB call_len p_len (by rfl) T.free_len PySem.boot_len (pma_cons (pm_var (pv 0)) (pma_nil))) (pma_nil)))) (pma_nil)))) (pma_nil))) (pmg_name (i := 1) sm_law.nd rfl (by first | exact Or.inl rfl | exact Or.inr rfl)) (pmss_cons (pms_set (i := 2) sm_law.nd rfl (by first | exact Or.inl rfl | exact Or.inr rfl) (pm_call (okm__law_bag T) hg (hr.mono (by decide)) (by rfl) T.g__law_bag T.f__law_bag.kp (bm__law_bag T) (pma_cons (pm_var (pv 0)) (pma_cons (pm_var (pv 1)) (pma_nil)))))
      (pmss_one (pms_for PassesOwn.never rfl (pmi_rng1 (by rfl) T.free_range (pma_cons (pm_int) (pma_nil))) (pmg_name (i := 3) sm_law.nd rfl (by first | exact Or.inl rfl | exact Or.inr rfl)) (pmss_cons (pms_par (i := 4) (j := 5) rfl sm_law.nd rfl rfl (by decide) rfl rfl (pma_cons (pm_bin b_add (pm_int) (pm_call (okm__law_take T) hg (hr.mono (by decide)) (by rfl) T.g__law_take T.f__law_take.kp (bm__law_take T) (pma_cons (pm_var (pv 2)) (pma_cons (pm_int) (pma_nil))))) (pma_cons (pm_call (okm__law_take T) hg (hr.mono (by decide)) (by rfl) T.g__law_take T.f__law_take.kp (bm__law_take T) (pma_cons (pm_var (pv 2)) (pma_cons (pm_int) (pma_nil)))) (pma_nil))) rfl)
      (pmss_cons (pms_set (i := 6) sm_law.nd rfl (by first | exact Or.inl rfl | exact Or.inr rfl) (pm_sysK T (hr.mono (by decide)) (by rfl) passL (ks := ["processes", "numbers"]) (gM := fun zs => zs ++ []) (b_SysPN T).choose_spec (fun ad b H a zs ws r _ => ⟨_, rfl, r.app .nil⟩) (pmk_cons (pm_int) (pmk_cons (pm_var (pv 4)) (pmk_nil)))))
      (pmss_cons (pms_set (i := 7) sm_law.nd rfl (by first | exact Or.inl rfl | exact Or.inr rfl) (pm_lst (pma_cons (pm_meth (dM := []) (pm_var (pv 6)) T.c_System T.m_System_new_set (ok_new_set T) (hr.mono (by decide)) (b_new_set T) .nil passL (s_new (tv := .set [] []) ⟨rfl, rfl⟩) (fun _ _ _ => .nil) (pma_cons (pm_int) (pma_nil))) (pma_cons (pm_meth (dM := []) (pm_var (pv 6)) T.c_System T.m_System_new_source (ok_new_source T) (hr.mono (by decide)) (b_new_source T) .nil passL (s_new (tv := .src 0 false) (show (0 : Int) ≤ 0 by decide)) (fun _ _ _ => .nil) (pma_cons (pm_int) (pma_nil))) (pma_cons (pm_meth (dM := []) (pm_var (pv 6)) T.c_System T.m_System_new_source (ok_new_source T) (hr.mono (by decide)) (b_new_source T) .nil passL (s_new (tv := .src 0 false) (show (0 : Int) ≤ 0 by decide)) (fun _ _ _ => .nil) (pma_cons (pm_int) (pma_nil))) (pma_nil))))))
      (pmss_cons (pms_set (i := 8) sm_law.nd rfl (by first | exact Or.inl rfl | exact Or.inr rfl) (pm_disp (pmp_cons (pm_int) (pm_disp (pmp_cons (pm_int) (pm_str) (pmp_cons (pm_int) (pm_str) (pmp_cons (pm_int) (pm_str) (pmp_nil))))) (pmp_nil))))
      (pmss_cons (pms_expr (pm_methN (n := 4) (ks := ["word"]) (gM := fun xs zs => xs ++ (zs ++ [])) (pm_var (pv 6)) T.c_System T.m_System_add (ok_add T) (hr.mono (by decide)) (b_addW T).choose_spec passL s_add (fun _ _ _ _ _ _ _ _ r1 r2 => ⟨_, rfl, r1.app (r2.app .nil)⟩) (pma_cons (pm_int) (pma_cons (pm_ix (pm_var (pv 7)) (pm_int)) (pma_cons (pm_ix (pm_var (pv 7)) (pm_int)) (pma_cons (pm_var (pv 5)) (pma_nil))))) (pmk_cons (pm_call (okm__law_of T) hg (hr.mono (by decide)) (by rfl) T.g__law_of T.f__law_of.kp (bm__law_of T) (pma_cons (pm_var (pv 2)) (pma_cons (pm_lst (pma_cons (pm_str) (pma_cons (pm_str) (pma_cons (pm_str) (pma_nil))))) (pma_nil)))) (pmk_nil))))
      (pmss_cons (pms_if (pmt_cmp (c_eq hu) (pm_call (okm__law_take T) hg (hr.mono (by decide)) (by rfl) T.g__law_take T.f__law_take.kp (bm__law_take T) (pma_cons (pm_var (pv 2)) (pma_cons (pm_int) (pma_nil)))) (pm_int)) (pmss_cons (pms_set (i := 9) sm_law.nd rfl (by first | exact Or.inl rfl | exact Or.inr rfl) (pm_call (okm__law_take T) hg (hr.mono (by decide)) (by rfl) T.g__law_take T.f__law_take.kp (bm__law_take T) (pma_cons (pm_var (pv 2)) (pma_cons (pm_int) (pma_nil)))))
      (pmss_cons (pms_expr (pm_meth (dM := []) (pm_var (pv 6)) T.c_System T.m_System_copy (ok_copy T) (hr.mono (by decide)) (b_copyTo T).choose_spec.2 (b_copyTo T).choose_spec.1 passL s_cop (fun _ _ _ => .nil) (pma_cons (pm_int) (pma_cons (pm_var (pv 9)) (pma_cons (pm_int) (pma_nil))))))
      (pmss_one (pms_set (i := 8) sm_law.nd rfl (by first | exact Or.inl rfl | exact Or.inr rfl) (pm_disp (pmp_cons (pm_int) (pm_disp (pmp_cons (pm_int) (pm_str) (pmp_cons (pm_int) (pm_str) (pmp_cons (pm_int) (pm_str) (pmp_cons (pm_int) (pm_ix (pm_lst (pma_cons (pm_str) (pma_cons (pm_str) (pma_nil)))) (pm_var (pv 9))) (pmp_nil)))))) (pmp_nil))))))) (pmss_nil))
      (pmss_cons (pms_expr (pm_meth (dM := []) (pm_var (pv 6)) T.c_System T.m_System_fork (ok_fork T) (hr.mono (by decide)) (b_fork T) .nil passL s_for (fun _ _ _ => .nil) (pma_cons (pm_int) (pma_nil))))
      (pmss_cons (pms_set (i := 8) sm_law.nd rfl (by first | exact Or.inl rfl | exact Or.inr rfl) (pm_disp (pmp_cons (pm_int) (pm_dget hu1 (pm_var (pv 8)) (pm_int)) (pmp_cons (pm_int) (pm_callTy call_dictD p_dictD (by rfl) T.free_dict (by decide +kernel) (pma_cons (pm_dget hu1 (pm_var (pv 8)) (pm_int)) (pma_nil))) (pmp_nil)))))
      (pmss_one (pms_for PassesOwn.never rfl (pmi_rng1 (by rfl) T.free_range (pma_cons (pm_call (okm__law_take T) hg (hr.mono (by decide)) (by rfl) T.g__law_take T.f__law_take.kp (bm__law_take T) (pma_cons (pm_var (pv 2)) (pma_cons (pm_int) (pma_nil)))) (pma_nil))) (pmg_name (i := 10) sm_law.nd rfl (by first | exact Or.inl rfl | exact Or.inr rfl)) (pmss_cons (pms_par3 (i := 11) (j := 12) (l := 13) rfl sm_law.nd rfl rfl rfl (by decide) (by decide) (by decide) rfl rfl rfl (pma_cons (pm_call (okm__law_take T) hg (hr.mono (by decide)) (by rfl) T.g__law_take T.f__law_take.kp (bm__law_take T) (pma_cons (pm_var (pv 2)) (pma_cons (pm_int) (pma_nil)))) (pma_cons (pm_call (okm__law_take T) hg (hr.mono (by decide)) (by rfl) T.g__law_take T.f__law_take.kp (bm__law_take T) (pma_cons (pm_var (pv 2)) (pma_cons (pm_var (pv 4)) (pma_nil)))) (pma_cons (pm_call (okm__law_take T) hg (hr.mono (by decide)) (by rfl) T.g__law_take T.f__law_take.kp (bm__law_take T) (pma_cons (pm_var (pv 2)) (pma_cons (pm_var (pv 4)) (pma_nil)))) (pma_nil)))) rfl)
      (pmss_cons (pms_set (i := 14) sm_law.nd rfl (by first | exact Or.inl rfl | exact Or.inr rfl) (pm_dget hu1 (pm_var (pv 8)) (pm_var (pv 11))))
      (pmss_cons (pms_if (PMW.t (pmw_and (pmt_cmp (c_eq hu) (pm_call (okm__law_take T) hg (hr.mono (by decide)) (by rfl) T.g__law_take T.f__law_take.kp (bm__law_take T) (pma_cons (pm_var (pv 2)) (pma_cons (pm_int) (pma_nil)))) (pm_int)) (pmw_and1 (pmt_cmp (c_in hu2) (pm_var (pv 12)) (pm_var (pv 14)))))) (pmss_cons (pms_expr (pm_meth (dM := []) (pm_var (pv 6)) T.c_System T.m_System_close (ok_close T) (hr.mono (by decide)) (b_close T) .nil passL s_clo (fun _ _ _ => .nil) (pma_cons (pm_var (pv 11)) (pma_cons (pm_var (pv 12)) (pma_nil)))))
      (pmss_one (pms_expr (pm_dpop (pm_var (pv 14)) (pm_var (pv 12)))))) (pmss_one (pms_if (pmt_cmp (c_in hu2) (pm_var (pv 12)) (pm_var (pv 14))) (pmss_cons (pms_expr (pm_meth (dM := []) (pm_var (pv 6)) T.c_System T.m_System_copy (ok_copy T) (hr.mono (by decide)) (b_copyTo T).choose_spec.2 (b_copyTo T).choose_spec.1 passL s_cop (fun _ _ _ => .nil) (pma_cons (pm_var (pv 11)) (pma_cons (pm_var (pv 12)) (pma_cons (pm_var (pv 13)) (pma_nil))))))
      (pmss_one (pms_dsto hu1 (pm_dget hu1 (pm_var (pv 14)) (pm_var (pv 12))) (pm_var (pv 14)) (pm_var (pv 13))))) (pmss_nil))))
      (pmss_one (pms_if (pmt_not (pmt_val (pm_call (okm__law_right T) hg (hr.mono (by decide)) (by rfl) T.g__law_right T.f__law_right.kp (bm__law_right T) (pma_cons (pm_var (pv 6)) (pma_cons (pm_var (pv 8)) (pma_cons (pm_int) (pma_cons (pm_var (pv 5)) (pma_nil)))))))) (pmss_one (pms_ret (pm_bl))) (pmss_nil))))))))))))))))))))
      (pmss_one (pms_ret (pm_bl)))
end

/-! ### draws, plainly -/
theorem take_eq {μ : Mu} {b : Nat} (hb : Bag μ b) {n : Int} (h0 : 0 < n) (h1 : n < 1073741824) : ∃ k μ', d__law_take [.loc b, .int n] μ = .ok (.int k) μ' ∧ 0 ≤ k ∧ k < n ∧ Kee [b] μ μ' ∧ Bag μ' b ∧ μ'.nx = μ.nx := by
  obtain ⟨hlt, c, m, hb⟩ := hb
  have i0 : ∀ {x y : Val}, atI [x, y] 0 = some x := rfl
  have i1 : ∀ {x y : Val}, atI [x, y] 1 = some y := rfl
  have j0 : ixN 2 0 = some 0 := rfl
  have j1 : ixN 2 1 = some 1 := rfl
  unfold d__law_take runM m__law_take
  by_cases c0 : 0 < c
  · simp only [mChain, isiM, sDst2, neD0M, Wn.R.bind_ok, Wn.R.bind_no, Wn.R.cut_ok, Wn.R.cut_no, sThen_nx, sThen_rt, sThen_bk, sThen_ct, mC, mV, mNil, mCons, mTup, mLst, mOp, mUn, mFn, mMt, boolM, mTest, mAnd, mOr, mNot, mIf, mBl, mAndV, mOrV, mNotV, mAndT, mOrT, truM, List.isEmpty_cons, List.isEmpty_nil, addM, subM, mulM, modM, fdivM, powM, negM, ltM, leM, gtM, geM, cmpI, isM', isntM, isNon, getM, dgetM, slM, mSl, mP, mP0, lenM, listM, tupleM, minM, maxM, absM, intM, sortedM, mBm, lstOf, appM, popM, extM, idxM, remLM, sNil, sSeq, sSet, sExpr, sRet, sRetN, sIf, sBrk, sCnt, sPar, sPar3, sAsg, tgN, tgT, unp, stoM, dstoM, sSto, Wk.items, iSeq, iRng1, iRng2, iEnm, mCall, mMeth, sysOf, onSys, mMethK, mMake, mMakeK, makM, mYes, mListR1, mListR2, intBM, startV, seqOf, keyOf, List.getElem?_cons_zero, List.getElem?_cons_succ, List.getElem?_nil, List.set_cons_zero, List.set_cons_succ, List.map_cons, List.map_nil, List.length_cons, List.length_nil, List.cons_append, List.nil_append, List.append_nil, List.replicate, Nat.reduceAdd, Nat.reduceSub, Nat.reduceLeDiff, Nat.reduceLT, Nat.reduceEqDiff, Int.reduceLT, Int.reduceLE, Int.reduceNeg, Int.reducePow, ite_true, ite_false, if_true, if_false, reduceIte, Bool.false_eq_true, Bool.true_eq_false, Bool.not_true, Bool.not_false, and_self, and_true, true_and, Mu.put_same, Mu.new_same, Mu.put_nx, Mu.new_nx, Nat.zero_add, Nat.le_refl, Goes_nx, Gets_ok, Rets_nx, Rets_rt, CMul, CDiv, CPow, or_true, true_or, or_self, not_true, not_false_iff, mDm, dctV, popDM, getDM, mDisp, mPrs, kvOf, decide_false, decide_true, Int.reduceToNat, Nat.reducePow, Int.reduceAdd, Int.reduceSub, Int.reduceMul, hb, i0, j0, decide_eq_true c0, h0, h1]
    exact ⟨_, _, rfl, Int.emod_nonneg _ (by omega), Int.emod_lt_of_pos _ h0, Kee.put (by simp), ⟨hlt, _, _, Mu.put_same ..⟩, rfl⟩
  · simp only [mChain, isiM, sDst2, neD0M, Wn.R.bind_ok, Wn.R.bind_no, Wn.R.cut_ok, Wn.R.cut_no, sThen_nx, sThen_rt, sThen_bk, sThen_ct, mC, mV, mNil, mCons, mTup, mLst, mOp, mUn, mFn, mMt, boolM, mTest, mAnd, mOr, mNot, mIf, mBl, mAndV, mOrV, mNotV, mAndT, mOrT, truM, List.isEmpty_cons, List.isEmpty_nil, addM, subM, mulM, modM, fdivM, powM, negM, ltM, leM, gtM, geM, cmpI, isM', isntM, isNon, getM, dgetM, slM, mSl, mP, mP0, lenM, listM, tupleM, minM, maxM, absM, intM, sortedM, mBm, lstOf, appM, popM, extM, idxM, remLM, sNil, sSeq, sSet, sExpr, sRet, sRetN, sIf, sBrk, sCnt, sPar, sPar3, sAsg, tgN, tgT, unp, stoM, dstoM, sSto, Wk.items, iSeq, iRng1, iRng2, iEnm, mCall, mMeth, sysOf, onSys, mMethK, mMake, mMakeK, makM, mYes, mListR1, mListR2, intBM, startV, seqOf, keyOf, List.getElem?_cons_zero, List.getElem?_cons_succ, List.getElem?_nil, List.set_cons_zero, List.set_cons_succ, List.map_cons, List.map_nil, List.length_cons, List.length_nil, List.cons_append, List.nil_append, List.append_nil, List.replicate, Nat.reduceAdd, Nat.reduceSub, Nat.reduceLeDiff, Nat.reduceLT, Nat.reduceEqDiff, Int.reduceLT, Int.reduceLE, Int.reduceNeg, Int.reducePow, ite_true, ite_false, if_true, if_false, reduceIte, Bool.false_eq_true, Bool.true_eq_false, Bool.not_true, Bool.not_false, and_self, and_true, true_and, Mu.put_same, Mu.new_same, Mu.put_nx, Mu.new_nx, Nat.zero_add, Nat.le_refl, Goes_nx, Gets_ok, Rets_nx, Rets_rt, CMul, CDiv, CPow, or_true, true_or, or_self, not_true, not_false_iff, mDm, dctV, popDM, getDM, mDisp, mPrs, kvOf, decide_false, decide_true, Int.reduceToNat, Nat.reducePow, Int.reduceAdd, Int.reduceSub, Int.reduceMul, hb, i0, i1, j1, decide_eq_false c0, h0, h1]
    refine ⟨_, _, rfl, Int.emod_nonneg _ (by omega), Int.emod_lt_of_pos _ h0, Kee.put (by simp), ⟨hlt, _, _, Mu.put_same ..⟩, rfl⟩
theorem of_eq {μ : Mu} {b l : Nat} (hb : Bag μ b) {xs : List Val} (hl : seqOf μ l = some xs) (hll : l < μ.nx) (ne : l ≠ b) (h0 : 0 < xs.length) (h1 : xs.length < 1073741824) : ∃ x μ', d__law_of [.loc b, .loc l] μ = .ok x μ' ∧ x ∈ xs ∧ Kee [b] μ μ' ∧ Bag μ' b ∧ μ'.nx = μ.nx := by
  obtain ⟨k, μ', e, k0, k1, kp, bg, nx⟩ := take_eq hb (n := (xs.length : Nat)) (by omega) (by omega)
  have hl' : seqOf μ' l = some xs := by
    unfold seqOf at hl ⊢
    rw [kp.ob l hll (by simpa using ne)]
    exact hl
  have hlt : k.toNat < xs.length := by omega
  have ha : atI xs k = some xs[k.toNat] := by
    have z := atI_nat (List.getElem?_eq_getElem hlt)
    rw [show ((k.toNat : Nat) : Int) = k by omega] at z
    exact z
  refine ⟨xs[k.toNat], μ', ?_, List.getElem_mem hlt, kp, bg, nx⟩
  unfold seqOf at hl hl'
  unfold d__law_of runM m__law_of
  simp only [mChain, isiM, sDst2, neD0M, Wn.R.bind_ok, Wn.R.bind_no, Wn.R.cut_ok, Wn.R.cut_no, sThen_nx, sThen_rt, sThen_bk, sThen_ct, mC, mV, mNil, mCons, mTup, mLst, mOp, mUn, mFn, mMt, boolM, mTest, mAnd, mOr, mNot, mIf, mBl, mAndV, mOrV, mNotV, mAndT, mOrT, truM, List.isEmpty_cons, List.isEmpty_nil, addM, subM, mulM, modM, fdivM, powM, negM, ltM, leM, gtM, geM, cmpI, isM', isntM, isNon, getM, dgetM, slM, mSl, mP, mP0, lenM, listM, tupleM, minM, maxM, absM, intM, sortedM, mBm, lstOf, appM, popM, extM, idxM, remLM, sNil, sSeq, sSet, sExpr, sRet, sRetN, sIf, sBrk, sCnt, sPar, sPar3, sAsg, tgN, tgT, unp, stoM, dstoM, sSto, Wk.items, iSeq, iRng1, iRng2, iEnm, mCall, mMeth, sysOf, onSys, mMethK, mMake, mMakeK, makM, mYes, mListR1, mListR2, intBM, startV, seqOf, keyOf, List.getElem?_cons_zero, List.getElem?_cons_succ, List.getElem?_nil, List.set_cons_zero, List.set_cons_succ, List.map_cons, List.map_nil, List.length_cons, List.length_nil, List.cons_append, List.nil_append, List.append_nil, List.replicate, Nat.reduceAdd, Nat.reduceSub, Nat.reduceLeDiff, Nat.reduceLT, Nat.reduceEqDiff, Int.reduceLT, Int.reduceLE, Int.reduceNeg, Int.reducePow, ite_true, ite_false, if_true, if_false, reduceIte, Bool.false_eq_true, Bool.true_eq_false, Bool.not_true, Bool.not_false, and_self, and_true, true_and, Mu.put_same, Mu.new_same, Mu.put_nx, Mu.new_nx, Nat.zero_add, Nat.le_refl, Goes_nx, Gets_ok, Rets_nx, Rets_rt, CMul, CDiv, CPow, or_true, true_or, or_self, not_true, not_false_iff, mDm, dctV, popDM, getDM, mDisp, mPrs, kvOf, decide_false, decide_true, Int.reduceToNat, Nat.reducePow, Int.reduceAdd, Int.reduceSub, Int.reduceMul, hl, e, hl', ha]

theorem seqOf_keep {S : List Nat} {μ μ' : Mu} (k : Kee S μ μ') {n : Nat} (hn : n < μ.nx) (q : n ∉ S) : seqOf μ' n = seqOf μ n := by
  unfold seqOf
  rw [k.ob n hn q]
theorem cut_ints (ns : List Int) (lo hi : Option Int) : cutG (ns.map Val.int) lo hi = (cutG ns lo hi).map Val.int := by
  unfold cutG
  rw [List.length_map, List.map_take, List.map_drop]
theorem enm_ints_get {l : List Int} {i : Nat} {v : Val} (h : (enmM (l.map Val.int))[i]? = some v) : ∃ y, v = .tup [.int (i : Nat), .int y] := by
  rw [enmM_get, List.getElem?_map] at h
  cases e : l[i]? with
  | none => rw [e] at h; cases h
  | some y => rw [e] at h; cases h; exact ⟨y, rfl⟩
theorem bag_eq {μ : Mu} {s : Nat} {ns : List Int} {i : Int} (hs : seqOf μ s = some (ns.map Val.int)) (hl : s < μ.nx) (hi : 0 ≤ i) : ∃ p μ', d__law_bag [.loc s, .int i] μ = .ok (.loc p) μ' ∧ Kee [] μ μ' ∧ Bag μ' p ∧ μ.nx ≤ p := by
  have hs0 := hs
  unfold seqOf at hs
  suffices h : Gets (d__law_bag [.loc s, .int i] μ) fun v μ' => ∃ p, v = .loc p ∧ Kee [] μ μ' ∧ Bag μ' p ∧ μ.nx ≤ p by
    obtain ⟨v, μ', e, p, rfl, q⟩ := h.ex
    exact ⟨p, μ', e, q⟩
  refine Gets.run rfl ?_
  have rest : ∀ cell blend : Int, Rets (sSeq (sFor (iEnm (mCons (mSl (mV 0) mP0 (mP (mC (.int 60)))) mNil)) (tgT [4, 5]) m__law_bag_1) (sRet (mLst (mCons (mIf (mTest (mOp geM (mFn absM (mCons (mV 2) mNil)) (mOp powM (mC (.int 10)) (mC (.int 18))))) (mFn absM (mCons (mV 2) mNil)) (mC (.int 0))) (mCons (mV 3) mNil)))) [some (.loc s), some (.int i), some (.int cell), some (.int blend), none, none] μ) fun v μ' => ∃ p, v = .loc p ∧ Kee [] μ μ' ∧ Bag μ' p ∧ μ.nx ≤ p := by
    intro cell blend
    unfold sSeq
    refine Rets.then ?_
    refine sFor_goes (k := .enm μ.nx) (μ1 := μ.new (.lst (cutG (ns.map Val.int) none (some 60)))) (vs := enmM ((cutG ns none (some 60)).map Val.int)) ?_ ?_ (fun _ ρ μ' => (∃ b v4 v5, ρ = [some (.loc s), some (.int i), some (.int cell), some (.int b), v4, v5]) ∧ μ' = μ.new (.lst (cutG (ns.map Val.int) none (some 60)))) ⟨⟨_, _, _, rfl⟩, rfl⟩ ?_ ?_ ?_
    · simp only [mChain, isiM, sDst2, neD0M, Wn.R.bind_ok, Wn.R.bind_no, Wn.R.cut_ok, Wn.R.cut_no, sThen_nx, sThen_rt, sThen_bk, sThen_ct, mC, mV, mNil, mCons, mTup, mLst, mOp, mUn, mFn, mMt, boolM, mTest, mAnd, mOr, mNot, mIf, mBl, mAndV, mOrV, mNotV, mAndT, mOrT, truM, List.isEmpty_cons, List.isEmpty_nil, addM, subM, mulM, modM, fdivM, powM, negM, ltM, leM, gtM, geM, cmpI, isM', isntM, isNon, getM, dgetM, slM, mSl, mP, mP0, lenM, listM, tupleM, minM, maxM, absM, intM, sortedM, mBm, lstOf, appM, popM, extM, idxM, remLM, sNil, sSeq, sSet, sExpr, sRet, sRetN, sIf, sBrk, sCnt, sPar, sPar3, sAsg, tgN, tgT, unp, stoM, dstoM, sSto, Wk.items, iSeq, iRng1, iRng2, iEnm, mCall, mMeth, sysOf, onSys, mMethK, mMake, mMakeK, makM, mYes, mListR1, mListR2, intBM, startV, seqOf, keyOf, List.getElem?_cons_zero, List.getElem?_cons_succ, List.getElem?_nil, List.set_cons_zero, List.set_cons_succ, List.map_cons, List.map_nil, List.length_cons, List.length_nil, List.cons_append, List.nil_append, List.append_nil, List.replicate, Nat.reduceAdd, Nat.reduceSub, Nat.reduceLeDiff, Nat.reduceLT, Nat.reduceEqDiff, Int.reduceLT, Int.reduceLE, Int.reduceNeg, Int.reducePow, ite_true, ite_false, if_true, if_false, reduceIte, Bool.false_eq_true, Bool.true_eq_false, Bool.not_true, Bool.not_false, and_self, and_true, true_and, Mu.put_same, Mu.new_same, Mu.put_nx, Mu.new_nx, Nat.zero_add, Nat.le_refl, Goes_nx, Gets_ok, Rets_nx, Rets_rt, CMul, CDiv, CPow, or_true, true_or, or_self, not_true, not_false_iff, mDm, dctV, popDM, getDM, mDisp, mPrs, kvOf, decide_false, decide_true, Int.reduceToNat, Nat.reducePow, Int.reduceAdd, Int.reduceSub, Int.reduceMul, hs]
    · simp only [mChain, isiM, sDst2, neD0M, Wn.R.bind_ok, Wn.R.bind_no, Wn.R.cut_ok, Wn.R.cut_no, sThen_nx, sThen_rt, sThen_bk, sThen_ct, mC, mV, mNil, mCons, mTup, mLst, mOp, mUn, mFn, mMt, boolM, mTest, mAnd, mOr, mNot, mIf, mBl, mAndV, mOrV, mNotV, mAndT, mOrT, truM, List.isEmpty_cons, List.isEmpty_nil, addM, subM, mulM, modM, fdivM, powM, negM, ltM, leM, gtM, geM, cmpI, isM', isntM, isNon, getM, dgetM, slM, mSl, mP, mP0, lenM, listM, tupleM, minM, maxM, absM, intM, sortedM, mBm, lstOf, appM, popM, extM, idxM, remLM, sNil, sSeq, sSet, sExpr, sRet, sRetN, sIf, sBrk, sCnt, sPar, sPar3, sAsg, tgN, tgT, unp, stoM, dstoM, sSto, Wk.items, iSeq, iRng1, iRng2, iEnm, mCall, mMeth, sysOf, onSys, mMethK, mMake, mMakeK, makM, mYes, mListR1, mListR2, intBM, startV, seqOf, keyOf, List.getElem?_cons_zero, List.getElem?_cons_succ, List.getElem?_nil, List.set_cons_zero, List.set_cons_succ, List.map_cons, List.map_nil, List.length_cons, List.length_nil, List.cons_append, List.nil_append, List.append_nil, List.replicate, Nat.reduceAdd, Nat.reduceSub, Nat.reduceLeDiff, Nat.reduceLT, Nat.reduceEqDiff, Int.reduceLT, Int.reduceLE, Int.reduceNeg, Int.reducePow, ite_true, ite_false, if_true, if_false, reduceIte, Bool.false_eq_true, Bool.true_eq_false, Bool.not_true, Bool.not_false, and_self, and_true, true_and, Mu.put_same, Mu.new_same, Mu.put_nx, Mu.new_nx, Nat.zero_add, Nat.le_refl, Goes_nx, Gets_ok, Rets_nx, Rets_rt, CMul, CDiv, CPow, or_true, true_or, or_self, not_true, not_false_iff, mDm, dctV, popDM, getDM, mDisp, mPrs, kvOf, decide_false, decide_true, Int.reduceToNat, Nat.reducePow, Int.reduceAdd, Int.reduceSub, Int.reduceMul, cut_ints]
      rfl
    · rintro j ρ μ' _ ⟨_, rfl⟩
      simp only [mChain, isiM, sDst2, neD0M, Wn.R.bind_ok, Wn.R.bind_no, Wn.R.cut_ok, Wn.R.cut_no, sThen_nx, sThen_rt, sThen_bk, sThen_ct, mC, mV, mNil, mCons, mTup, mLst, mOp, mUn, mFn, mMt, boolM, mTest, mAnd, mOr, mNot, mIf, mBl, mAndV, mOrV, mNotV, mAndT, mOrT, truM, List.isEmpty_cons, List.isEmpty_nil, addM, subM, mulM, modM, fdivM, powM, negM, ltM, leM, gtM, geM, cmpI, isM', isntM, isNon, getM, dgetM, slM, mSl, mP, mP0, lenM, listM, tupleM, minM, maxM, absM, intM, sortedM, mBm, lstOf, appM, popM, extM, idxM, remLM, sNil, sSeq, sSet, sExpr, sRet, sRetN, sIf, sBrk, sCnt, sPar, sPar3, sAsg, tgN, tgT, unp, stoM, dstoM, sSto, Wk.items, iSeq, iRng1, iRng2, iEnm, mCall, mMeth, sysOf, onSys, mMethK, mMake, mMakeK, makM, mYes, mListR1, mListR2, intBM, startV, seqOf, keyOf, List.getElem?_cons_zero, List.getElem?_cons_succ, List.getElem?_nil, List.set_cons_zero, List.set_cons_succ, List.map_cons, List.map_nil, List.length_cons, List.length_nil, List.cons_append, List.nil_append, List.append_nil, List.replicate, Nat.reduceAdd, Nat.reduceSub, Nat.reduceLeDiff, Nat.reduceLT, Nat.reduceEqDiff, Int.reduceLT, Int.reduceLE, Int.reduceNeg, Int.reducePow, ite_true, ite_false, if_true, if_false, reduceIte, Bool.false_eq_true, Bool.true_eq_false, Bool.not_true, Bool.not_false, and_self, and_true, true_and, Mu.put_same, Mu.new_same, Mu.put_nx, Mu.new_nx, Nat.zero_add, Nat.le_refl, Goes_nx, Gets_ok, Rets_nx, Rets_rt, CMul, CDiv, CPow, or_true, true_or, or_self, not_true, not_false_iff, mDm, dctV, popDM, getDM, mDisp, mPrs, kvOf, decide_false, decide_true, Int.reduceToNat, Nat.reducePow, Int.reduceAdd, Int.reduceSub, Int.reduceMul, cut_ints]
      rfl
    · rintro j v ρ μ' hv ⟨⟨b, v4, v5, rfl⟩, rfl⟩
      obtain ⟨y, rfl⟩ := enm_ints_get hv
      refine ⟨_, rfl, ?_⟩
      unfold m__law_bag_1
      simp only [mChain, isiM, sDst2, neD0M, Wn.R.bind_ok, Wn.R.bind_no, Wn.R.cut_ok, Wn.R.cut_no, sThen_nx, sThen_rt, sThen_bk, sThen_ct, mC, mV, mNil, mCons, mTup, mLst, mOp, mUn, mFn, mMt, boolM, mTest, mAnd, mOr, mNot, mIf, mBl, mAndV, mOrV, mNotV, mAndT, mOrT, truM, List.isEmpty_cons, List.isEmpty_nil, addM, subM, mulM, modM, fdivM, powM, negM, ltM, leM, gtM, geM, cmpI, isM', isntM, isNon, getM, dgetM, slM, mSl, mP, mP0, lenM, listM, tupleM, minM, maxM, absM, intM, sortedM, mBm, lstOf, appM, popM, extM, idxM, remLM, sNil, sSeq, sSet, sExpr, sRet, sRetN, sIf, sBrk, sCnt, sPar, sPar3, sAsg, tgN, tgT, unp, stoM, dstoM, sSto, Wk.items, iSeq, iRng1, iRng2, iEnm, mCall, mMeth, sysOf, onSys, mMethK, mMake, mMakeK, makM, mYes, mListR1, mListR2, intBM, startV, seqOf, keyOf, List.getElem?_cons_zero, List.getElem?_cons_succ, List.getElem?_nil, List.set_cons_zero, List.set_cons_succ, List.map_cons, List.map_nil, List.length_cons, List.length_nil, List.cons_append, List.nil_append, List.append_nil, List.replicate, Nat.reduceAdd, Nat.reduceSub, Nat.reduceLeDiff, Nat.reduceLT, Nat.reduceEqDiff, Int.reduceLT, Int.reduceLE, Int.reduceNeg, Int.reducePow, ite_true, ite_false, if_true, if_false, reduceIte, Bool.false_eq_true, Bool.true_eq_false, Bool.not_true, Bool.not_false, and_self, and_true, true_and, Mu.put_same, Mu.new_same, Mu.put_nx, Mu.new_nx, Nat.zero_add, Nat.le_refl, Goes_nx, Gets_ok, Rets_nx, Rets_rt, CMul, CDiv, CPow, or_true, true_or, or_self, not_true, not_false_iff, mDm, dctV, popDM, getDM, mDisp, mPrs, kvOf, decide_false, decide_true, Int.reduceToNat, Nat.reducePow, Int.reduceAdd, Int.reduceSub, Int.reduceMul]
      exact ⟨_, _, _, rfl⟩
    · rintro ρ μ' ⟨⟨b, v4, v5, rfl⟩, rfl⟩
      have fin : ∀ z : Int, ∃ p, Val.loc (μ.nx + 1) = .loc p ∧ Kee [] μ ((μ.new (.lst (cutG (ns.map Val.int) none (some 60)))).new (.lst [.int z, .int b])) ∧ Bag ((μ.new (.lst (cutG (ns.map Val.int) none (some 60)))).new (.lst [.int z, .int b])) p ∧ μ.nx ≤ p := fun z =>
        ⟨_, rfl, Kee.new.trans Kee.new, ⟨Nat.lt_succ_self _, _, _, Mu.new_same ..⟩, Nat.le_succ _⟩
      generalize hd : decide ((1000000000000000000 : Int) ≤ if cell < 0 then -cell else cell) = dd
      cases dd with
      | true =>
        simp only [mChain, isiM, sDst2, neD0M, Wn.R.bind_ok, Wn.R.bind_no, Wn.R.cut_ok, Wn.R.cut_no, sThen_nx, sThen_rt, sThen_bk, sThen_ct, mC, mV, mNil, mCons, mTup, mLst, mOp, mUn, mFn, mMt, boolM, mTest, mAnd, mOr, mNot, mIf, mBl, mAndV, mOrV, mNotV, mAndT, mOrT, truM, List.isEmpty_cons, List.isEmpty_nil, addM, subM, mulM, modM, fdivM, powM, negM, ltM, leM, gtM, geM, cmpI, isM', isntM, isNon, getM, dgetM, slM, mSl, mP, mP0, lenM, listM, tupleM, minM, maxM, absM, intM, sortedM, mBm, lstOf, appM, popM, extM, idxM, remLM, sNil, sSeq, sSet, sExpr, sRet, sRetN, sIf, sBrk, sCnt, sPar, sPar3, sAsg, tgN, tgT, unp, stoM, dstoM, sSto, Wk.items, iSeq, iRng1, iRng2, iEnm, mCall, mMeth, sysOf, onSys, mMethK, mMake, mMakeK, makM, mYes, mListR1, mListR2, intBM, startV, seqOf, keyOf, List.getElem?_cons_zero, List.getElem?_cons_succ, List.getElem?_nil, List.set_cons_zero, List.set_cons_succ, List.map_cons, List.map_nil, List.length_cons, List.length_nil, List.cons_append, List.nil_append, List.append_nil, List.replicate, Nat.reduceAdd, Nat.reduceSub, Nat.reduceLeDiff, Nat.reduceLT, Nat.reduceEqDiff, Int.reduceLT, Int.reduceLE, Int.reduceNeg, Int.reducePow, ite_true, ite_false, if_true, if_false, reduceIte, Bool.false_eq_true, Bool.true_eq_false, Bool.not_true, Bool.not_false, and_self, and_true, true_and, Mu.put_same, Mu.new_same, Mu.put_nx, Mu.new_nx, Nat.zero_add, Nat.le_refl, Goes_nx, Gets_ok, Rets_nx, Rets_rt, CMul, CDiv, CPow, or_true, true_or, or_self, not_true, not_false_iff, mDm, dctV, popDM, getDM, mDisp, mPrs, kvOf, decide_false, decide_true, Int.reduceToNat, Nat.reducePow, Int.reduceAdd, Int.reduceSub, Int.reduceMul, hd, show Int.natAbs 10 = 10 from rfl]
        exact fin _
      | false =>
        simp only [mChain, isiM, sDst2, neD0M, Wn.R.bind_ok, Wn.R.bind_no, Wn.R.cut_ok, Wn.R.cut_no, sThen_nx, sThen_rt, sThen_bk, sThen_ct, mC, mV, mNil, mCons, mTup, mLst, mOp, mUn, mFn, mMt, boolM, mTest, mAnd, mOr, mNot, mIf, mBl, mAndV, mOrV, mNotV, mAndT, mOrT, truM, List.isEmpty_cons, List.isEmpty_nil, addM, subM, mulM, modM, fdivM, powM, negM, ltM, leM, gtM, geM, cmpI, isM', isntM, isNon, getM, dgetM, slM, mSl, mP, mP0, lenM, listM, tupleM, minM, maxM, absM, intM, sortedM, mBm, lstOf, appM, popM, extM, idxM, remLM, sNil, sSeq, sSet, sExpr, sRet, sRetN, sIf, sBrk, sCnt, sPar, sPar3, sAsg, tgN, tgT, unp, stoM, dstoM, sSto, Wk.items, iSeq, iRng1, iRng2, iEnm, mCall, mMeth, sysOf, onSys, mMethK, mMake, mMakeK, makM, mYes, mListR1, mListR2, intBM, startV, seqOf, keyOf, List.getElem?_cons_zero, List.getElem?_cons_succ, List.getElem?_nil, List.set_cons_zero, List.set_cons_succ, List.map_cons, List.map_nil, List.length_cons, List.length_nil, List.cons_append, List.nil_append, List.append_nil, List.replicate, Nat.reduceAdd, Nat.reduceSub, Nat.reduceLeDiff, Nat.reduceLT, Nat.reduceEqDiff, Int.reduceLT, Int.reduceLE, Int.reduceNeg, Int.reducePow, ite_true, ite_false, if_true, if_false, reduceIte, Bool.false_eq_true, Bool.true_eq_false, Bool.not_true, Bool.not_false, and_self, and_true, true_and, Mu.put_same, Mu.new_same, Mu.put_nx, Mu.new_nx, Nat.zero_add, Nat.le_refl, Goes_nx, Gets_ok, Rets_nx, Rets_rt, CMul, CDiv, CPow, or_true, true_or, or_self, not_true, not_false_iff, mDm, dctV, popDM, getDM, mDisp, mPrs, kvOf, decide_false, decide_true, Int.reduceToNat, Nat.reducePow, Int.reduceAdd, Int.reduceSub, Int.reduceMul, hd, show Int.natAbs 10 = 10 from rfl]
        exact fin _
  by_cases c : i < (ns.length : Int)
  · have ha : atI (ns.map Val.int) i = some (.int ns[i.toNat]) := by
      have hlt : i.toNat < ns.length := by omega
      have z := atI_nat (xs := ns.map Val.int) (j := i.toNat) (v := .int ns[i.toNat]) (by rw [List.getElem?_map, List.getElem?_eq_getElem hlt]; rfl)
      rw [show ((i.toNat : Nat) : Int) = i by omega] at z
      exact z
    unfold m__law_bag
    simp only [mChain, isiM, sDst2, neD0M, Wn.R.bind_ok, Wn.R.bind_no, Wn.R.cut_ok, Wn.R.cut_no, sThen_nx, sThen_rt, sThen_bk, sThen_ct, mC, mV, mNil, mCons, mTup, mLst, mOp, mUn, mFn, mMt, boolM, mTest, mAnd, mOr, mNot, mIf, mBl, mAndV, mOrV, mNotV, mAndT, mOrT, truM, List.isEmpty_cons, List.isEmpty_nil, addM, subM, mulM, modM, fdivM, powM, negM, ltM, leM, gtM, geM, cmpI, isM', isntM, isNon, getM, dgetM, slM, mSl, mP, mP0, lenM, listM, tupleM, minM, maxM, absM, intM, sortedM, mBm, lstOf, appM, popM, extM, idxM, remLM, sNil, sSeq, sSet, sExpr, sRet, sRetN, sIf, sBrk, sCnt, sPar, sPar3, sAsg, tgN, tgT, unp, stoM, dstoM, sSto, Wk.items, iSeq, iRng1, iRng2, iEnm, mCall, mMeth, sysOf, onSys, mMethK, mMake, mMakeK, makM, mYes, mListR1, mListR2, intBM, startV, seqOf, keyOf, List.getElem?_cons_zero, List.getElem?_cons_succ, List.getElem?_nil, List.set_cons_zero, List.set_cons_succ, List.map_cons, List.map_nil, List.length_cons, List.length_nil, List.cons_append, List.nil_append, List.append_nil, List.replicate, Nat.reduceAdd, Nat.reduceSub, Nat.reduceLeDiff, Nat.reduceLT, Nat.reduceEqDiff, Int.reduceLT, Int.reduceLE, Int.reduceNeg, Int.reducePow, ite_true, ite_false, if_true, if_false, reduceIte, Bool.false_eq_true, Bool.true_eq_false, Bool.not_true, Bool.not_false, and_self, and_true, true_and, Mu.put_same, Mu.new_same, Mu.put_nx, Mu.new_nx, Nat.zero_add, Nat.le_refl, Goes_nx, Gets_ok, Rets_nx, Rets_rt, CMul, CDiv, CPow, or_true, true_or, or_self, not_true, not_false_iff, mDm, dctV, popDM, getDM, mDisp, mPrs, kvOf, decide_false, decide_true, Int.reduceToNat, Nat.reducePow, Int.reduceAdd, Int.reduceSub, Int.reduceMul, hs, List.length_map, decide_eq_true c, ha]
    exact rest _ _
  · unfold m__law_bag
    simp only [mChain, isiM, sDst2, neD0M, Wn.R.bind_ok, Wn.R.bind_no, Wn.R.cut_ok, Wn.R.cut_no, sThen_nx, sThen_rt, sThen_bk, sThen_ct, mC, mV, mNil, mCons, mTup, mLst, mOp, mUn, mFn, mMt, boolM, mTest, mAnd, mOr, mNot, mIf, mBl, mAndV, mOrV, mNotV, mAndT, mOrT, truM, List.isEmpty_cons, List.isEmpty_nil, addM, subM, mulM, modM, fdivM, powM, negM, ltM, leM, gtM, geM, cmpI, isM', isntM, isNon, getM, dgetM, slM, mSl, mP, mP0, lenM, listM, tupleM, minM, maxM, absM, intM, sortedM, mBm, lstOf, appM, popM, extM, idxM, remLM, sNil, sSeq, sSet, sExpr, sRet, sRetN, sIf, sBrk, sCnt, sPar, sPar3, sAsg, tgN, tgT, unp, stoM, dstoM, sSto, Wk.items, iSeq, iRng1, iRng2, iEnm, mCall, mMeth, sysOf, onSys, mMethK, mMake, mMakeK, makM, mYes, mListR1, mListR2, intBM, startV, seqOf, keyOf, List.getElem?_cons_zero, List.getElem?_cons_succ, List.getElem?_nil, List.set_cons_zero, List.set_cons_succ, List.map_cons, List.map_nil, List.length_cons, List.length_nil, List.cons_append, List.nil_append, List.append_nil, List.replicate, Nat.reduceAdd, Nat.reduceSub, Nat.reduceLeDiff, Nat.reduceLT, Nat.reduceEqDiff, Int.reduceLT, Int.reduceLE, Int.reduceNeg, Int.reducePow, ite_true, ite_false, if_true, if_false, reduceIte, Bool.false_eq_true, Bool.true_eq_false, Bool.not_true, Bool.not_false, and_self, and_true, true_and, Mu.put_same, Mu.new_same, Mu.put_nx, Mu.new_nx, Nat.zero_add, Nat.le_refl, Goes_nx, Gets_ok, Rets_nx, Rets_rt, CMul, CDiv, CPow, or_true, true_or, or_self, not_true, not_false_iff, mDm, dctV, popDM, getDM, mDisp, mPrs, kvOf, decide_false, decide_true, Int.reduceToNat, Nat.reducePow, Int.reduceAdd, Int.reduceSub, Int.reduceMul, hs, List.length_map, decide_eq_false c]
    exact rest _ _

/-! ### data, plainly -/
theorem allO_ints (k : Nat) (μ : Mu) (l : List Int) : allO ((l.map Val.int).map (toD k μ)) = some (l.map PyData.int) := by
  rw [allO_some (f := toD k μ) (g := fun v => match v with | .int i => PyData.int i | _ => .none)]
  · rw [List.map_map]
    rfl
  · intro x hx
    obtain ⟨i, _, rfl⟩ := List.mem_map.mp hx
    cases k <;> rfl
theorem dat_ints {μ : Mu} {n : Nat} {l : List Int} (h : seqOf μ n = some (l.map Val.int)) : datM μ (.loc n) = some (.list (l.map PyData.int)) := by
  unfold datM
  rw [toD, h]
  simp only
  rw [allO_ints]
  rfl
theorem eqv_ints_nil (l : List Int) : PyData.eqv (.list (l.map PyData.int)) (.list []) = l.isEmpty := by
  cases l with
  | nil => rfl
  | cons a l => rfl
theorem seqOf_lst {μ : Mu} {n : Nat} {vs : List Val} (h : μ.ob n = some (.lst vs)) : seqOf μ n = some vs := by
  unfold seqOf
  rw [h]
theorem Kee.over {S T : List Nat} {μ μ1 μ2 : Mu} (a : Kee S μ μ1) (b : Kee T μ1 μ2) (h : ∀ n ∈ T, μ.nx ≤ n ∨ n ∈ S) : Kee S μ μ2 := ⟨Nat.le_trans a.le b.le, fun n l q => (b.ob n (Nat.lt_of_lt_of_le l a.le) fun z => (h n z).elim (fun y => absurd l (Nat.not_lt.mpr y)) q).trans (a.ob n l q)⟩
theorem dat_int (μ : Mu) (i : Int) : datM μ (.int i) = some (.int i) := rfl
theorem eqv_int (i j : Int) : PyData.eqv (.int i) (.int j) = (i == j) := rfl
theorem lk_snoc {α : Type} {l : List (Int × α)} {n k : Int} {x : α} (h : lk l n = none) : lk (l ++ [(n, x)]) k = if k = n then some x else lk l k := by
  rw [lk_app]
  by_cases c : k = n
  · subst c
    rw [h, if_pos rfl]
    show (none : Option α).or (if k = k then some x else lk [] k) = some x
    rw [if_pos rfl]
    rfl
  · rw [if_neg c]
    have : lk [(n, x)] k = none := by
      show (if n = k then some x else lk [] k) = none
      rw [if_neg (Ne.symm c)]
      rfl
    rw [this, Option.or_none]
structure Fill (j : Nat) (v : Sv) : Prop where
  n8 : v.N = 8
  made : v.made = (j : Int) + 1
  rows : ∃ rows, lk v.tabs 0 = some rows ∧ (∀ n : Nat, n ≤ j → lk rows (n : Int) = some (n : Int)) ∧ ∀ n : Int, n ∈ rows.map (·.1) ↔ 0 ≤ n ∧ n ≤ j
  set_ : lk v.ths 0 = some (.set [] [])
  src : ∀ l : Nat, l < j → lk v.ths ((l : Int) + 1) = some (.src 0 false)
  new : lk v.ths ((j : Int) + 1) = none ∧ ∀ n : Int, (j : Int) < n → lk v.ths n = none
theorem Fill.low {j : Nat} {v : Sv} (h : Fill j v) (hj : j < 7) {rows : List (Int × Int)} (hr : lk v.tabs 0 = some rows) : lowFree (rows.map (·.1)) v.N = some ((j : Int) + 1) := by
  obtain ⟨rows', h1, h2, h3⟩ := h.rows
  rw [hr] at h1
  cases h1
  rw [h.n8]
  exact lowFree_some (k := j + 1) (by omega) (fun i hi => (h3 _).mpr ⟨by omega, by omega⟩) (fun z => by have := (h3 _).mp z; omega)
theorem Fill.next {j : Nat} {v : Sv} (h : Fill j v) : Fill (j + 1) (v.place 0 ((j : Int) + 1) (.src 0 false)) := by
  obtain ⟨rows, h1, h2, h3⟩ := h.rows
  have hn : lk rows ((j : Int) + 1) = none := lk_none.mpr fun z => by have := (h3 _).mp z; omega
  have ht : lk (v.place 0 ((j : Int) + 1) (.src 0 false)).tabs 0 = some (rows ++ [((j : Int) + 1, (j : Int) + 1)]) := by
    show lk (upAt v.tabs 0 (· ++ [((j : Int) + 1, v.made)])) 0 = _
    rw [upAt_lk, if_pos rfl, h1, h.made]
    rfl
  have hths : ∀ n, lk (v.place 0 ((j : Int) + 1) (.src 0 false)).ths n = if n = (j : Int) + 1 then some (.src 0 false) else lk v.ths n := fun n => by
    show lk (v.ths ++ [(v.made, .src 0 false)]) n = _
    rw [h.made, lk_snoc h.new.1]
  refine ⟨h.n8, ?_, ⟨_, ht, fun n hn' => ?_, fun n => ?_⟩, ?_, fun l hl => ?_, ?_, fun n hn' => ?_⟩
  · show v.made + 1 = _
    rw [h.made]
    omega
  · rw [lk_snoc hn]
    by_cases c : n = j + 1
    · rw [if_pos (by omega)]
      congr 1
      omega
    · rw [if_neg (by omega)]
      exact h2 n (by omega)
  · rw [List.map_append, List.mem_append, h3]
    simp only [List.map_cons, List.map_nil, List.mem_singleton]
    omega
  · rw [hths, if_neg (by omega)]
    exact h.set_
  · rw [hths]
    by_cases c : l = j
    · subst c
      rw [if_pos rfl]
    · rw [if_neg (by omega)]
      exact h.src l (by omega)
  · rw [hths, if_neg (by omega)]
    exact h.new.2 _ (by omega)
  · rw [hths, if_neg (by omega)]
    exact h.new.2 _ (by omega)

/-! ### steps, one by one -/
section
variable {ρ ρ' : Rho} {μ μ1 μ2 : Mu} {v a b : Val}
theorem if_yes {c : MT} {A B : MS} (h : c ρ μ = .ok true μ1) : sIf c A B ρ μ = A ρ μ1 := by unfold sIf; rw [h]; rfl
theorem if_no {c : MT} {A B : MS} (h : c ρ μ = .ok false μ1) : sIf c A B ρ μ = B ρ μ1 := by unfold sIf; rw [h]; rfl
theorem seq_nx {A B : MS} (h : A ρ μ = .ok (.nx ρ') μ1) : sSeq A B ρ μ = B ρ' μ1 := by unfold sSeq; rw [h]; rfl
theorem seq_rt {A B : MS} (h : A ρ μ = .ok (.rt v) μ1) : sSeq A B ρ μ = .ok (.rt v) μ1 := by unfold sSeq; rw [h]; rfl
end
def Low (n0 : Nat) (μ μ' : Mu) : Prop := μ.nx ≤ μ'.nx ∧ ∀ n, n < n0 → μ'.ob n = μ.ob n
theorem Low.refl (n0 : Nat) (μ : Mu) : Low n0 μ μ := ⟨Nat.le_refl _, fun _ _ => rfl⟩
theorem Low.trans {n0 : Nat} {μ μ1 μ2 : Mu} (a : Low n0 μ μ1) (b : Low n0 μ1 μ2) : Low n0 μ μ2 := ⟨Nat.le_trans a.1 b.1, fun n h => (b.2 n h).trans (a.2 n h)⟩
theorem Kee.low {S : List Nat} {n0 : Nat} {μ μ' : Mu} (kp : Kee S μ μ') (h0 : n0 ≤ μ.nx) (hS : ∀ n ∈ S, n0 ≤ n) : Low n0 μ μ' := ⟨kp.le, fun n h => kp.ob n (by omega) fun z => by have := hS n z; omega⟩
theorem Goes.unlk {n : Nat} {r : R Fl} {kvs : List (Key × Val)} {P : Rho → Mu → Prop} (h : Goes r fun ρ μ => μ.ob n = some (.rod kvs) ∧ P ρ (μ.put n (.dct kvs))) : Goes (unlk n r) P := by
  obtain ⟨ρ, μ, rfl, h1, h2⟩ := h.ex
  unfold Wn.unlk
  simp only [h1]
  exact h2
theorem key_items {μ : Mu} {t : Nat} {ks : List (Key × Val)} (h : μ.ob t = some (.rod ks)) : (Wk.key t).items μ = some (ks.map fun p => keyV p.1) := by
  unfold Wk.items
  simp only [h]
def up {α : Type} (g : Nat → α) (j : Nat) (x : α) : Nat → α := fun i => if i = j then x else g i
theorem test2 {f : Val → Val → Mu → R Val} {A B : ME} {ρ : Rho} {μ μ1 μ2 μ3 : Mu} {a b : Val} {c : Bool} (hA : A ρ μ = .ok a μ1) (hB : B ρ μ1 = .ok b μ2) (hf : f a b μ2 = .ok (.bl c) μ3) : mTest (mOp f A B) ρ μ = .ok c μ3 := by
  unfold mTest mOp
  rw [hA, R.bind_ok, hB, R.bind_ok, hf]
  rfl
theorem fn1 {f : List Val → Mu → R Val} {A : ME} {ρ : Rho} {μ μ1 : Mu} {a : Val} (h : A ρ μ = .ok a μ1) : mFn f (mCons A mNil) ρ μ = f [a] μ1 := by
  unfold mFn mCons mNil
  rw [h]
  rfl

/-! ### tables and dicts, plainly -/
theorem kGet_put (kvs : List (Key × Val)) (k k' : Key) (v : Val) : kGet (kPut kvs k v) k' = if k' = k then some v else kGet kvs k' := by
  unfold kPut
  by_cases c : (kvs.any fun p => decide (p.1 = k)) = true
  · rw [if_pos c]
    induction kvs with
    | nil => cases c
    | cons p l ih =>
      rw [List.map_cons]
      by_cases e : p.1 = k
      · rw [if_pos e]
        by_cases e' : k' = k
        · rw [if_pos e', kGet_pos (show ((p.1, v) : Key × Val).1 = k' from e.trans e'.symm)]
        · rw [if_neg e', kGet_neg (show ¬ ((p.1, v) : Key × Val).1 = k' from fun z => e' (z.symm.trans e)), kGet_neg (show ¬ p.1 = k' from fun z => e' (z.symm.trans e))]
          by_cases d : (l.any fun p => decide (p.1 = k)) = true
          · rw [ih d, if_neg e']
          · have : (l.map fun p => if p.1 = k then (p.1, v) else p) = l := by
              have h : ∀ q ∈ l, ¬ q.1 = k := fun q hq z => d (List.any_eq_true.mpr ⟨q, hq, decide_eq_true z⟩)
              clear ih c d
              induction l with
              | nil => rfl
              | cons q l ih2 => rw [List.map_cons, if_neg (h q List.mem_cons_self), ih2 fun r hr => h r (List.mem_cons_of_mem _ hr)]
            rw [this]
      · rw [if_neg e]
        have d : (l.any fun p => decide (p.1 = k)) = true := by
          rw [List.any_cons, decide_eq_false e, Bool.false_or] at c
          exact c
        by_cases e' : p.1 = k'
        · rw [kGet_pos e', kGet_pos e', if_neg (fun z => e (e'.trans z))]
        · rw [kGet_neg e', kGet_neg e', ih d]
  · rw [if_neg c]
    have h : ∀ q ∈ kvs, ¬ q.1 = k := fun q hq z => c (List.any_eq_true.mpr ⟨q, hq, decide_eq_true z⟩)
    clear c
    induction kvs with
    | nil =>
      rw [List.nil_append]
      by_cases e : k' = k
      · rw [if_pos e, kGet_pos e.symm]
      · rw [if_neg e, kGet_neg (Ne.symm e)]
    | cons p l ih =>
      rw [List.cons_append]
      by_cases e : p.1 = k'
      · rw [kGet_pos e, kGet_pos e, if_neg (fun z => h p List.mem_cons_self (e.trans z))]
      · rw [kGet_neg e, kGet_neg e, ih fun r hr => h r (List.mem_cons_of_mem _ hr)]
theorem kGet_drop (kvs : List (Key × Val)) (k k' : Key) : kGet (kDrop kvs k) k' = if k' = k then none else kGet kvs k' := by
  unfold kDrop
  induction kvs with
  | nil => split <;> rfl
  | cons p l ih =>
    by_cases e : p.1 = k
    · rw [List.filter_cons_of_neg (by simp [e]), ih]
      split
      · rfl
      · rename_i d
        rw [kGet_neg (fun z => d (z.symm.trans e))]
    · rw [List.filter_cons_of_pos (by simp [e])]
      by_cases e' : p.1 = k'
      · rw [kGet_pos e', kGet_pos e', if_neg (fun z => e (e'.trans z))]
      · rw [kGet_neg e', kGet_neg e', ih]
theorem kGet_mem {kvs : List (Key × Val)} {k : Key} : k ∈ kvs.map (·.1) ↔ (kGet kvs k).isSome = true := by
  induction kvs with
  | nil => simp [kGet]
  | cons p l ih =>
    rw [List.map_cons, List.mem_cons]
    by_cases e : p.1 = k
    · rw [kGet_pos e]
      simp [e]
    · rw [kGet_neg e, ← ih]
      constructor
      · rintro (z | z)
        · exact (e z.symm).elim
        · exact z
      · exact .inr
theorem kPut_old {kvs : List (Key × Val)} {k : Key} {v : Val} (h : k ∈ kvs.map (·.1)) : (kPut kvs k v).map (·.1) = kvs.map (·.1) := by
  have c : (kvs.any fun p => decide (p.1 = k)) = true := by
    obtain ⟨q, hq, e⟩ := List.mem_map.mp h
    exact List.any_eq_true.mpr ⟨q, hq, decide_eq_true e⟩
  unfold kPut
  rw [if_pos c, List.map_map]
  refine List.map_congr_left fun q _ => ?_
  show (if q.1 = k then (q.1, v) else q).1 = q.1
  split <;> rfl
theorem kPut_new {kvs : List (Key × Val)} {k : Key} {v : Val} (h : k ∉ kvs.map (·.1)) : (kPut kvs k v).map (·.1) = kvs.map (·.1) ++ [k] := by
  have c : ¬ (kvs.any fun p => decide (p.1 = k)) = true := fun z => by
    obtain ⟨q, hq, e⟩ := List.any_eq_true.mp z
    exact h (List.mem_map.mpr ⟨q, hq, of_decide_eq_true e⟩)
  unfold kPut
  rw [if_neg c, List.map_append]
  rfl
/-- a dict tells of each number of a table what its serial stands for -/
structure DR (kvs : List (Key × Val)) (rows : List (Int × Int)) (g : Int → Val) : Prop where
  nd : (kvs.map (·.1)).Nodup
  int : ∃ l : List Int, kvs.map (·.1) = l.map Sum.inl
  get : ∀ n : Int, kGet kvs (.inl n) = (lk rows n).map g
theorem DR.nil (g : Int → Val) : DR [] [] g := ⟨List.nodup_nil, ⟨[], rfl⟩, fun _ => rfl⟩
theorem intK_of : ∀ {kvs : List (Key × Val)} {l : List Int}, kvs.map (·.1) = l.map Sum.inl → intK kvs = some l
  | [], [], _ => rfl
  | (k, v) :: r, i :: l, h => by
    simp only [List.map_cons, List.cons.injEq] at h
    obtain ⟨h1, h2⟩ := h
    subst h1
    rw [intK, intK_of h2]
  | [], _ :: _, h => by simp at h
  | _ :: _, [], h => by simp at h
section
variable {kvs : List (Key × Val)} {rows rows' : List (Int × Int)} {g g' : Int → Val}
theorem DR.put (h : DR kvs rows g) {k ser : Int} (hr : ∀ n, lk rows' n = if n = k then some ser else lk rows n) : DR (kPut kvs (.inl k) (g ser)) rows' g := by
  obtain ⟨l, hl⟩ := h.int
  refine ⟨?_, ?_, fun n => ?_⟩
  · by_cases c : (Sum.inl k : Key) ∈ kvs.map (·.1)
    · rw [kPut_old c]
      exact h.nd
    · rw [kPut_new c]
      exact List.nodup_append.mpr ⟨h.nd, by simp, fun a ha b hb => by
        rw [List.mem_singleton.mp hb]
        exact fun z => c (z ▸ ha)⟩
  · by_cases c : (Sum.inl k : Key) ∈ kvs.map (·.1)
    · rw [kPut_old c]
      exact ⟨l, hl⟩
    · rw [kPut_new c]
      exact ⟨l ++ [k], by rw [hl, List.map_append]; rfl⟩
  · rw [kGet_put, hr]
    by_cases c : n = k
    · rw [if_pos (by rw [c]), if_pos c]
      rfl
    · rw [if_neg (fun z => c (Sum.inl.inj z)), if_neg c]
      exact h.get n
theorem DR.drop (h : DR kvs rows g) {k : Int} (hr : ∀ n, lk rows' n = if n = k then none else lk rows n) : DR (kDrop kvs (.inl k)) rows' g := by
  obtain ⟨l, hl⟩ := h.int
  have sub : ((kDrop kvs (.inl k)).map (·.1)).Sublist (kvs.map (·.1)) := List.Sublist.map _ List.filter_sublist
  refine ⟨h.nd.sublist sub, ?_, fun n => ?_⟩
  · refine ⟨l.filter fun i => decide (i ≠ k), ?_⟩
    unfold kDrop
    clear sub h
    induction kvs generalizing l with
    | nil =>
      cases l with
      | nil => rfl
      | cons i l => simp at hl
    | cons p r ih =>
      cases l with
      | nil => simp at hl
      | cons i l =>
        simp only [List.map_cons, List.cons.injEq] at hl
        by_cases c : i = k
        · rw [List.filter_cons_of_neg (by simp [hl.1, c]), List.filter_cons_of_neg (by simp [c])]
          exact ih l hl.2
        · rw [List.filter_cons_of_pos (by simp [hl.1, c]), List.filter_cons_of_pos (by simp [c]), List.map_cons, List.map_cons, ih l hl.2, hl.1]
  · rw [kGet_drop, hr]
    by_cases c : n = k
    · rw [if_pos (by rw [c]), if_pos c]
      rfl
    · rw [if_neg (fun z => c (Sum.inl.inj z)), if_neg c]
      exact h.get n
theorem DR.congr (h : DR kvs rows g) (e : ∀ n ser, lk rows n = some ser → g ser = g' ser) : DR kvs rows g' := by
  refine ⟨h.nd, h.int, fun n => ?_⟩
  rw [h.get n]
  cases c : lk rows n with
  | none => rfl
  | some ser => exact congrArg some (e n ser c)
theorem DR.keys (h : DR kvs rows g) : ∃ l : List Int, intK kvs = some l ∧ kvs.map (·.1) = l.map Sum.inl ∧ l.Nodup ∧ ∀ n, n ∈ l ↔ n ∈ rows.map (·.1) := by
  obtain ⟨l, hl⟩ := h.int
  refine ⟨l, intK_of hl, hl, ?_, fun n => ?_⟩
  · have := h.nd
    rw [hl] at this
    exact (List.pairwise_map.mp this).imp fun h z => h (by rw [z])
  · have e1 : n ∈ l ↔ (Sum.inl n : Key) ∈ kvs.map (·.1) := by
      rw [hl]
      constructor
      · exact fun z => List.mem_map.mpr ⟨n, z, rfl⟩
      · intro z
        obtain ⟨i, hi, e⟩ := List.mem_map.mp z
        cases e
        exact hi
    rw [e1, kGet_mem, h.get n]
    cases c : lk rows n with
    | none => simp [lk_none.mp c]
    | some ser =>
      have : n ∈ rows.map (·.1) := List.mem_map.mpr ⟨_, lk_mem c, rfl⟩
      simp [this]
theorem DR.perm (h : DR kvs rows g) (nd : (rows.map (·.1)).Nodup) : ∃ l : List Int, intK kvs = some l ∧ kvs.map (·.1) = l.map Sum.inl ∧ l.Perm (rows.map (·.1)) := by
  obtain ⟨l, h1, h2, h3, h4⟩ := h.keys
  exact ⟨l, h1, h2, (List.perm_ext_iff_of_nodup h3 nd).mpr h4⟩
theorem DR.len (h : DR kvs rows g) (nd : (rows.map (·.1)).Nodup) : kvs.length = rows.length := by
  obtain ⟨l, _, h2, h3⟩ := h.perm nd
  have e1 := congrArg List.length h2
  have e2 := h3.length_eq
  simp only [List.length_map] at e1 e2
  omega
end
/-! ### k60: one registration, two processes, plainly -/
def two (r : Int → List (Int × Int)) : List (Int × List (Int × Int)) := [(0, r 0), (1, r 1)]
def upR (r : Int → List (Int × Int)) (p : Int) (x : List (Int × Int)) : Int → List (Int × Int) := fun i => if i = p then x else r i
def hB (rows : List (Int × Int)) (s : Int) : Bool := !(numsL rows s).isEmpty
def hd (r : Int → List (Int × Int)) (s : Int) : Bool := hB (r 0) s || hB (r 1) s
theorem hB_iff {rows : List (Int × Int)} {s : Int} : hB rows s = true ↔ ∃ n, lk rows n = some s := by
  unfold hB
  cases e : numsL rows s with
  | nil =>
    constructor
    · intro z
      cases z
    · rintro ⟨n, hn⟩
      have := numsL_mem.mpr hn
      rw [e] at this
      cases this
  | cons a l =>
    constructor
    · intro _
      exact ⟨a, numsL_mem.mp (by rw [e]; exact List.mem_cons_self)⟩
    · intro _
      rfl
theorem hd_iff {r : Int → List (Int × Int)} {s : Int} : hd r s = true ↔ ∃ p n, (p = 0 ∨ p = 1) ∧ lk (r p) n = some s := by
  unfold hd
  rw [Bool.or_eq_true, hB_iff, hB_iff]
  constructor
  · rintro (⟨n, h⟩ | ⟨n, h⟩)
    · exact ⟨0, n, .inl rfl, h⟩
    · exact ⟨1, n, .inr rfl, h⟩
  · rintro ⟨p, n, rfl | rfl, h⟩
    · exact .inl ⟨n, h⟩
    · exact .inr ⟨n, h⟩
structure K60 (z lab : Int) (v : Sv) (r : Int → List (Int × Int)) : Prop where
  wf : WF v
  nz : v.N = z
  tab : v.tabs = two r
  md : v.made = 3
  only : ∀ s tv, lk v.ths s = some tv → tv.isSet = true → s = 0
  reg : hd r 0 = true → hd r 1 = true → ∃ w a row, w ∈ words ∧ lk v.ths 0 = some (.set [⟨1, 1, lab, w, a⟩] row)
  off : ¬ (hd r 0 = true ∧ hd r 1 = true) → ∀ es row, lk v.ths 0 = some (.set es row) → es = []
theorem two_lk {r : Int → List (Int × Int)} {p : Int} (hp : p = 0 ∨ p = 1) : lk (two r) p = some (r p) := by
  rcases hp with rfl | rfl <;> rfl
theorem two_up {r : Int → List (Int × Int)} {p : Int} (hp : p = 0 ∨ p = 1) (f : List (Int × Int) → List (Int × Int)) : upAt (two r) p f = two (upR r p (f (r p))) := by
  rcases hp with rfl | rfl <;> rfl
theorem holds_two {v : Sv} {r : Int → List (Int × Int)} (h : WF0 v) (ht : v.tabs = two r) {s : Int} : holds v.tabs s ≠ [] ↔ hd r s = true := by
  rw [hd_iff]
  constructor
  · intro z
    obtain ⟨u, hu, q, hq, rfl⟩ := of_holds z
    have l1 := lk_of_mem (h.ndn u hu) (show (q.1, q.2) ∈ u.2 from hq)
    rw [ht] at hu
    unfold two at hu
    simp only [List.mem_cons, List.not_mem_nil, or_false] at hu
    rcases hu with rfl | rfl
    · exact ⟨0, q.1, .inl rfl, l1⟩
    · exact ⟨1, q.1, .inr rfl, l1⟩
  · rintro ⟨p, n, hp, e⟩
    refine holds_of h ⟨(p, r p), lk_mem (by rw [ht]; exact two_lk hp), (n, s), lk_mem e, rfl⟩
section
variable {z lab p n s : Int} {v : Sv} {r : Int → List (Int × Int)}
theorem K60.lkp (h : K60 z lab v r) (hp : p = 0 ∨ p = 1) : lk v.tabs p = some (r p) := by rw [h.tab]; exact two_lk hp
theorem hd_cut (hp : p = 0 ∨ p = 1) (hn : lk (r p) n = some s) {k : Int} : (hd (upR r p (dr (r p) n)) k = true → hd r k = true) ∧ (k ≠ s → hd r k = true → hd (upR r p (dr (r p) n)) k = true) := by
  rw [hd_iff, hd_iff]
  constructor
  · rintro ⟨q, m, hq, e⟩
    unfold upR at e
    by_cases c : q = p
    · rw [if_pos c, lk_dr] at e
      split at e
      · cases e
      · exact ⟨p, m, hp, e⟩
    · rw [if_neg c] at e
      exact ⟨q, m, hq, e⟩
  · rintro ne ⟨q, m, hq, e⟩
    refine ⟨q, m, hq, ?_⟩
    unfold upR
    by_cases c : q = p
    · rw [if_pos c, lk_dr]
      rw [c] at e
      rw [if_neg (fun y => ne (by rw [y, hn] at e; exact (Option.some.inj e).symm))]
      exact e
    · rw [if_neg c]
      exact e
theorem gone_lk (v : Sv) (s k : Int) : lk ((v.gone s).fgt s).ths k = if k = s then none else (lk v.ths k).map (fgtT s) := by
  show lk (((dr v.ths s)).map fun t => (t.1, fgtT s t.2)) k = _
  rw [lk_mapK (fun _ t => fgtT s t) k (dr v.ths s), lk_dr]
  split <;> rfl
theorem K60.close (h : K60 z lab v r) (hp : p = 0 ∨ p = 1) (hn : lk (r p) n = some s) : K60 z lab (closeV v p n s) (upR r p (dr (r p) n)) := by
  have wf := h.wf.close (h.lkp hp) hn
  have ht : (v.cut p n).tabs = two (upR r p (dr (r p) n)) := by
    show upAt v.tabs p (fun r => dr r n) = _
    rw [h.tab]
    exact two_up hp _
  have hc := holds_two (s := s) (h.wf.cut0 p n) ht
  obtain ⟨c0, d0⟩ := hd_cut (k := 0) hp hn
  obtain ⟨c1, d1⟩ := hd_cut (k := 1) hp hn
  unfold closeV at wf ⊢
  by_cases c : holds (v.cut p n).tabs s = []
  · rw [if_pos c] at wf ⊢
    have ns : ¬ hd (upR r p (dr (r p) n)) s = true := fun y => hc.mpr y c
    have hl : ∀ k, lk (((v.cut p n).gone s).fgt s).ths k = if k = s then none else (lk v.ths k).map (fgtT s) := fun k => gone_lk (v.cut p n) s k
    refine ⟨wf, h.nz, ht, h.md, fun k tv e i => ?_, fun a0 a1 => ?_, fun a es row e => ?_⟩
    · rw [hl] at e
      split at e
      · cases e
      · obtain ⟨t0, e1, rfl⟩ := Option.map_eq_some_iff.mp e
        rw [fgt_kind] at i
        exact h.only k t0 e1 i
    · have n0 : (0 : Int) ≠ s := fun y => ns (by rw [← y]; exact a0)
      have n1 : (1 : Int) ≠ s := fun y => ns (by rw [← y]; exact a1)
      obtain ⟨w, a, row, hw, e⟩ := h.reg (c0 a0) (c1 a1)
      refine ⟨w, a, offR (labsE s [⟨1, 1, lab, w, a⟩]) row, hw, ?_⟩
      rw [hl, if_neg n0, e]
      show some (Tv.set (offE (labsE s [⟨1, 1, lab, w, a⟩]) [⟨1, 1, lab, w, a⟩]) _) = _
      have : labsE s [⟨1, 1, lab, w, a⟩] = [] := by
        unfold labsE
        rw [List.filter_cons_of_neg (by simpa using n1)]
        rfl
      rw [this]
      rfl
    · rw [hl] at e
      split at e
      · cases e
      · rename_i n0
        obtain ⟨t0, e1, e2⟩ := Option.map_eq_some_iff.mp e
        cases t0 with
        | src u f => cases e2
        | set es0 row0 =>
          have e2 : Tv.set (offE (labsE s es0) es0) (offR (labsE s es0) row0) = Tv.set es row := e2
          cases e2
          by_cases b : hd r 0 = true ∧ hd r 1 = true
          · obtain ⟨w, a', row', hw, e3⟩ := h.reg b.1 b.2
            rw [e1] at e3
            cases e3
            have : (1 : Int) = s := Decidable.byContradiction fun y => a ⟨d0 n0 b.1, d1 y b.2⟩
            subst this
            show offE (labsE 1 [⟨1, 1, lab, w, a'⟩]) [⟨1, 1, lab, w, a'⟩] = []
            have : labsE 1 [⟨1, 1, lab, w, a'⟩] = [lab] := by
              unfold labsE
              rw [List.filter_cons_of_pos (by simp)]
              rfl
            rw [this]
            unfold offE
            rw [List.filter_cons_of_neg (by simp)]
            rfl
          · have := h.off b _ _ e1
            subst this
            rfl
  · rw [if_neg c] at wf ⊢
    have hs : hd (upR r p (dr (r p) n)) s = true := hc.mp c
    have k0 : hd r 0 = true → hd (upR r p (dr (r p) n)) 0 = true := fun y => by
      by_cases e : (0 : Int) = s
      · rw [e]; exact hs
      · exact d0 e y
    have k1 : hd r 1 = true → hd (upR r p (dr (r p) n)) 1 = true := fun y => by
      by_cases e : (1 : Int) = s
      · rw [e]; exact hs
      · exact d1 e y
    exact ⟨wf, h.nz, ht, h.md, h.only, fun a0 a1 => h.reg (c0 a0) (c1 a1), fun a => h.off fun b => a ⟨k0 b.1, k1 b.2⟩⟩
theorem K60.add (h : K60 z lab v r) (hp : p = 0 ∨ p = 1) (hn : lk (r p) n = none) (n0 : 0 ≤ n ∧ n < z) (hs : hd r s = true) : K60 z lab (v.addRow p n s) (upR r p (r p ++ [(n, s)])) := by
  obtain ⟨p0, m0, q0, e0⟩ := hd_iff.mp hs
  have hk : s ∈ v.ths.map (·.1) := h.wf.th (p0, r p0) (lk_mem (h.lkp q0)) (m0, s) (lk_mem e0)
  have wf := h.wf.addRow (h.lkp hp) ⟨n0.1, by rw [h.nz]; exact n0.2, lk_none.mp hn⟩ hk
  have ht : (v.addRow p n s).tabs = two (upR r p (r p ++ [(n, s)])) := by
    show upAt v.tabs p (· ++ [(n, s)]) = _
    rw [h.tab]
    exact two_up hp _
  have hh : ∀ k, hd (upR r p (r p ++ [(n, s)])) k = hd r k := fun k => by
    rw [Bool.eq_iff_iff]
    constructor
    · intro y
      obtain ⟨q, m, hq, e⟩ := hd_iff.mp y
      unfold upR at e
      by_cases c : q = p
      · rw [if_pos c, lk_snoc hn] at e
        split at e
        · cases e
          exact hs
        · exact hd_iff.mpr ⟨p, m, hp, e⟩
      · rw [if_neg c] at e
        exact hd_iff.mpr ⟨q, m, hq, e⟩
    · intro y
      obtain ⟨q, m, hq, e⟩ := hd_iff.mp y
      refine hd_iff.mpr ⟨q, m, hq, ?_⟩
      unfold upR
      by_cases c : q = p
      · rw [c] at e
        rw [if_pos c, lk_snoc hn, if_neg (fun (y : m = n) => by rw [y, hn] at e; cases e)]
        exact e
      · rw [if_neg c]
        exact e
  exact ⟨wf, h.nz, ht, h.md, h.only, by rw [hh, hh]; exact h.reg, by rw [hh, hh]; exact h.off⟩
theorem K60.copy (h : K60 z lab v r) (hp : p = 0 ∨ p = 1) {m : Int} (hm : lk (r p) m = some s) (n0 : 0 ≤ n ∧ n < z) : ∃ r', K60 z lab (copyV v p n s (r p)) r' ∧ (∀ q, q ≠ p → r' q = r q) ∧ ∀ j, lk (r' p) j = if j = n then some s else lk (r p) j := by
  have hs : hd r s = true := hd_iff.mpr ⟨p, m, hp, hm⟩
  cases hc : lk (r p) n with
  | none =>
    have e : copyV v p n s (r p) = v.addRow p n s := by unfold copyV; rw [hc]
    rw [e]
    refine ⟨_, h.add hp hc n0 hs, fun q hq => if_neg hq, fun j => ?_⟩
    show lk (if p = p then r p ++ [(n, s)] else r p) j = _
    rw [if_pos rfl]
    exact lk_snoc hc
  | some old =>
    by_cases eo : old = s
    · have e : copyV v p n s (r p) = v := by unfold copyV; rw [hc]; exact if_pos eo
      rw [e]
      refine ⟨r, h, fun _ _ => rfl, fun j => ?_⟩
      by_cases c : j = n
      · rw [if_pos c, c, hc, eo]
      · rw [if_neg c]
    · have e : copyV v p n s (r p) = (closeV v p n old).addRow p n s := by unfold copyV; rw [hc]; exact if_neg eo
      rw [e]
      have h1 := h.close hp hc
      have e1 : upR r p (dr (r p) n) p = dr (r p) n := if_pos rfl
      have hn1 : lk (upR r p (dr (r p) n) p) n = none := by rw [e1, lk_dr, if_pos rfl]
      refine ⟨_, h1.add hp hn1 n0 ((hd_cut hp hc).2 (Ne.symm eo) hs), fun q hq => ?_, fun j => ?_⟩
      · unfold upR
        rw [if_neg hq, if_neg hq]
      · show lk (if p = p then upR r p (dr (r p) n) p ++ [(n, s)] else _) j = _
        rw [if_pos rfl, lk_snoc hn1, e1, lk_dr]
        split <;> rfl
end

/-! ### k60: what the system tells, what the tables tell -/
theorem k60_only_one {l : List Int} {a : Int} (nd : l.Nodup) (h : ∀ x, x ∈ l ↔ x = a) : l = [a] := by
  cases l with
  | nil => exact absurd ((h a).mpr rfl) (by simp)
  | cons b l =>
    have e := (h b).mp List.mem_cons_self
    subst e
    cases l with
    | nil => rfl
    | cons c l =>
      have e := (h c).mp (List.mem_cons_of_mem _ List.mem_cons_self)
      subst e
      simp at nd
theorem okW60 {z : Str} (h : z ∈ words) : PyData.strOk z = true := by
  unfold words at h
  simp only [List.mem_cons, List.not_mem_nil, or_false] at h
  rcases h with h | h | h <;> subst h <;> decide +kernel
theorem srt2 : srtI [0, 1] = [0, 1] := (srtI_eq (List.Perm.refl _) (by simp)).symm
section
variable {z lab p n s : Int} {v : Sv} {r : Int → List (Int × Int)}
theorem K60.ids (h : K60 z lab v r) : srtI (v.tabs.map (·.1)) = [0, 1] := by
  rw [h.tab]
  exact srt2
theorem K60.rchAt (h : K60 z lab v r) (hp : p = 0 ∨ p = 1) : rchAt v 0 1 1 p = (decide (lk (r p) 1 = some 1) && hB (r p) 0) := by
  unfold Wn.rchAt hB
  rw [h.lkp hp]
  show (decide ((1 : Int) ∈ numsL (r p) 1) && !(numsL (r p) 0).isEmpty) = _
  rw [decide_eq_decide.mpr numsL_mem]
theorem K60.bothAt (h : K60 z lab v r) (hp : p = 0 ∨ p = 1) : bothAt v 0 1 p = (hB (r p) 0 && hB (r p) 1) := by
  unfold Wn.bothAt hB
  rw [h.lkp hp]
def two1 (r : Int → List (Int × Int)) (p : Int) : Bool := hB (r p) 0 && hB (r p) 1
def rch1 (r : Int → List (Int × Int)) (p : Int) : Bool := two1 r p && decide (lk (r p) 1 = some 1)
theorem rch1_eq : (decide (lk (r p) 1 = some 1) && hB (r p) 0) = rch1 r p := by
  unfold rch1 two1
  by_cases c : lk (r p) 1 = some 1
  · rw [decide_eq_true c, hB_iff.mpr ⟨1, c⟩]
    simp
  · rw [decide_eq_false c]
    simp
theorem K60.reach (h : K60 z lab v r) : reachV v 0 1 1 = (rch1 r 0 || rch1 r 1) := by
  unfold reachV
  rw [h.ids]
  show (Wn.rchAt v 0 1 1 0 || (Wn.rchAt v 0 1 1 1 || false)) = _
  rw [h.rchAt (.inl rfl), h.rchAt (.inr rfl), rch1_eq, rch1_eq, Bool.or_false]
theorem K60.seal (h : K60 z lab v r) : sealV v 0 1 = !(two1 r 0 || two1 r 1) := by
  unfold sealV
  rw [h.ids]
  show (!(Wn.bothAt v 0 1 0 || (Wn.bothAt v 0 1 1 || false))) = _
  rw [h.bothAt (.inl rfl), h.bothAt (.inr rfl), Bool.or_false]
  rfl
theorem K60.sets (h : K60 z lab v r) {s : Int} (hs : s ∈ setsIn v) : s = 0 := by
  have hs := (setsIn_perm v).mem_iff.mp hs
  obtain ⟨t, ht, rfl⟩ := List.mem_map.mp hs
  obtain ⟨h1, h2⟩ := List.mem_filter.mp ht
  exact h.only t.1 t.2 (lk_of_mem h.wf.nds h1) h2
theorem K60.none (h : K60 z lab v r) (b : ¬ (hd r 0 = true ∧ hd r 1 = true)) : regsV v = [] ∧ regsD v = [] := by
  have e : ∀ s ∈ setsIn v, regsOf v s = [] := fun s hs => by
    have e := h.sets hs
    subst e
    unfold regsOf
    cases c : lk v.ths 0 with
    | none => rfl
    | some t =>
      cases t with
      | src u f => rfl
      | set es row => exact h.off b _ _ c
  refine ⟨?_, ?_⟩
  · unfold regsV
    exact List.flatMap_eq_nil_iff.mpr fun s hs => by rw [e s hs]; rfl
  · unfold regsD
    exact List.flatMap_eq_nil_iff.mpr fun s hs => by rw [e s hs]; rfl
theorem K60.one (h : K60 z lab v r) (b : hd r 0 = true ∧ hd r 1 = true) : ∃ w a row, w ∈ words ∧ lk v.ths 0 = some (.set [⟨1, 1, lab, w, a⟩] row) ∧ regsV v = [regV v 0 ⟨1, 1, lab, w, a⟩] ∧ (regsD v).length = 1 := by
  obtain ⟨w, a, row, hw, e⟩ := h.reg b.1 b.2
  have hset : setSers v = [0] := k60_only_one (setSers_nodup h.wf.w0) fun x => by
    constructor
    · intro hx
      exact h.sets ((setsIn_perm v).mem_iff.mpr hx)
    · rintro rfl
      exact List.mem_map.mpr ⟨_, List.mem_filter.mpr ⟨lk_mem e, rfl⟩, rfl⟩
  have hsi : setsIn v = [0] := by
    have := setsIn_perm v
    rw [hset] at this
    exact List.perm_singleton.mp this
  have hr : regsOf v 0 = [⟨1, 1, lab, w, a⟩] := by unfold regsOf; rw [e]
  refine ⟨w, a, row, hw, e, ?_, ?_⟩
  · unfold regsV
    rw [hsi]
    show ((regsOf v 0).map (regV v 0)) ++ [] = _
    rw [hr]
    rfl
  · unfold regsD
    rw [hsi]
    show (((regsOf v 0).map (regD v 0)) ++ []).length = 1
    rw [hr]
    rfl
theorem K60.reg_ok (h : K60 z lab v r) {x : Nat} {μ : Mu} : regM x v [] μ = .ok (.loc μ.nx) (μ.new (.lst (regsV v))) := by
  have : (regsD v).length ≤ 1 := by
    by_cases b : hd r 0 = true ∧ hd r 1 = true
    · obtain ⟨w, a, row, _, _, _, e⟩ := h.one b
      omega
    · rw [(h.none b).2]
      exact Nat.zero_le _
  unfold regM
  simp only
  rw [if_pos ⟨by rw [h.md]; decide, by omega⟩]
/-- a name of a thing that is held -/
theorem K60.name (h : K60 z lab v r) {s : Int} (hs : hd r s = true) : ∃ p n, nameAt v s = (p, n) ∧ (p = 0 ∨ p = 1) ∧ lk (r p) n = some s := by
  have hh := (holds_two h.wf.w0 h.tab).mpr hs
  have e1 := holds_eq v.tabs s
  unfold nameAt
  cases c : holds v.tabs s with
  | nil => exact absurd c hh
  | cons a l =>
    refine ⟨a.1, a.2, rfl, ?_⟩
    rw [c, h.ids] at e1
    have ha : a ∈ [0, 1].flatMap (hAt v.tabs s) := by rw [← e1]; exact List.mem_cons_self
    obtain ⟨p, hp, hp2⟩ := List.mem_flatMap.mp ha
    have hp01 : p = 0 ∨ p = 1 := by simpa using hp
    unfold hAt at hp2
    rw [h.lkp hp01] at hp2
    obtain ⟨n, hn, rfl⟩ := List.mem_map.mp hp2
    exact ⟨hp01, of_decide_eq_true (List.mem_filter.mp hn).2⟩
end
/-! the tables -/
def tag (s : Int) : Str := if s = 0 then "set" else if s = 1 then "source" else "other"
def gs (s : Int) : Val := .str (tag s)
theorem tag_set {s : Int} : tag s = "set" ↔ s = 0 := by
  unfold tag
  by_cases c : s = 0
  · simp [c]
  · by_cases d : s = 1
    · rw [if_neg c, if_pos d]
      exact ⟨fun z => absurd z (by decide +kernel), fun z => absurd z c⟩
    · rw [if_neg c, if_neg d]
      exact ⟨fun z => absurd z (by decide +kernel), fun z => absurd z c⟩
theorem tag_src {s : Int} : tag s = "source" ↔ s = 1 := by
  unfold tag
  by_cases c : s = 0
  · rw [if_pos c]
    exact ⟨fun z => absurd z (by decide +kernel), fun z => by omega⟩
  · by_cases d : s = 1
    · simp [d]
    · rw [if_neg c, if_neg d]
      exact ⟨fun z => absurd z (by decide +kernel), fun z => absurd z d⟩
theorem tag_ok (s : Int) : PyData.strOk (tag s) = true := by
  unfold tag
  split
  · decide +kernel
  · split <;> decide +kernel
theorem kGet_of {kvs : List (Key × Val)} (nd : (kvs.map (·.1)).Nodup) {q : Key × Val} (h : q ∈ kvs) : kGet kvs q.1 = some q.2 := by
  induction kvs with
  | nil => cases h
  | cons p l ih =>
    have nd := List.nodup_cons.mp (show (p.1 :: l.map (·.1)).Nodup from nd)
    rcases List.mem_cons.mp h with e | h
    · rw [e]
      exact kGet_pos rfl
    · rw [kGet_neg (fun z => nd.1 (by rw [z]; exact List.mem_map.mpr ⟨q, h, rfl⟩))]
      exact ih nd.2 h
theorem of_kGet {kvs : List (Key × Val)} {k : Key} {x : Val} (h : kGet kvs k = some x) : (k, x) ∈ kvs := by
  induction kvs with
  | nil => cases h
  | cons p l ih =>
    by_cases e : p.1 = k
    · rw [kGet_pos e] at h
      cases h
      rw [← e]
      exact List.mem_cons_self
    · rw [kGet_neg e] at h
      exact List.mem_cons_of_mem _ (ih h)
theorem strs_all : ∀ {kvs : List (Key × Val)}, (∀ q ∈ kvs, ∃ s, q.2 = gs s) → ∃ ss : List Int, strsOf kvs = some (ss.map tag) ∧ kvs.map (·.2) = ss.map gs
  | [], _ => ⟨[], rfl, rfl⟩
  | (k, x) :: l, h => by
    obtain ⟨ss, e1, e2⟩ := strs_all (kvs := l) fun q hq => h q (List.mem_cons_of_mem _ hq)
    obtain ⟨s, hs⟩ := h _ List.mem_cons_self
    have hs : x = gs s := hs
    subst hs
    refine ⟨s :: ss, ?_, by rw [List.map_cons, List.map_cons, e2]⟩
    rw [strsOf, e1]
    rfl
theorem DR.tags {kvs : List (Key × Val)} {rows : List (Int × Int)} (d : DR kvs rows gs) : ∃ ss : List Int, strsOf kvs = some (ss.map tag) ∧ kvs.map (·.2) = ss.map gs ∧ ∀ s, (s = 0 ∨ s = 1) → (tag s ∈ ss.map tag ↔ hB rows s = true) := by
  have hq : ∀ q ∈ kvs, ∃ n s, q = (.inl n, gs s) ∧ lk rows n = some s := fun q hq => by
    obtain ⟨l, hl⟩ := d.int
    have : q.1 ∈ l.map Sum.inl := by rw [← hl]; exact List.mem_map.mpr ⟨q, hq, rfl⟩
    obtain ⟨n, _, en⟩ := List.mem_map.mp this
    have e1 := kGet_of d.nd hq
    rw [← en, d.get] at e1
    obtain ⟨s, h1, h2⟩ := Option.map_eq_some_iff.mp e1
    exact ⟨n, s, by rw [h2, en], h1⟩
  obtain ⟨ss, e1, e2⟩ := strs_all (kvs := kvs) fun q h => by
    obtain ⟨n, s, e, _⟩ := hq q h
    exact ⟨s, by rw [e]⟩
  refine ⟨ss, e1, e2, fun s hs => ?_⟩
  have same : ∀ {t : Int}, tag t = tag s → t = s := fun {t} e => by
    rcases hs with rfl | rfl
    · exact tag_set.mp (e.trans (tag_set.mpr rfl))
    · exact tag_src.mp (e.trans (tag_src.mpr rfl))
  rw [hB_iff]
  constructor
  · intro h
    obtain ⟨t, ht, e⟩ := List.mem_map.mp h
    have et := same e
    subst et
    have : gs t ∈ kvs.map (·.2) := by rw [e2]; exact List.mem_map.mpr ⟨t, ht, rfl⟩
    obtain ⟨q, hq1, hq2⟩ := List.mem_map.mp this
    obtain ⟨n, u, e3, e4⟩ := hq q hq1
    rw [e3] at hq2
    have : tag u = tag t := Val.str.inj hq2
    exact ⟨n, by rw [e4, same this]⟩
  · rintro ⟨n, hn⟩
    have e3 := d.get n
    rw [hn] at e3
    have : gs s ∈ kvs.map (·.2) := List.mem_map.mpr ⟨_, of_kGet e3, rfl⟩
    rw [e2] at this
    obtain ⟨t, ht, e⟩ := List.mem_map.mp this
    have : tag t = tag s := Val.str.inj e
    exact List.mem_map.mpr ⟨t, ht, this⟩

/-! ### k60: what the tables tell, walked -/
def K2 (d : Int → Nat) : List (Key × Val) := [(.inl 0, .loc (d 0)), (.inl 1, .loc (d 1))]
structure T60 (μ : Mu) (t : Nat) (d : Int → Nat) (r : Int → List (Int × Int)) : Prop where
  ht : μ.ob t = some (.dct (K2 d))
  tl : t < μ.nx
  tb : ∀ p, (p = 0 ∨ p = 1) → d p < μ.nx ∧ t ≠ d p ∧ ∃ kvs, μ.ob (d p) = some (.dct kvs) ∧ DR kvs (r p) gs
theorem op2 {f : Val → Val → Mu → R Val} {A B : ME} {ρ : Rho} {μ μ1 μ2 : Mu} {a b : Val} (hA : A ρ μ = .ok a μ1) (hB : B ρ μ1 = .ok b μ2) : mOp f A B ρ μ = f a b μ2 := by
  unfold mOp
  rw [hA, Wn.R.bind_ok, hB, Wn.R.bind_ok]
theorem ret3 {A B C : ME} {ρ : Rho} {μ μ1 μ2 μ3 : Mu} {a b c : Val} (hA : A ρ μ = .ok a μ1) (hB : B ρ μ1 = .ok b μ2) (hC : C ρ μ2 = .ok c μ3) : sRet (mLst (mCons A (mCons B (mCons C mNil)))) ρ μ = .ok (.rt (.loc μ3.nx)) (μ3.new (.lst [a, b, c])) := by
  simp only [mChain, isiM, sDst2, neD0M, Wn.R.bind_ok, Wn.R.bind_no, Wn.R.cut_ok, Wn.R.cut_no, sThen_nx, sThen_rt, sThen_bk, sThen_ct, mC, mV, mNil, mCons, mTup, mLst, mOp, mUn, mFn, mMt, boolM, mTest, mAnd, mOr, mNot, mIf, mBl, mAndV, mOrV, mNotV, mAndT, mOrT, truM, List.isEmpty_cons, List.isEmpty_nil, addM, subM, mulM, modM, fdivM, powM, negM, ltM, leM, gtM, geM, cmpI, isM', isntM, isNon, getM, dgetM, slM, mSl, mP, mP0, lenM, listM, tupleM, minM, maxM, absM, intM, sortedM, mBm, lstOf, appM, popM, extM, idxM, remLM, sNil, sSeq, sSet, sExpr, sRet, sRetN, sIf, sBrk, sCnt, sPar, sPar3, sAsg, tgN, tgT, unp, stoM, dstoM, sSto, Wk.items, iSeq, iRng1, iRng2, iEnm, mCall, mMeth, sysOf, onSys, mMethK, mMake, mMakeK, makM, mYes, mListR1, mListR2, intBM, startV, seqOf, keyOf, List.getElem?_cons_zero, List.getElem?_cons_succ, List.getElem?_nil, List.set_cons_zero, List.set_cons_succ, List.map_cons, List.map_nil, List.length_cons, List.length_nil, List.cons_append, List.nil_append, List.append_nil, List.replicate, Nat.reduceAdd, Nat.reduceSub, Nat.reduceLeDiff, Nat.reduceLT, Nat.reduceEqDiff, Int.reduceLT, Int.reduceLE, Int.reduceNeg, Int.reducePow, ite_true, ite_false, if_true, if_false, reduceIte, Bool.false_eq_true, Bool.true_eq_false, Bool.not_true, Bool.not_false, and_self, and_true, true_and, Mu.put_same, Mu.new_same, Mu.put_nx, Mu.new_nx, Nat.zero_add, Nat.le_refl, Goes_nx, Gets_ok, Rets_nx, Rets_rt, CMul, CDiv, CPow, or_true, true_or, or_self, not_true, not_false_iff, mDm, dctV, popDM, getDM, mDisp, mPrs, kvOf, decide_false, decide_true, Int.reduceToNat, Nat.reducePow, Int.reduceAdd, Int.reduceSub, Int.reduceMul, hA, hB, hC]
theorem kee_unlk {h t : Nat} {μ μ' : Mu} {K : List (Key × Val)} {S : List Nat} (kp : Kee S (μ.put t (.rod K)) μ') (e : μ.ob t = some (.dct K)) (tl : t < μ.nx) : Kee S μ (μ'.put t (.dct K)) := ⟨kp.le, fun n hn q => by
  by_cases c : n = t
  · subst c
    rw [Mu.put_same, e]
  · rw [Mu.put_ne _ _ c, kp.ob n hn q, Mu.put_ne _ _ c]⟩
theorem k2_get {d : Int → Nat} {p : Int} (hp : p = 0 ∨ p = 1) : kGet (K2 d) (.inl p) = some (.loc (d p)) := by
  rcases hp with rfl | rfl <;> rfl
theorem dget2 {d : Int → Nat} {p : Int} {μ : Mu} {t : Nat} (hp : p = 0 ∨ p = 1) (h : dctOf μ t = some (K2 d)) : dgetM (.loc t) (.int p) μ = .ok (.loc (d p)) μ := by
  unfold dgetM
  simp only [h, keyOf, k2_get hp]
theorem T60.keep {S : List Nat} {μ μ' : Mu} {t : Nat} {d : Int → Nat} {r : Int → List (Int × Int)} (h : T60 μ t d r) (kp : Kee S μ μ') (nt : t ∉ S) (nd : ∀ p, (p = 0 ∨ p = 1) → d p ∉ S) : T60 μ' t d r :=
  ⟨(kp.ob _ h.tl nt).trans h.ht, kp.lt h.tl, fun p hp => by
    obtain ⟨a, b, kvs, e, q⟩ := h.tb p hp
    exact ⟨kp.lt a, b, kvs, (kp.ob _ a (nd p hp)).trans e, q⟩⟩
def rd (t : Nat) (v2 v3 v4 v5 : Option Val) : Rho := [some (.loc t), some (.int 1), v2, v3, v4, v5]
/-- a table's strings -/
def TgL (kvs : List (Key × Val)) (rows : List (Int × Int)) (ss : List Int) : Prop := strsOf kvs = some (ss.map tag) ∧ kvs.map (·.2) = ss.map gs ∧ ∀ s, (s = 0 ∨ s = 1) → (tag s ∈ ss.map tag ↔ hB rows s = true)
section
variable {μ : Mu} {t h : Nat} {d : Int → Nat} {r : Int → List (Int × Int)} {z lab : Int} {v : Sv} {v2 v3 v4 v5 : Option Val}
theorem due_ext {A : List Val} {p : Int} {kvs : List (Key × Val)} (hp : p = 0 ∨ p = 1) (e1 : dctOf μ t = some (K2 d)) (e2 : μ.ob (d p) = some (.dct kvs)) (e3 : μ.ob h = some (.lst A)) (hl : h < μ.nx) (hz : A.length + kvs.length ≤ 1000000) :
    m__law_due_1 (rd t (some (.loc h)) (some (.int p)) v4 v5) μ = .ok (.nx (rd t (some (.loc h)) (some (.int p)) v4 v5)) ((μ.new (.lst (kvs.map (·.2)))).put h (.lst (A ++ kvs.map (·.2)))) := by
  have g := dget2 hp e1
  have n1 : (μ.new (.lst (kvs.map (·.2)))).ob h = some (.lst A) := (Mu.new_ne _ _ (by omega)).trans e3
  have L : mListVals (mOp dgetM (mV 0) (mV 3)) (rd t (some (.loc h)) (some (.int p)) v4 v5) μ = .ok (.loc μ.nx) (μ.new (.lst (kvs.map (·.2)))) := by
    unfold mListVals
    rw [op2 (a := .loc t) (b := .int p) (μ1 := μ) (μ2 := μ) rfl rfl, g]
    simp only [Wn.R.bind_ok, e2]
  have hz2 : A.length + (kvs.map (·.2)).length ≤ 1000000 := by rw [List.length_map]; exact hz
  have l0 : lstOf (.loc h) μ = some (h, A) := by unfold lstOf; simp only [e3]
  have l1 : lstOf (.loc h) (μ.new (.lst (kvs.map (·.2)))) = some (h, A) := by unfold lstOf; simp only [n1]
  have l2 : lstOf (.loc μ.nx) (μ.new (.lst (kvs.map (·.2)))) = some (μ.nx, kvs.map (·.2)) := by unfold lstOf; simp only [Mu.new_same]
  unfold m__law_due_1 sExpr mBm
  rw [show (mV 2) (rd t (some (.loc h)) (some (.int p)) v4 v5) μ = .ok (.loc h) μ from rfl, Wn.R.bind_ok]
  simp only [l0]
  unfold mCons mNil
  rw [L]
  simp only [Wn.R.bind_ok]
  unfold extM
  simp only [l1, l2]
  rw [if_pos hz2]
  rfl
theorem rows8 (k : K60 z lab v r) {p : Int} (hp : p = 0 ∨ p = 1) : ((r p).map (·.1)).Nodup ∧ (r p).length ≤ 8 := ⟨k.wf.ndn (p, r p) (lk_mem (k.lkp hp)), k.wf.w0.rows8 (t := (p, r p)) (lk_mem (k.lkp hp))⟩
theorem due_held (k : K60 z lab v r) (Y : T60 μ t d r) (eh : μ.ob h = some (.lst [])) (hl : h < μ.nx) (ht : h ≠ t) (hd' : ∀ p, (p = 0 ∨ p = 1) → h ≠ d p) :
    Goes (sLk 0 (sFor (iKey 0) (tgN 3) (m__law_due_1)) (rd t (some (.loc h)) v3 v4 v5) μ) fun ρ' μ' => (∃ v3, ρ' = rd t (some (.loc h)) v3 v4 v5) ∧ Kee [h] μ μ' ∧ ∃ ss : List Int, ss.length ≤ 16 ∧ μ'.ob h = some (.lst (ss.map gs)) ∧ ∀ s, (s = 0 ∨ s = 1) → (tag s ∈ ss.map tag ↔ hd r s = true) := by
  obtain ⟨a0, b0, k0, o0, d0⟩ := Y.tb 0 (.inl rfl)
  obtain ⟨a1, b1, k1, o1, d1⟩ := Y.tb 1 (.inr rfl)
  obtain ⟨s0, f0, g0, h0⟩ := d0.tags
  obtain ⟨s1, f1, g1, h1⟩ := d1.tags
  obtain ⟨n0, l0⟩ := rows8 k (.inl rfl)
  obtain ⟨n1, l1⟩ := rows8 k (.inr rfl)
  have L0 := d0.len n0
  have L1 := d1.len n1
  have z0 : s0.length = k0.length := by have := congrArg List.length g0; simpa using this.symm
  have z1 : s1.length = k1.length := by have := congrArg List.length g1; simpa using this.symm
  unfold sLk
  simp only [show (rd t (some (.loc h)) v3 v4 v5)[0]? = some (some (.loc t)) from rfl, Y.ht]
  refine Goes.unlk (kvs := K2 d) ?_
  obtain ⟨μL, hμL⟩ : ∃ μL, μ.put t (.rod (K2 d)) = μL := ⟨_, rfl⟩
  rw [hμL]
  have nL : μL.nx = μ.nx := by rw [← hμL]; rfl
  have oT : μL.ob t = some (.rod (K2 d)) := by rw [← hμL]; exact Mu.put_same _ _ _
  have oth : ∀ n, n ≠ t → μL.ob n = μ.ob n := fun n hn => by rw [← hμL]; exact Mu.put_ne _ _ hn
  have acc : ∀ p (hp : p = 0 ∨ p = 1) kvs A μ', μ.ob (d p) = some (.dct kvs) → Kee [h] μL μ' → μ'.ob h = some (.lst A) → A.length + kvs.length ≤ 1000000 → ∀ v3, ∃ ρ1, tgN 3 (.int p) (rd t (some (.loc h)) v3 v4 v5) = some ρ1 ∧ Goes (m__law_due_1 ρ1 μ') fun ρ' μ'' => (∃ v3, ρ' = rd t (some (.loc h)) v3 v4 v5) ∧ Kee [h] μL μ'' ∧ μ''.ob h = some (.lst (A ++ kvs.map (·.2))) := fun p hp kvs A μ' e kp ha hz v3 => by
    obtain ⟨a, b, _⟩ := Y.tb p hp
    refine ⟨rd t (some (.loc h)) (some (.int p)) v4 v5, rfl, ?_⟩
    have e1 : dctOf μ' t = some (K2 d) := by unfold dctOf; rw [kp.ob t (by rw [nL]; exact Y.tl) (by simpa using Ne.symm ht), oT]
    have e2 : μ'.ob (d p) = some (.dct kvs) := by rw [kp.ob (d p) (by rw [nL]; exact a) (by simpa using Ne.symm (hd' p hp)), oth _ (Ne.symm b), e]
    rw [due_ext hp e1 e2 ha (kp.lt (by rw [nL]; exact hl)) hz]
    exact ⟨⟨_, rfl⟩, (kp.newN).putN (.inr (by simp)), Mu.put_same _ _ _⟩
  refine sFor_goes (k := .key t) (μ1 := μL) (vs := [.int 0, .int 1]) ?_ ?_ (fun j ρ μ' => (∃ v3, ρ = rd t (some (.loc h)) v3 v4 v5) ∧ Kee [h] μL μ' ∧ μ'.ob h = some (.lst (match j with | 0 => [] | 1 => k0.map (·.2) | _ => k0.map (·.2) ++ k1.map (·.2)))) ⟨⟨_, rfl⟩, Kee.refl _ _, (oth h ht).trans eh⟩ ?_ ?_ ?_
  · unfold iKey
    simp only [show (rd t (some (.loc h)) v3 v4 v5)[0]? = some (some (.loc t)) from rfl, oT]
  · rw [key_items oT]
    rfl
  · rintro j ρ μ' _ ⟨_, kp, _⟩
    rw [key_items ((kp.ob t (by rw [nL]; exact Y.tl) (by simpa using Ne.symm ht)).trans oT)]
    rfl
  · rintro j x ρ μ' hj ⟨⟨v3, rfl⟩, kp, ha⟩
    cases j with
    | zero =>
      cases hj
      exact acc 0 (.inl rfl) k0 [] μ' o0 kp ha (by show 0 + k0.length ≤ _; omega) v3
    | succ j =>
      cases j with
      | zero =>
        cases hj
        exact acc 1 (.inr rfl) k1 (k0.map (·.2)) μ' o1 kp ha (by rw [List.length_map]; omega) v3
      | succ j => cases hj
  · rintro ρ μ' ⟨⟨v3, rfl⟩, kp, ha⟩
    refine ⟨(kp.ob t (by rw [nL]; exact Y.tl) (by simpa using Ne.symm ht)).trans oT, ⟨_, rfl⟩, ?_, s0 ++ s1, by rw [List.length_append]; omega, ?_, fun s hs => ?_⟩
    · rw [← hμL] at kp
      exact kee_unlk (h := h) kp Y.ht Y.tl
    · rw [Mu.put_ne _ _ ht, ha]
      show some (Ob.lst (k0.map (·.2) ++ k1.map (·.2))) = _
      rw [g0, g1, List.map_append]
    · rw [List.map_append, List.mem_append, h0 s hs, h1 s hs]
      unfold hd
      rw [Bool.or_eq_true]
theorem in_vals {p : Int} {kvs : List (Key × Val)} {ss : List Int} {s : Int} (hs : s = 0 ∨ s = 1) (hp : p = 0 ∨ p = 1) (e1 : dctOf μ t = some (K2 d)) (e2 : μ.ob (d p) = some (.dct kvs)) (g : TgL kvs (r p) ss) {y : Str} (hy : y = tag s) :
    mInVals (mC (.str y)) (mOp dgetM (mV 0) (mV 3)) (rd t v2 (some (.int p)) v4 v5) μ = .ok (hB (r p) s) μ := by
  subst hy
  unfold mInVals
  rw [show mC (.str (tag s)) (rd t v2 (some (.int p)) v4 v5) μ = .ok (.str (tag s)) μ from rfl, Wn.R.bind_ok, op2 (a := .loc t) (b := .int p) (μ1 := μ) (μ2 := μ) rfl rfl, dget2 hp e1, Wn.R.bind_ok]
  simp only [e2, g.1]
  congr 1
  rw [Bool.eq_iff_iff, decide_eq_true_eq]
  exact g.2.2 s hs
def bothL (r : Int → List (Int × Int)) : List Int := ([0, 1] : List Int).filter (two1 r)
theorem due_both (Y : T60 μ t d r) : ∃ μ', sLk 0 (sSet 4 (mLc (iKey 0) [3] (tgN 3) (mAnd (mInVals (mC (.str "set")) (mOp dgetM (mV 0) (mV 3))) (mInVals (mC (.str "source")) (mOp dgetM (mV 0) (mV 3)))) (mV 3))) (rd t v2 v3 v4 v5) μ = .ok (.nx (rd t v2 v3 (some (.loc μ.nx)) v5)) μ' ∧ Kee [] μ μ' ∧ μ'.nx = μ.nx + 1 ∧ μ'.ob μ.nx = some (.lst ((bothL r).map Val.int)) := by
  obtain ⟨μL, hμL⟩ : ∃ μL, μ.put t (.rod (K2 d)) = μL := ⟨_, rfl⟩
  have nL : μL.nx = μ.nx := by rw [← hμL]; rfl
  have oT : μL.ob t = some (.rod (K2 d)) := by rw [← hμL]; exact Mu.put_same _ _ _
  have oth : ∀ n, n ≠ t → μL.ob n = μ.ob n := fun n hn => by rw [← hμL]; exact Mu.put_ne _ _ hn
  have tl := Y.tl
  have oT2 : ∀ acc, (μL.new (.lst acc)).ob t = some (.rod (K2 d)) := fun acc => (Mu.new_ne _ _ (by omega)).trans oT
  have L := mLc_pure (it := iKey 0) (own := [3]) (g := tgN 3) (c := mAnd (mInVals (mC (.str "set")) (mOp dgetM (mV 0) (mV 3))) (mInVals (mC (.str "source")) (mOp dgetM (mV 0) (mV 3)))) (elt := mV 3) (ρ0 := rd t v2 v3 v4 v5) (μ0 := μL) (μ := μL) (k := .key t) (vs := ([0, 1] : List Int).map Val.int) (rv := fun x => rd t v2 (some x) v4 v5) (p := fun x => match x with | .int p => two1 r p | _ => false) (f := fun x => x)
    (by unfold iKey; simp only [show (rd t v2 v3 v4 v5)[0]? = some (some (.loc t)) from rfl, oT]) (by rw [key_items oT]; rfl) (by decide) (fun acc => by rw [key_items (oT2 acc)]; rfl) (fun _ _ => rfl) (fun x hx acc => by
      obtain ⟨p, hp, rfl⟩ := List.mem_map.mp hx
      have hp01 : p = 0 ∨ p = 1 := by simpa using hp
      obtain ⟨a, b, kvs, o, dd⟩ := Y.tb p hp01
      obtain ⟨ss, q1, q2, q3⟩ := dd.tags
      have e1 : dctOf (μL.new (.lst acc)) t = some (K2 d) := by unfold dctOf; rw [oT2 acc]
      have e2 : (μL.new (.lst acc)).ob (d p) = some (.dct kvs) := by rw [Mu.new_ne _ _ (by omega), oth _ (Ne.symm b), o]
      unfold mAnd
      rw [in_vals (s := 0) (.inl rfl) hp01 e1 e2 ⟨q1, q2, q3⟩ (by decide +kernel), Wn.R.bind_ok]
      show _ = Wn.R.ok (two1 r p) _
      unfold two1
      cases hB (r p) 0 with
      | false => rfl
      | true =>
        rw [if_pos rfl, in_vals (s := 1) (.inr rfl) hp01 e1 e2 ⟨q1, q2, q3⟩ (by decide +kernel)]
        rfl) (fun x hx _ acc => rfl)
  have eF : ((([0, 1] : List Int).map Val.int).filter fun x => match x with | .int p => two1 r p | _ => false).map (fun x => x) = (bothL r).map Val.int := by
    rw [List.map_id', List.filter_map]
    rfl
  rw [eF] at L
  unfold sLk
  simp only [show (rd t v2 v3 v4 v5)[0]? = some (some (.loc t)) from rfl, Y.ht]
  rw [hμL]
  unfold sSet
  rw [L, Wn.R.bind_ok]
  unfold Wn.unlk
  simp only [oT2]
  refine ⟨(μL.new (.lst ((bothL r).map Val.int))).put t (.dct (K2 d)), by rw [← nL]; rfl, ?_, by show μL.nx + 1 = _; rw [nL], ?_⟩
  · refine kee_unlk (h := t) (S := []) ?_ Y.ht Y.tl
    rw [hμL]
    exact Kee.new
  · rw [Mu.put_ne _ _ (by omega), ← nL]
    exact Mu.new_same _ _
end

/-! ### k60: what is due, what is found, whether both agree -/
def reachL (r : Int → List (Int × Int)) : List Int := (bothL r).filter fun p => decide (lk (r p) 1 = some 1)
theorem boths (r : Int → List (Int × Int)) : (bothL r).isEmpty = !(two1 r 0 || two1 r 1) := by
  unfold bothL
  by_cases a : two1 r 0 = true <;> by_cases b : two1 r 1 = true <;> simp [a, b]
theorem reachs (r : Int → List (Int × Int)) : (!(reachL r).isEmpty) = (rch1 r 0 || rch1 r 1) := by
  unfold reachL bothL rch1
  rw [List.filter_filter]
  by_cases a : two1 r 0 = true <;> by_cases b : two1 r 1 = true <;> by_cases c : lk (r 0) 1 = some 1 <;> by_cases e : lk (r 1) 1 = some 1 <;> simp [a, b, c, e]
section
variable {μ : Mu} {t h x : Nat} {d : Int → Nat} {r : Int → List (Int × Int)} {z lab : Int} {v : Sv} {v2 v3 v4 v5 : Option Val}
theorem eqv_str (a b : Str) : PyData.eqv (.str a) (.str b) = (a == b) := rfl
theorem dat_tag (μ : Mu) (s : Int) : datM μ (gs s) = some (.str (tag s)) := by
  show (if PyData.strOk (tag s) = true then some (PyData.str (tag s)) else none) = _
  rw [if_pos (tag_ok s)]
theorem emp_ne {a : Nat} {l : List Int} (e : μ.ob a = some (.lst (l.map Val.int))) (al : a < μ.nx) : neM (.loc a) (.loc μ.nx) (μ.new (.lst [])) = .ok (.bl (!l.isEmpty)) (μ.new (.lst [])) := by
  have d1 := dat_ints (seqOf_lst ((Mu.new_ne μ (m := a) (.lst []) (by omega)).trans e))
  have d2 : datM (μ.new (.lst [])) (.loc μ.nx) = some (.list []) := dat_ints (l := []) (seqOf_lst (Mu.new_same _ _))
  unfold neM
  rw [d1, d2]
  simp only
  rw [eqv_ints_nil]
theorem emp_eq {a : Nat} {l : List Int} (e : μ.ob a = some (.lst (l.map Val.int))) (al : a < μ.nx) : eqM (.loc a) (.loc μ.nx) (μ.new (.lst [])) = .ok (.bl l.isEmpty) (μ.new (.lst [])) := by
  have d1 := dat_ints (seqOf_lst ((Mu.new_ne μ (m := a) (.lst []) (by omega)).trans e))
  have d2 : datM (μ.new (.lst [])) (.loc μ.nx) = some (.list []) := dat_ints (l := []) (seqOf_lst (Mu.new_same _ _))
  unfold eqM
  rw [d1, d2]
  simp only
  rw [eqv_ints_nil]
theorem any_tag (ss : List Int) (y : Str) : ((ss.map fun s => PyData.str (tag s)).any fun q => PyData.eqv q (.str y)) = decide (y ∈ ss.map tag) := by
  induction ss with
  | nil => rfl
  | cons a l ih =>
    rw [List.map_cons, List.any_cons, ih, eqv_str]
    by_cases c : tag a = y
    · simp [c]
    · by_cases e : y ∈ l.map tag
      · simp [e]
      · simp [e, c, Ne.symm c]
theorem in_tags {ss : List Int} {s : Int} {y : Str} (hy : y = tag s) (e : μ.ob h = some (.lst (ss.map gs))) : inM (.str y) (.loc h) μ = .ok (.bl (decide (tag s ∈ ss.map tag))) μ := by
  subst hy
  unfold inM hasM
  have a1 : datM μ (.str (tag s)) = some (.str (tag s)) := dat_tag μ s
  have a2 : allO ((ss.map gs).map (datM μ)) = some (ss.map fun s => PyData.str (tag s)) := by
    rw [List.map_map]
    exact allO_some (f := datM μ ∘ gs) fun s _ => dat_tag μ s
  simp only [e, a1, a2]
  rw [any_tag]
theorem due_reached (Y : T60 μ t d r) {bb : Nat} (eb : μ.ob bb = some (.lst ((bothL r).map Val.int))) (bl : bb < μ.nx) :
    m__law_due_3 (rd t v2 v3 (some (.loc bb)) v5) μ = .ok (.nx (rd t v2 v3 (some (.loc bb)) (some (.loc μ.nx)))) (μ.new (.lst ((reachL r).map Val.int))) := by
  have tl := Y.tl
  have hin : ∀ p ∈ bothL r, p = 0 ∨ p = 1 := fun p hp => by simpa using (List.mem_filter.mp hp).1
  have hlen : (bothL r).length ≤ 2 := List.length_filter_le (two1 r) [0, 1]
  have L := mLc_pure (it := iSeq (mV 4)) (own := [3]) (g := tgN 3) (c := mTest (mOp eqM (mDm getDM (mOp dgetM (mV 0) (mV 3)) (mV 1)) (mC (.str "source")))) (elt := mV 3) (ρ0 := rd t v2 v3 (some (.loc bb)) v5) (μ0 := μ) (μ := μ) (k := .seq (.loc bb)) (vs := (bothL r).map Val.int) (rv := fun y => rd t v2 (some y) (some (.loc bb)) v5) (p := fun y => match y with | .int p => decide (lk (r p) 1 = some 1) | _ => false) (f := fun y => y)
    (by unfold rd; simp only [mChain, isiM, sDst2, neD0M, Wn.R.bind_ok, Wn.R.bind_no, Wn.R.cut_ok, Wn.R.cut_no, sThen_nx, sThen_rt, sThen_bk, sThen_ct, mC, mV, mNil, mCons, mTup, mLst, mOp, mUn, mFn, mMt, boolM, mTest, mAnd, mOr, mNot, mIf, mBl, mAndV, mOrV, mNotV, mAndT, mOrT, truM, List.isEmpty_cons, List.isEmpty_nil, addM, subM, mulM, modM, fdivM, powM, negM, ltM, leM, gtM, geM, cmpI, isM', isntM, isNon, getM, dgetM, slM, mSl, mP, mP0, lenM, listM, tupleM, minM, maxM, absM, intM, sortedM, mBm, lstOf, appM, popM, extM, idxM, remLM, sNil, sSeq, sSet, sExpr, sRet, sRetN, sIf, sBrk, sCnt, sPar, sPar3, sAsg, tgN, tgT, unp, stoM, dstoM, sSto, Wk.items, iSeq, iRng1, iRng2, iEnm, mCall, mMeth, sysOf, onSys, mMethK, mMake, mMakeK, makM, mYes, mListR1, mListR2, intBM, startV, seqOf, keyOf, List.getElem?_cons_zero, List.getElem?_cons_succ, List.getElem?_nil, List.set_cons_zero, List.set_cons_succ, List.map_cons, List.map_nil, List.length_cons, List.length_nil, List.cons_append, List.nil_append, List.append_nil, List.replicate, Nat.reduceAdd, Nat.reduceSub, Nat.reduceLeDiff, Nat.reduceLT, Nat.reduceEqDiff, Int.reduceLT, Int.reduceLE, Int.reduceNeg, Int.reducePow, ite_true, ite_false, if_true, if_false, reduceIte, Bool.false_eq_true, Bool.true_eq_false, Bool.not_true, Bool.not_false, and_self, and_true, true_and, Mu.put_same, Mu.new_same, Mu.put_nx, Mu.new_nx, Nat.zero_add, Nat.le_refl, Goes_nx, Gets_ok, Rets_nx, Rets_rt, CMul, CDiv, CPow, or_true, true_or, or_self, not_true, not_false_iff, mDm, dctV, popDM, getDM, mDisp, mPrs, kvOf, decide_false, decide_true, Int.reduceToNat, Nat.reducePow, Int.reduceAdd, Int.reduceSub, Int.reduceMul, eb]) (seqOf_lst eb) (by rw [List.length_map]; omega) (fun acc => seqOf_lst ((Mu.new_ne _ _ (by omega)).trans eb)) (fun _ _ => rfl) (fun y hy acc => by
      obtain ⟨p, hp, rfl⟩ := List.mem_map.mp hy
      have hp01 := hin p hp
      obtain ⟨a, b, kvs, o, dd⟩ := Y.tb p hp01
      have e1 : dctOf (μ.new (.lst acc)) t = some (K2 d) := by unfold dctOf; rw [Mu.new_ne _ _ (by omega), Y.ht]
      have e2 : dctOf (μ.new (.lst acc)) (d p) = some kvs := by unfold dctOf; rw [Mu.new_ne _ _ (by omega), o]
      have e3 : mDm getDM (mOp dgetM (mV 0) (mV 3)) (mV 1) (rd t v2 (some (.int p)) (some (.loc bb)) v5) (μ.new (.lst acc)) = .ok (((lk (r p) 1).map gs).getD .non) (μ.new (.lst acc)) := by
        unfold mDm
        rw [op2 (a := .loc t) (b := .int p) (μ1 := μ.new (.lst acc)) (μ2 := μ.new (.lst acc)) rfl rfl, dget2 hp01 e1, Wn.R.bind_ok]
        unfold dctV
        simp only [e2]
        rw [show mV 1 (rd t v2 (some (.int p)) (some (.loc bb)) v5) (μ.new (.lst acc)) = .ok (.int 1) (μ.new (.lst acc)) from rfl, Wn.R.bind_ok]
        unfold getDM
        simp only [e2, keyOf, dd.get]
      refine test2 e3 (show mC (.str "source") _ _ = .ok (.str "source") (μ.new (.lst acc)) from rfl) ?_
      have ds : datM (μ.new (.lst acc)) (.str "source") = some (.str "source") := by
        show (if PyData.strOk "source" = true then some (PyData.str "source") else none) = _
        rw [if_pos (by decide +kernel)]
      unfold eqM
      show (match datM (μ.new (.lst acc)) (((lk (r p) 1).map gs).getD .non), datM (μ.new (.lst acc)) (.str "source") with | some d, some e => (Wn.R.ok (Val.bl (PyData.eqv d e)) (μ.new (.lst acc)) : Wn.R Val) | _, _ => .no) = Wn.R.ok (Val.bl (decide (lk (r p) 1 = some 1))) (μ.new (.lst acc))
      rw [ds]
      cases c : lk (r p) 1 with
      | none => rfl
      | some s =>
        show (match datM (μ.new (.lst acc)) (gs s), some (PyData.str "source") with | some d, some e => (Wn.R.ok (Val.bl (PyData.eqv d e)) (μ.new (.lst acc)) : Wn.R Val) | _, _ => .no) = _
        rw [dat_tag]
        show Wn.R.ok (Val.bl (tag s == "source")) _ = _
        congr 2
        rw [Bool.eq_iff_iff, beq_iff_eq, decide_eq_true_eq, tag_src, Option.some.injEq]) (fun _ _ _ _ => rfl)
  have eF : (((bothL r).map Val.int).filter fun y => match y with | .int p => decide (lk (r p) 1 = some 1) | _ => false).map (fun y => y) = (reachL r).map Val.int := by
    rw [List.map_id', List.filter_map]
    rfl
  rw [eF] at L
  unfold m__law_due_3 sSet
  rw [L]
  rfl
theorem due_eq (k : K60 z lab v r) (Y : T60 μ t d r) : ∃ q μ', d__law_due [.loc t, .int 1] μ = .ok (.loc q) μ' ∧ Kee [] μ μ' ∧ q < μ'.nx ∧ μ.nx ≤ q ∧ μ'.ob q = some (.lst [.bl (hd r 0 && hd r 1), .bl (rch1 r 0 || rch1 r 1), .bl (!(two1 r 0 || two1 r 1))]) := by
  have tl := Y.tl
  have dl : ∀ p, (p = 0 ∨ p = 1) → d p < μ.nx := fun p hp => (Y.tb p hp).1
  obtain ⟨μ1, hμ1⟩ : ∃ μ1, μ.new (.lst []) = μ1 := ⟨_, rfl⟩
  have k1 : Kee [] μ μ1 := by rw [← hμ1]; exact Kee.new
  have n1 : μ1.nx = μ.nx + 1 := by rw [← hμ1]; rfl
  have o1 : μ1.ob μ.nx = some (.lst []) := by rw [← hμ1]; exact Mu.new_same _ _
  have Y1 := Y.keep k1 (by simp) (by simp)
  obtain ⟨ρ2, μ2, A2, ⟨v3, rfl⟩, k2, ss, zs, o2, hss⟩ := (due_held (v3 := none) (v4 := none) (v5 := none) k Y1 o1 (by omega) (by omega) (fun p hp => by have := dl p hp; omega)).ex
  have Y2 := Y1.keep k2 (by simp; omega) (fun p hp => by have := dl p hp; simp; omega)
  obtain ⟨μ3, A3, k3, n3, o3⟩ := due_both (v2 := some (.loc μ.nx)) (v3 := v3) (v4 := none) (v5 := none) Y2
  have Y3 := Y2.keep k3 (by simp) (by simp)
  have A4 := due_reached (v2 := some (.loc μ.nx)) (v3 := v3) (v5 := none) Y3 o3 (by omega)
  have le2 := k2.le
  have o23 : μ3.ob μ.nx = some (.lst (ss.map gs)) := (k3.ob _ (by omega) (by simp)).trans o2
  obtain ⟨μ4, hμ4⟩ : ∃ μ4, μ3.new (.lst ((reachL r).map Val.int)) = μ4 := ⟨_, rfl⟩
  rw [hμ4] at A4
  have n4 : μ4.nx = μ3.nx + 1 := by rw [← hμ4]; rfl
  have o4 : μ4.ob μ3.nx = some (.lst ((reachL r).map Val.int)) := by rw [← hμ4]; exact Mu.new_same _ _
  have k4 : Kee [] μ3 μ4 := by rw [← hμ4]; exact Kee.new
  have o24 := (k4.ob _ (by omega) (by simp)).trans o23
  have o34 := (k4.ob μ2.nx (by omega) (by simp)).trans o3
  have B1 : mAndT (mOp inM (mC (.str "set")) (mV 2)) (mOp inM (mC (.str "source")) (mV 2)) (rd t (some (.loc μ.nx)) v3 (some (.loc μ2.nx)) (some (.loc μ3.nx))) μ4 = .ok (.bl (hd r 0 && hd r 1)) μ4 := by
    have a0 : decide (tag 0 ∈ ss.map tag) = hd r 0 := by rw [Bool.eq_iff_iff, decide_eq_true_eq]; exact hss 0 (.inl rfl)
    have a1 : decide (tag 1 ∈ ss.map tag) = hd r 1 := by rw [Bool.eq_iff_iff, decide_eq_true_eq]; exact hss 1 (.inr rfl)
    unfold mAndT
    rw [op2 (a := .str "set") (b := .loc μ.nx) (μ1 := μ4) (μ2 := μ4) rfl rfl, in_tags (s := 0) (by decide +kernel) o24, a0, Wn.R.bind_ok]
    cases hd r 0 with
    | false => rfl
    | true =>
      show mOp inM (mC (.str "source")) (mV 2) _ μ4 = _
      rw [op2 (a := .str "source") (b := .loc μ.nx) (μ1 := μ4) (μ2 := μ4) rfl rfl, in_tags (s := 1) (by decide +kernel) o24, a1]
      rfl
  have B2 : mOp neM (mV 5) (mLst (mNil)) (rd t (some (.loc μ.nx)) v3 (some (.loc μ2.nx)) (some (.loc μ3.nx))) μ4 = .ok (.bl (rch1 r 0 || rch1 r 1)) (μ4.new (.lst [])) := by
    rw [op2 (a := .loc μ3.nx) (b := .loc μ4.nx) (μ1 := μ4) (μ2 := μ4.new (.lst [])) rfl rfl, emp_ne o4 (by omega), reachs]
  have B3 : mOp eqM (mV 4) (mLst (mNil)) (rd t (some (.loc μ.nx)) v3 (some (.loc μ2.nx)) (some (.loc μ3.nx))) (μ4.new (.lst [])) = .ok (.bl (!(two1 r 0 || two1 r 1))) ((μ4.new (.lst [])).new (.lst [])) := by
    rw [op2 (a := .loc μ2.nx) (b := .loc (μ4.new (.lst [])).nx) (μ1 := μ4.new (.lst [])) (μ2 := (μ4.new (.lst [])).new (.lst [])) rfl rfl, emp_eq ((Mu.new_ne _ _ (by omega)).trans o34) (by show _ < μ4.nx + 1; omega), boths]
  have A5 := ret3 B1 B2 B3
  have Z : m__law_due (startV 6 [.loc t, .int 1]) μ = .ok (.rt (.loc ((μ4.new (.lst [])).new (.lst [])).nx)) (((μ4.new (.lst [])).new (.lst [])).new (.lst [.bl (hd r 0 && hd r 1), .bl (rch1 r 0 || rch1 r 1), .bl (!(two1 r 0 || two1 r 1))])) := by
    unfold m__law_due
    rw [seq_nx (ρ' := rd t (some (.loc μ.nx)) none none none) (μ1 := μ1) (by rw [← hμ1]; rfl), seq_nx A2]
    unfold m__law_due_2
    rw [seq_nx A3, seq_nx A4]
    exact A5
  have Z2 : d__law_due [.loc t, .int 1] μ = .ok (.loc ((μ4.new (.lst [])).new (.lst [])).nx) (((μ4.new (.lst [])).new (.lst [])).new (.lst [.bl (hd r 0 && hd r 1), .bl (rch1 r 0 || rch1 r 1), .bl (!(two1 r 0 || two1 r 1))])) := by
    unfold d__law_due runM
    rw [if_pos (show [Val.loc t, Val.int 1].length = 2 from rfl), Z]
  refine ⟨_, _, Z2, ?_, Nat.lt_succ_self _, ?_, Mu.new_same _ _⟩
  · have k12 : Kee [] μ μ2 := k1.over k2 (by simp)
    exact (((((k12.trans k3).trans k4).trans Kee.new).trans Kee.new)).trans Kee.new
  · show μ.nx ≤ μ4.nx + 1 + 1
    omega
end

/-! ### k60: what the system finds; both agree -/
def rf (x : Nat) (lab : Int) (v2 v3 : Option Val) : Rho := [some (.loc x), some (.int lab), v2, v3]
section
variable {μ μ1 μ2 : Mu} {t x : Nat} {d : Int → Nat} {r : Int → List (Int × Int)} {z lab : Int} {v : Sv} {v2 v3 v4 v5 : Option Val}
theorem par2' {i j : Nat} {A B : ME} {ρ : Rho} {a b : Val} (hA : A ρ μ = .ok a μ1) (hB : B ρ μ1 = .ok b μ2) : sPar i j (mCons A (mCons B mNil)) ρ μ = .ok (.nx ((ρ.set i (some a)).set j (some b))) μ2 := by
  simp only [mChain, isiM, sDst2, neD0M, Wn.R.bind_ok, Wn.R.bind_no, Wn.R.cut_ok, Wn.R.cut_no, sThen_nx, sThen_rt, sThen_bk, sThen_ct, mC, mV, mNil, mCons, mTup, mLst, mOp, mUn, mFn, mMt, boolM, mTest, mAnd, mOr, mNot, mIf, mBl, mAndV, mOrV, mNotV, mAndT, mOrT, truM, List.isEmpty_cons, List.isEmpty_nil, addM, subM, mulM, modM, fdivM, powM, negM, ltM, leM, gtM, geM, cmpI, isM', isntM, isNon, getM, dgetM, slM, mSl, mP, mP0, lenM, listM, tupleM, minM, maxM, absM, intM, sortedM, mBm, lstOf, appM, popM, extM, idxM, remLM, sNil, sSeq, sSet, sExpr, sRet, sRetN, sIf, sBrk, sCnt, sPar, sPar3, sAsg, tgN, tgT, unp, stoM, dstoM, sSto, Wk.items, iSeq, iRng1, iRng2, iEnm, mCall, mMeth, sysOf, onSys, mMethK, mMake, mMakeK, makM, mYes, mListR1, mListR2, intBM, startV, seqOf, keyOf, List.getElem?_cons_zero, List.getElem?_cons_succ, List.getElem?_nil, List.set_cons_zero, List.set_cons_succ, List.map_cons, List.map_nil, List.length_cons, List.length_nil, List.cons_append, List.nil_append, List.append_nil, List.replicate, Nat.reduceAdd, Nat.reduceSub, Nat.reduceLeDiff, Nat.reduceLT, Nat.reduceEqDiff, Int.reduceLT, Int.reduceLE, Int.reduceNeg, Int.reducePow, ite_true, ite_false, if_true, if_false, reduceIte, Bool.false_eq_true, Bool.true_eq_false, Bool.not_true, Bool.not_false, and_self, and_true, true_and, Mu.put_same, Mu.new_same, Mu.put_nx, Mu.new_nx, Nat.zero_add, Nat.le_refl, Goes_nx, Gets_ok, Rets_nx, Rets_rt, CMul, CDiv, CPow, or_true, true_or, or_self, not_true, not_false_iff, mDm, dctV, popDM, getDM, mDisp, mPrs, kvOf, decide_false, decide_true, Int.reduceToNat, Nat.reducePow, Int.reduceAdd, Int.reduceSub, Int.reduceMul, hA, hB]
theorem cons3 {A B C : ME} {ρ : Rho} {a b c : Val} (hA : A ρ μ = .ok a μ) (hB : B ρ μ = .ok b μ) (hC : C ρ μ = .ok c μ) : mCons A (mCons B (mCons C mNil)) ρ μ = .ok [a, b, c] μ := by
  simp only [mChain, isiM, sDst2, neD0M, Wn.R.bind_ok, Wn.R.bind_no, Wn.R.cut_ok, Wn.R.cut_no, sThen_nx, sThen_rt, sThen_bk, sThen_ct, mC, mV, mNil, mCons, mTup, mLst, mOp, mUn, mFn, mMt, boolM, mTest, mAnd, mOr, mNot, mIf, mBl, mAndV, mOrV, mNotV, mAndT, mOrT, truM, List.isEmpty_cons, List.isEmpty_nil, addM, subM, mulM, modM, fdivM, powM, negM, ltM, leM, gtM, geM, cmpI, isM', isntM, isNon, getM, dgetM, slM, mSl, mP, mP0, lenM, listM, tupleM, minM, maxM, absM, intM, sortedM, mBm, lstOf, appM, popM, extM, idxM, remLM, sNil, sSeq, sSet, sExpr, sRet, sRetN, sIf, sBrk, sCnt, sPar, sPar3, sAsg, tgN, tgT, unp, stoM, dstoM, sSto, Wk.items, iSeq, iRng1, iRng2, iEnm, mCall, mMeth, sysOf, onSys, mMethK, mMake, mMakeK, makM, mYes, mListR1, mListR2, intBM, startV, seqOf, keyOf, List.getElem?_cons_zero, List.getElem?_cons_succ, List.getElem?_nil, List.set_cons_zero, List.set_cons_succ, List.map_cons, List.map_nil, List.length_cons, List.length_nil, List.cons_append, List.nil_append, List.append_nil, List.replicate, Nat.reduceAdd, Nat.reduceSub, Nat.reduceLeDiff, Nat.reduceLT, Nat.reduceEqDiff, Int.reduceLT, Int.reduceLE, Int.reduceNeg, Int.reducePow, ite_true, ite_false, if_true, if_false, reduceIte, Bool.false_eq_true, Bool.true_eq_false, Bool.not_true, Bool.not_false, and_self, and_true, true_and, Mu.put_same, Mu.new_same, Mu.put_nx, Mu.new_nx, Nat.zero_add, Nat.le_refl, Goes_nx, Gets_ok, Rets_nx, Rets_rt, CMul, CDiv, CPow, or_true, true_or, or_self, not_true, not_false_iff, mDm, dctV, popDM, getDM, mDisp, mPrs, kvOf, decide_false, decide_true, Int.reduceToNat, Nat.reducePow, Int.reduceAdd, Int.reduceSub, Int.reduceMul, hA, hB, hC]
theorem fnS3 {f : MSy} {A B C : ME} {ρ : Rho} {b c : Val} (hx : μ.ob x = some (.sys v)) (hA : A ρ μ = .ok (.loc x) μ) (hB : B ρ μ = .ok b μ) (hC : C ρ μ = .ok c μ) : mFnS f (mCons A (mCons B (mCons C mNil))) ρ μ = f x v [b, c] μ := by
  unfold mFnS
  rw [cons3 hA hB hC, Wn.R.bind_ok]
  simp only [hx]
theorem dat_row {v : Sv} {a : Bool} {w : Str} (hw : w ∈ words) {q : Nat} (h : μ.ob q = some (.lst [regV v 0 ⟨1, 1, lab, w, a⟩])) : ∃ D, datM μ (.loc q) = some (.list [D]) := by
  unfold datM
  rw [toD, seqOf_lst h]
  have e : toD 6 μ (.str w) = some (.str w) := by
    show (if PyData.strOk w = true then some (PyData.str w) else none) = _
    rw [if_pos (okW60 hw)]
  refine ⟨PyData.tuple [.tuple [.int (nameAt v 0).1, .int (nameAt v 0).2], .int lab, .int 1, .tuple [.int (nameAt v 1).1, .int (nameAt v 1).2], .str w, .bool a], ?_⟩
  show (allO [(allO [some (PyData.tuple [.int (nameAt v 0).1, .int (nameAt v 0).2]), some (PyData.int lab), some (PyData.int 1), some (PyData.tuple [.int (nameAt v 1).1, .int (nameAt v 1).2]), toD 6 μ (.str w), some (PyData.bool a)]).map PyData.tuple]).map PyData.list = _
  rw [e]
  rfl
theorem found_eq (h : K60 z lab v r) (hx : μ.ob x = some (.sys v)) (xl : x < μ.nx) : ∃ q μ', d__law_found [.loc x, .int lab] μ = .ok (.loc q) μ' ∧ Kee [] μ μ' ∧ q < μ'.nx ∧ μ.nx ≤ q ∧
    μ'.ob q = some (.lst (if (hd r 0 && hd r 1) = true then [.bl true, .bl (rch1 r 0 || rch1 r 1), .bl (!(two1 r 0 || two1 r 1))] else [.bl false, .bl false, .bl true])) := by
  have hreg := h.reg_ok (x := x) (μ := μ)
  obtain ⟨μ1, hμ1⟩ : ∃ μ1, μ.new (.lst (regsV v)) = μ1 := ⟨_, rfl⟩
  rw [hμ1] at hreg
  have k1 : Kee [] μ μ1 := by rw [← hμ1]; exact Kee.new
  have n1 : μ1.nx = μ.nx + 1 := by rw [← hμ1]; rfl
  have o1 : μ1.ob μ.nx = some (.lst (regsV v)) := by rw [← hμ1]; exact Mu.new_same _ _
  have hit : iSeq (mMeth (regM) [] (mV 0) mNil) (rf x lab none none) μ = .ok (.seq (.loc μ.nx)) μ1 := by
    unfold rf
    simp only [mChain, isiM, sDst2, neD0M, Wn.R.bind_ok, Wn.R.bind_no, Wn.R.cut_ok, Wn.R.cut_no, sThen_nx, sThen_rt, sThen_bk, sThen_ct, mC, mV, mNil, mCons, mTup, mLst, mOp, mUn, mFn, mMt, boolM, mTest, mAnd, mOr, mNot, mIf, mBl, mAndV, mOrV, mNotV, mAndT, mOrT, truM, List.isEmpty_cons, List.isEmpty_nil, addM, subM, mulM, modM, fdivM, powM, negM, ltM, leM, gtM, geM, cmpI, isM', isntM, isNon, getM, dgetM, slM, mSl, mP, mP0, lenM, listM, tupleM, minM, maxM, absM, intM, sortedM, mBm, lstOf, appM, popM, extM, idxM, remLM, sNil, sSeq, sSet, sExpr, sRet, sRetN, sIf, sBrk, sCnt, sPar, sPar3, sAsg, tgN, tgT, unp, stoM, dstoM, sSto, Wk.items, iSeq, iRng1, iRng2, iEnm, mCall, mMeth, sysOf, onSys, mMethK, mMake, mMakeK, makM, mYes, mListR1, mListR2, intBM, startV, seqOf, keyOf, List.getElem?_cons_zero, List.getElem?_cons_succ, List.getElem?_nil, List.set_cons_zero, List.set_cons_succ, List.map_cons, List.map_nil, List.length_cons, List.length_nil, List.cons_append, List.nil_append, List.append_nil, List.replicate, Nat.reduceAdd, Nat.reduceSub, Nat.reduceLeDiff, Nat.reduceLT, Nat.reduceEqDiff, Int.reduceLT, Int.reduceLE, Int.reduceNeg, Int.reducePow, ite_true, ite_false, if_true, if_false, reduceIte, Bool.false_eq_true, Bool.true_eq_false, Bool.not_true, Bool.not_false, and_self, and_true, true_and, Mu.put_same, Mu.new_same, Mu.put_nx, Mu.new_nx, Nat.zero_add, Nat.le_refl, Goes_nx, Gets_ok, Rets_nx, Rets_rt, CMul, CDiv, CPow, or_true, true_or, or_self, not_true, not_false_iff, mDm, dctV, popDM, getDM, mDisp, mPrs, kvOf, decide_false, decide_true, Int.reduceToNat, Nat.reducePow, Int.reduceAdd, Int.reduceSub, Int.reduceMul, hx, hreg, o1]
  have st : startV 4 [.loc x, .int lab] = rf x lab none none := rfl
  by_cases b : hd r 0 = true ∧ hd r 1 = true
  · obtain ⟨w, a, row, hw, e, er, _⟩ := h.one b
    rw [if_pos (by rw [b.1, b.2]; rfl)]
    obtain ⟨R0, hR0⟩ : ∃ R0, regV v 0 ⟨1, 1, lab, w, a⟩ = R0 := ⟨_, rfl⟩
    rw [hR0] at er
    rw [er] at o1
    have L := mLc_pure (it := iSeq (mMeth (regM) [] (mV 0) mNil)) (own := [3]) (g := tgN 3) (c := mTest (mOp eqM (mOp getM (mV 3) (mC (.int 1))) (mV 1))) (elt := mV 3) (ρ0 := rf x lab none none) (μ0 := μ) (μ := μ1) (k := .seq (.loc μ.nx)) (vs := [R0]) (rv := fun y => rf x lab none (some y)) (p := fun _ => true) (f := fun y => y) hit (seqOf_lst o1) (by simp) (fun acc => seqOf_lst ((Mu.new_ne _ _ (by omega)).trans o1)) (fun _ _ => rfl) (fun y hy acc => by
      rw [List.mem_singleton.mp hy, ← hR0]
      refine test2 (a := .int lab) (b := .int lab) (μ1 := μ1.new (.lst acc)) (μ2 := μ1.new (.lst acc)) rfl rfl ?_
      show Wn.R.ok (Val.bl (lab == lab)) _ = _
      rw [beq_self_eq_true]) (fun _ _ _ _ => rfl)
    have eF : ([R0].filter fun _ => true).map (fun y => y) = [R0] := rfl
    rw [eF] at L
    obtain ⟨μ2, hμ2⟩ : ∃ μ2, μ1.new (.lst [R0]) = μ2 := ⟨_, rfl⟩
    rw [hμ2] at L
    have k2 : Kee [] μ1 μ2 := by rw [← hμ2]; exact Kee.new
    have n2 : μ2.nx = μ1.nx + 1 := by rw [← hμ2]; rfl
    have o2 : μ2.ob μ1.nx = some (.lst [R0]) := by rw [← hμ2]; exact Mu.new_same _ _
    obtain ⟨μ3, hμ3⟩ : ∃ μ3, μ2.new (.lst []) = μ3 := ⟨_, rfl⟩
    have k3 : Kee [] μ2 μ3 := by rw [← hμ3]; exact Kee.new
    have n3 : μ3.nx = μ2.nx + 1 := by rw [← hμ3]; rfl
    have o3 : μ3.ob μ1.nx = some (.lst [R0]) := (k3.ob _ (by omega) (by simp)).trans o2
    have k03 : Kee [] μ μ3 := (k1.trans k2).trans k3
    have hx3 : μ3.ob x = some (.sys v) := (k03.ob _ xl (by simp)).trans hx
    have T2 : mTest (mOp eqM (mV 2) (mLst (mNil))) (rf x lab (some (.loc μ1.nx)) none) μ2 = .ok false μ3 := by
      refine test2 (a := .loc μ1.nx) (b := .loc μ2.nx) (μ1 := μ2) (μ2 := μ3) rfl (by rw [← hμ3]; rfl) ?_
      obtain ⟨D, hD⟩ := dat_row (μ := μ3) (v := v) (lab := lab) (a := a) hw (by rw [hR0]; exact o3)
      have d2 : datM μ3 (.loc μ2.nx) = some (.list []) := by
        rw [← hμ3]
        exact dat_ints (l := []) (seqOf_lst (Mu.new_same _ _))
      unfold eqM
      rw [hD, d2]
      rfl
    obtain ⟨p, n, en, hp, hn⟩ := h.name b.1
    have i0 : ∀ {y : Val}, atI [y] 0 = some y := rfl
    have gB : mOp getM (mOp getM (mV 2) (mC (.int 0))) (mC (.int 0)) (rf x lab (some (.loc μ1.nx)) none) μ3 = .ok (.tup [.int p, .int n]) μ3 := by
      have g1 : mOp getM (mV 2) (mC (.int 0)) (rf x lab (some (.loc μ1.nx)) none) μ3 = .ok R0 μ3 := by
        rw [op2 (a := .loc μ1.nx) (b := .int 0) (μ1 := μ3) (μ2 := μ3) rfl rfl]
        unfold getM
        simp only [seqOf_lst o3, i0]
      rw [op2 g1 (b := .int 0) (μ2 := μ3) rfl, ← hR0]
      show Wn.R.ok (nameV v 0) μ3 = _
      unfold nameV
      rw [en]
    have fe : ([⟨1, 1, lab, w, a⟩] : List Ev).find? (fun e => decide (e.lab = lab)) = some ⟨1, 1, lab, w, a⟩ := by
      rw [List.find?_cons_of_pos (by simp)]
    have B1 : mFnS rchM (mCons (mV 0) (mCons (mOp getM (mOp getM (mV 2) (mC (.int 0))) (mC (.int 0))) (mCons (mV 1) (mNil)))) (rf x lab (some (.loc μ1.nx)) none) μ3 = .ok (.bl (rch1 r 0 || rch1 r 1)) μ3 := by
      rw [fnS3 hx3 rfl gB (c := .int lab) rfl, rch_ok (h.lkp hp) hn en e fe, h.reach]
    have B2 : mFnS selM (mCons (mV 0) (mCons (mOp getM (mOp getM (mV 2) (mC (.int 0))) (mC (.int 0))) (mCons (mV 1) (mNil)))) (rf x lab (some (.loc μ1.nx)) none) μ3 = .ok (.bl (!(two1 r 0 || two1 r 1))) μ3 := by
      rw [fnS3 hx3 rfl gB (c := .int lab) rfl, sel_ok (h.lkp hp) hn en e fe, h.seal]
    have A5 := ret3 (A := mC (.bl true)) (a := .bl true) (μ := μ3) rfl B1 B2
    have Z : m__law_found (rf x lab none none) μ = .ok (.rt (.loc μ3.nx)) (μ3.new (.lst [.bl true, .bl (rch1 r 0 || rch1 r 1), .bl (!(two1 r 0 || two1 r 1))])) := by
      unfold m__law_found
      rw [seq_nx (ρ' := rf x lab (some (.loc μ1.nx)) none) (μ1 := μ2) (by unfold m__law_found_1 sSet; rw [L]; rfl), seq_nx (ρ' := rf x lab (some (.loc μ1.nx)) none) (μ1 := μ3) (by unfold m__law_found_2; rw [if_no T2]; rfl)]
      exact A5
    have Z2 : d__law_found [.loc x, .int lab] μ = .ok (.loc μ3.nx) (μ3.new (.lst [.bl true, .bl (rch1 r 0 || rch1 r 1), .bl (!(two1 r 0 || two1 r 1))])) := by
      unfold d__law_found runM
      rw [if_pos (show [Val.loc x, Val.int lab].length = 2 from rfl), st, Z]
    exact ⟨_, _, Z2, k03.trans Kee.new, Nat.lt_succ_self _, k03.le, Mu.new_same _ _⟩
  · rw [if_neg (by rw [Bool.and_eq_true]; exact b)]
    rw [(h.none b).1] at o1
    have L := mLc_pure (it := iSeq (mMeth (regM) [] (mV 0) mNil)) (own := [3]) (g := tgN 3) (c := mTest (mOp eqM (mOp getM (mV 3) (mC (.int 1))) (mV 1))) (elt := mV 3) (ρ0 := rf x lab none none) (μ0 := μ) (μ := μ1) (k := .seq (.loc μ.nx)) (vs := []) (rv := fun y => rf x lab none (some y)) (p := fun _ => true) (f := fun y => y) hit (seqOf_lst o1) (by simp) (fun acc => seqOf_lst ((Mu.new_ne _ _ (by omega)).trans o1)) (fun _ _ => rfl) (fun y hy => by cases hy) (fun _ _ _ _ => rfl)
    have eF : (([] : List Val).filter fun _ => true).map (fun y => y) = [] := rfl
    rw [eF] at L
    obtain ⟨μ2, hμ2⟩ : ∃ μ2, μ1.new (.lst []) = μ2 := ⟨_, rfl⟩
    rw [hμ2] at L
    have k2 : Kee [] μ1 μ2 := by rw [← hμ2]; exact Kee.new
    have n2 : μ2.nx = μ1.nx + 1 := by rw [← hμ2]; rfl
    have o2 : μ2.ob μ1.nx = some (.lst []) := by rw [← hμ2]; exact Mu.new_same _ _
    obtain ⟨μ3, hμ3⟩ : ∃ μ3, μ2.new (.lst []) = μ3 := ⟨_, rfl⟩
    have k3 : Kee [] μ2 μ3 := by rw [← hμ3]; exact Kee.new
    have T2 : mTest (mOp eqM (mV 2) (mLst (mNil))) (rf x lab (some (.loc μ1.nx)) none) μ2 = .ok true μ3 := by
      refine test2 (a := .loc μ1.nx) (b := .loc μ2.nx) (μ1 := μ2) (μ2 := μ3) rfl (by rw [← hμ3]; rfl) ?_
      rw [← hμ3, emp_eq (l := []) o2 (by omega)]
      rfl
    have A5 := ret3 (A := mC (.bl false)) (B := mC (.bl false)) (C := mC (.bl true)) (ρ := rf x lab (some (.loc μ1.nx)) none) (a := .bl false) (b := .bl false) (c := .bl true) (μ := μ3) (μ1 := μ3) (μ2 := μ3) (μ3 := μ3) rfl rfl rfl
    have Z : m__law_found (rf x lab none none) μ = .ok (.rt (.loc μ3.nx)) (μ3.new (.lst [.bl false, .bl false, .bl true])) := by
      unfold m__law_found
      rw [seq_nx (ρ' := rf x lab (some (.loc μ1.nx)) none) (μ1 := μ2) (by unfold m__law_found_1 sSet; rw [L]; rfl), seq_rt (v := .loc μ3.nx) (μ1 := μ3.new (.lst [.bl false, .bl false, .bl true])) (by unfold m__law_found_2; rw [if_yes T2]; exact A5)]
    have Z2 : d__law_found [.loc x, .int lab] μ = .ok (.loc μ3.nx) (μ3.new (.lst [.bl false, .bl false, .bl true])) := by
      unfold d__law_found runM
      rw [if_pos (show [Val.loc x, Val.int lab].length = 2 from rfl), st, Z]
    have k03 : Kee [] μ μ3 := (k1.trans k2).trans k3
    exact ⟨_, _, Z2, k03.trans Kee.new, Nat.lt_succ_self _, k03.le, Mu.new_same _ _⟩
theorem call_ok {n : Nat} {f : List Val → Mu → R Val} {m : MA} {ρ : Rho} {xs : List Val} {a : Val} (hm : m ρ μ = .ok xs μ) (hl : xs.length = n) (hf : f xs μ = .ok a μ1) : mCall n f m ρ μ = .ok a μ1 := by
  unfold mCall
  rw [hm, Wn.R.bind_ok, if_pos hl, hf]
  rfl
theorem dat_bls {q : Nat} {a b c : Bool} (h : μ.ob q = some (.lst [.bl a, .bl b, .bl c])) : datM μ (.loc q) = some (.list [.bool a, .bool b, .bool c]) := by
  unfold datM
  rw [toD, seqOf_lst h]
  rfl
theorem eqv_bls (a b c : Bool) : PyData.eqv (.list [.bool a, .bool b, .bool c]) (.list [.bool a, .bool b, .bool c]) = true := by
  cases a <;> cases b <;> cases c <;> rfl
theorem right_eq (h : K60 z lab v r) (Y : T60 μ t d r) (hx : μ.ob x = some (.sys v)) (xl : x < μ.nx) : ∃ μ', d__law_right [.loc x, .loc t, .int 1, .int lab] μ = .ok (.bl true) μ' ∧ Kee [] μ μ' := by
  obtain ⟨q1, μ1, D1, k1, l1, g1, o1⟩ := due_eq h Y
  obtain ⟨q2, μ2, D2, k2, l2, g2, o2⟩ := found_eq h (μ := μ1) (x := x) ((k1.ob _ xl (by simp)).trans hx) (k1.lt xl)
  have o1' := (k2.ob q1 l1 (by simp)).trans o1
  have k12 := k1.trans k2
  let ρ0 : Rho := [some (.loc x), some (.loc t), some (.int 1), some (.int lab), none, none]
  let ρ1 : Rho := [some (.loc x), some (.loc t), some (.int 1), some (.int lab), some (.loc q1), some (.loc q2)]
  have A1 : m__law_right_1 ρ0 μ = .ok (.nx ρ1) μ2 := by
    unfold m__law_right_1
    exact par2' (call_ok (μ := μ) (ρ := ρ0) (xs := [.loc t, .int 1]) rfl rfl D1) (call_ok (μ := μ1) (ρ := ρ0) (xs := [.loc x, .int lab]) rfl rfl D2)
  have i0 : ∀ {a b c : Val}, atI [a, b, c] 0 = some a := rfl
  have A2 : m__law_right_2 ρ1 μ2 = .ok (.rt (.bl true)) μ2 := by
    have T1 : mTest (mOp getM (mV 4) (mC (.int 0))) ρ1 μ2 = .ok (hd r 0 && hd r 1) μ2 := by
      refine test2 (a := .loc q1) (b := .int 0) (μ1 := μ2) (μ2 := μ2) rfl rfl ?_
      unfold getM
      simp only [seqOf_lst o1', i0]
    unfold m__law_right_2 sRet mIf
    rw [T1, Wn.R.bind_ok]
    by_cases c : (hd r 0 && hd r 1) = true
    · rw [if_pos c] at o2
      rw [c] at o1' ⊢
      rw [if_pos rfl, op2 (a := .loc q2) (b := .loc q1) (μ1 := μ2) (μ2 := μ2) rfl rfl]
      unfold eqM
      rw [dat_bls o2, dat_bls o1']
      simp only
      rw [eqv_bls]
      rfl
    · rw [if_neg c] at o2
      rw [if_neg c]
      unfold mNotV
      rw [op2 (a := .loc q2) (b := .int 0) (μ1 := μ2) (μ2 := μ2) rfl rfl]
      unfold getM
      simp only [seqOf_lst o2, i0]
      rfl
  refine ⟨μ2, ?_, k12⟩
  unfold d__law_right runM
  rw [if_pos (show [Val.loc x, Val.loc t, Val.int 1, Val.int lab].length = 4 from rfl), show startV 6 [.loc x, .loc t, .int 1, .int lab] = ρ0 from rfl]
  unfold m__law_right
  rw [seq_nx A1, A2]
end

/-! ### k60: a turn -/
structure M60 (μ : Mu) (b x t : Nat) (d : Int → Nat) (z lab : Int) (v : Sv) (r : Int → List (Int × Int)) : Prop where
  K : K60 z lab v r
  Y : T60 μ t d r
  bg : Bag μ b
  hx : μ.ob x = some (.sys v)
  xl : x < μ.nx
  z1 : 4 ≤ z ∧ z ≤ 8
  ne : b ≠ x ∧ b ≠ t ∧ x ≠ t ∧ b ≠ d 0 ∧ b ≠ d 1 ∧ x ≠ d 0 ∧ x ≠ d 1 ∧ d 0 ≠ d 1
def rw60 (s b x t : Nat) (z lab : Int) (v1 v3 v7 v9 v10 v11 v12 v13 v14 : Option Val) : Rho := [some (.loc s), v1, some (.loc b), v3, some (.int z), some (.int lab), some (.loc x), v7, some (.loc t), v9, v10, v11, v12, v13, v14]
section
variable {μ μ' μ1 : Mu} {s b x t : Nat} {d : Int → Nat} {z lab : Int} {v v' : Sv} {r r' : Int → List (Int × Int)} {v1 v3 v7 v9 v10 v11 v12 v13 v14 : Option Val}
theorem M60.nb (h : M60 μ b x t d z lab v r) {p : Int} (hp : p = 0 ∨ p = 1) : b ≠ d p ∧ x ≠ d p := by
  obtain ⟨_, _, _, a, c, e, f, _⟩ := h.ne
  rcases hp with rfl | rfl
  · exact ⟨a, e⟩
  · exact ⟨c, f⟩
theorem M60.draw (h : M60 μ b x t d z lab v r) (kp : Kee [b] μ μ') (bg : Bag μ' b) : M60 μ' b x t d z lab v r :=
  ⟨h.K, h.Y.keep kp (by simp [Ne.symm h.ne.2.1]) (fun p hp => by simp [Ne.symm (h.nb hp).1]), bg, (kp.ob _ h.xl (by simp [Ne.symm h.ne.1])).trans h.hx, kp.lt h.xl, h.z1, h.ne⟩
theorem M60.any (h : M60 μ b x t d z lab v r) (kp : Kee [] μ μ') : M60 μ' b x t d z lab v r :=
  ⟨h.K, h.Y.keep kp (by simp) (fun p hp => by simp), h.bg.keep kp (by simp), (kp.ob _ h.xl (by simp)).trans h.hx, kp.lt h.xl, h.z1, h.ne⟩
/-- the system and one table change -/
theorem M60.two (h : M60 μ b x t d z lab v r) {p : Int} (hp : p = 0 ∨ p = 1) {kvs : List (Key × Val)} (k : K60 z lab v' r') (dd : DR kvs (r' p) gs) (he : ∀ q, q ≠ p → r' q = r q) : M60 ((μ.put x (.sys v')).put (d p) (.dct kvs)) b x t d z lab v' r' := by
  obtain ⟨n1, n2, n3, n4, n5, n6, n7, n8⟩ := h.ne
  obtain ⟨a, c⟩ := h.nb hp
  obtain ⟨f, g, _⟩ := h.Y.tb p hp
  refine ⟨k, ⟨?_, h.Y.tl, fun q hq => ?_⟩, ?_, ?_, h.xl, h.z1, h.ne⟩
  · rw [Mu.put_ne _ _ g, Mu.put_ne _ _ (Ne.symm n3)]
    exact h.Y.ht
  · obtain ⟨f2, g2, kv, o, d2⟩ := h.Y.tb q hq
    refine ⟨f2, g2, ?_⟩
    by_cases e : q = p
    · rw [e]
      exact ⟨kvs, Mu.put_same _ _ _, dd⟩
    · have ne : d q ≠ d p := by
        rcases hp with rfl | rfl <;> rcases hq with rfl | rfl <;> first | exact absurd rfl e | exact n8 | exact Ne.symm n8
      refine ⟨kv, ?_, by rw [he q e]; exact d2⟩
      rw [Mu.put_ne _ _ ne, Mu.put_ne _ _ (Ne.symm (h.nb hq).2)]
      exact o
  · obtain ⟨bl, c0, m0, e⟩ := h.bg
    refine ⟨bl, c0, m0, ?_⟩
    rw [Mu.put_ne _ _ a, Mu.put_ne _ _ n1]
    exact e
  · rw [Mu.put_ne _ _ c]
    exact Mu.put_same _ _ _
theorem kee2 {S : List Nat} {a c : Nat} {o o' : Ob} (ha : a ∈ S) (hc : c ∈ S) : Kee S μ ((μ.put a o).put c o') := (Kee.put ha).putN (.inr hc)
theorem in_tab (h : M60 μ b x t d z lab v r) {p n : Int} (hp : p = 0 ∨ p = 1) : inM (.int n) (.loc (d p)) μ = .ok (.bl (lk (r p) n).isSome) μ := by
  obtain ⟨_, _, kvs, o, dd⟩ := h.Y.tb p hp
  unfold inM hasM
  simp only [o, keyOf, dd.get, Option.isSome_map]
theorem twelve (h : M60 μ b x t d z lab v r) {p n m : Int} (hp : p = 0 ∨ p = 1) (hn : 0 ≤ n ∧ n < z) (hm : 0 ≤ m ∧ m < z) :
    Goes (m_law_12 (rw60 s b x t z lab v1 v3 v7 v9 v10 (some (.int p)) (some (.int n)) (some (.int m)) (some (.loc (d p)))) μ) fun ρ' μ' => ρ' = rw60 s b x t z lab v1 v3 v7 v9 v10 (some (.int p)) (some (.int n)) (some (.int m)) (some (.loc (d p))) ∧ (∃ v' r', M60 μ' b x t d z lab v' r') ∧ Kee [b, x, d 0, d 1] μ μ' := by
  obtain ⟨y, μ1, e1, y0, y1, k1, b1, _⟩ := take_eq h.bg (n := 2) (by decide) (by decide)
  have h1 := h.draw k1 b1
  have dp : d p ∈ [b, x, d 0, d 1] := by rcases hp with rfl | rfl <;> simp
  have k1' : Kee [b, x, d 0, d 1] μ μ1 := k1.mono (by simp)
  obtain ⟨ρ, hρ⟩ : ∃ ρ, rw60 s b x t z lab v1 v3 v7 v9 v10 (some (.int p)) (some (.int n)) (some (.int m)) (some (.loc (d p))) = ρ := ⟨_, rfl⟩
  have g6 : (mV 6) ρ μ1 = .ok (.loc x) μ1 := by rw [← hρ]; rfl
  have g2 : ∀ μ, (mV 2) ρ μ = .ok (.loc b) μ := fun μ => by rw [← hρ]; rfl
  have g12 : ∀ μ, (mV 12) ρ μ = .ok (.int n) μ := fun μ => by rw [← hρ]; rfl
  have g11 : ∀ μ, (mV 11) ρ μ = .ok (.int p) μ := fun μ => by rw [← hρ]; rfl
  have g13 : ∀ μ, (mV 13) ρ μ = .ok (.int m) μ := fun μ => by rw [← hρ]; rfl
  have g14 : ∀ μ, (mV 14) ρ μ = .ok (.loc (d p)) μ := fun μ => by rw [← hρ]; rfl
  have Ti : mTest (mOp inM (mV 12) (mV 14)) ρ μ1 = .ok (lk (r p) n).isSome μ1 := test2 (g12 μ1) (g14 μ1) (in_tab h1 hp)
  have T0 : mTest (mOp eqM (mCall 2 d__law_take (mCons (mV 2) (mCons (mC (.int 2)) (mNil)))) (mC (.int 0))) ρ μ = .ok (y == 0) μ1 := by
    refine test2 (a := .int y) (b := .int 0) (μ1 := μ1) (μ2 := μ1) ?_ rfl rfl
    unfold mCall mCons mNil
    rw [g2, Wn.R.bind_ok]
    show (if ([Val.loc b, Val.int 2]).length = 2 then (d__law_take [.loc b, .int 2] μ).cut else .no) = _
    rw [if_pos (show [Val.loc b, Val.int 2].length = 2 from rfl), e1]
    rfl
  have Tt : mAnd (mTest (mOp eqM (mCall 2 d__law_take (mCons (mV 2) (mCons (mC (.int 2)) (mNil)))) (mC (.int 0)))) (mTest (mOp inM (mV 12) (mV 14))) ρ μ = .ok ((y == 0) && (lk (r p) n).isSome) μ1 := by
    unfold mAnd
    rw [T0, Wn.R.bind_ok]
    cases (y == 0) with
    | false => rfl
    | true =>
      rw [if_pos rfl, Ti]
      rfl
  obtain ⟨_, _, kvs, o, dd⟩ := h1.Y.tb p hp
  have nb := h1.nb hp
  have hm6 : v.made ≤ 1000000 := by rw [h1.K.md]; decide
  have ox : ∀ v', (μ1.put x (.sys v')).ob (d p) = some (.dct kvs) := fun v' => (Mu.put_ne _ _ (Ne.symm nb.2)).trans o
  rw [hρ]
  unfold m_law_12
  cases hc : ((y == 0) && (lk (r p) n).isSome) with
  | true =>
    rw [if_yes (Tt.trans (by rw [hc]))]
    obtain ⟨sr, hsr⟩ := Option.isSome_iff_exists.mp (Bool.and_eq_true_iff.mp hc).2
    have C := clo_ok (x := x) (μ := μ1) (h1.K.lkp hp) hsr hm6
    have A1 : sExpr (mMeth (cloM) ([]) (mV 6) (mCons (mV 11) (mCons (mV 12) (mNil)))) ρ μ1 = .ok (.nx ρ) (μ1.put x (.sys (closeV v p n sr))) := by
      have hx1 := h1.hx
      rw [← hρ]
      unfold rw60
      simp only [mChain, isiM, sDst2, neD0M, Wn.R.bind_ok, Wn.R.bind_no, Wn.R.cut_ok, Wn.R.cut_no, sThen_nx, sThen_rt, sThen_bk, sThen_ct, mC, mV, mNil, mCons, mTup, mLst, mOp, mUn, mFn, mMt, boolM, mTest, mAnd, mOr, mNot, mIf, mBl, mAndV, mOrV, mNotV, mAndT, mOrT, truM, List.isEmpty_cons, List.isEmpty_nil, addM, subM, mulM, modM, fdivM, powM, negM, ltM, leM, gtM, geM, cmpI, isM', isntM, isNon, getM, dgetM, slM, mSl, mP, mP0, lenM, listM, tupleM, minM, maxM, absM, intM, sortedM, mBm, lstOf, appM, popM, extM, idxM, remLM, sNil, sSeq, sSet, sExpr, sRet, sRetN, sIf, sBrk, sCnt, sPar, sPar3, sAsg, tgN, tgT, unp, stoM, dstoM, sSto, Wk.items, iSeq, iRng1, iRng2, iEnm, mCall, mMeth, sysOf, onSys, mMethK, mMake, mMakeK, makM, mYes, mListR1, mListR2, intBM, startV, seqOf, keyOf, List.getElem?_cons_zero, List.getElem?_cons_succ, List.getElem?_nil, List.set_cons_zero, List.set_cons_succ, List.map_cons, List.map_nil, List.length_cons, List.length_nil, List.cons_append, List.nil_append, List.append_nil, List.replicate, Nat.reduceAdd, Nat.reduceSub, Nat.reduceLeDiff, Nat.reduceLT, Nat.reduceEqDiff, Int.reduceLT, Int.reduceLE, Int.reduceNeg, Int.reducePow, ite_true, ite_false, if_true, if_false, reduceIte, Bool.false_eq_true, Bool.true_eq_false, Bool.not_true, Bool.not_false, and_self, and_true, true_and, Mu.put_same, Mu.new_same, Mu.put_nx, Mu.new_nx, Nat.zero_add, Nat.le_refl, Goes_nx, Gets_ok, Rets_nx, Rets_rt, CMul, CDiv, CPow, or_true, true_or, or_self, not_true, not_false_iff, mDm, dctV, popDM, getDM, mDisp, mPrs, kvOf, decide_false, decide_true, Int.reduceToNat, Nat.reducePow, Int.reduceAdd, Int.reduceSub, Int.reduceMul, hx1, C]
    have A2 : sExpr (mDm popDM (mV 14) (mV 12)) ρ (μ1.put x (.sys (closeV v p n sr))) = .ok (.nx ρ) ((μ1.put x (.sys (closeV v p n sr))).put (d p) (.dct (kDrop kvs (.inl n)))) := by
      have ox1 := ox (closeV v p n sr)
      have kg : kGet kvs (.inl n) = some (gs sr) := by rw [dd.get, hsr]; rfl
      rw [← hρ]
      unfold rw60
      simp only [mChain, isiM, sDst2, neD0M, Wn.R.bind_ok, Wn.R.bind_no, Wn.R.cut_ok, Wn.R.cut_no, sThen_nx, sThen_rt, sThen_bk, sThen_ct, mC, mV, mNil, mCons, mTup, mLst, mOp, mUn, mFn, mMt, boolM, mTest, mAnd, mOr, mNot, mIf, mBl, mAndV, mOrV, mNotV, mAndT, mOrT, truM, List.isEmpty_cons, List.isEmpty_nil, addM, subM, mulM, modM, fdivM, powM, negM, ltM, leM, gtM, geM, cmpI, isM', isntM, isNon, getM, dgetM, slM, mSl, mP, mP0, lenM, listM, tupleM, minM, maxM, absM, intM, sortedM, mBm, lstOf, appM, popM, extM, idxM, remLM, sNil, sSeq, sSet, sExpr, sRet, sRetN, sIf, sBrk, sCnt, sPar, sPar3, sAsg, tgN, tgT, unp, stoM, dstoM, sSto, Wk.items, iSeq, iRng1, iRng2, iEnm, mCall, mMeth, sysOf, onSys, mMethK, mMake, mMakeK, makM, mYes, mListR1, mListR2, intBM, startV, seqOf, keyOf, List.getElem?_cons_zero, List.getElem?_cons_succ, List.getElem?_nil, List.set_cons_zero, List.set_cons_succ, List.map_cons, List.map_nil, List.length_cons, List.length_nil, List.cons_append, List.nil_append, List.append_nil, List.replicate, Nat.reduceAdd, Nat.reduceSub, Nat.reduceLeDiff, Nat.reduceLT, Nat.reduceEqDiff, Int.reduceLT, Int.reduceLE, Int.reduceNeg, Int.reducePow, ite_true, ite_false, if_true, if_false, reduceIte, Bool.false_eq_true, Bool.true_eq_false, Bool.not_true, Bool.not_false, and_self, and_true, true_and, Mu.put_same, Mu.new_same, Mu.put_nx, Mu.new_nx, Nat.zero_add, Nat.le_refl, Goes_nx, Gets_ok, Rets_nx, Rets_rt, CMul, CDiv, CPow, or_true, true_or, or_self, not_true, not_false_iff, mDm, dctV, popDM, getDM, mDisp, mPrs, kvOf, decide_false, decide_true, Int.reduceToNat, Nat.reducePow, Int.reduceAdd, Int.reduceSub, Int.reduceMul, ox1, dctOf, kg]
    rw [seq_nx A1, A2]
    refine ⟨rfl, ⟨_, _, h1.two hp (h1.K.close hp hsr) (dd.drop fun j => ?_) fun q hq => if_neg hq⟩, k1'.over (kee2 (by simp) dp) (by simp)⟩
    show lk (if p = p then dr (r p) n else r p) j = _
    rw [if_pos rfl]
    exact lk_dr _
  | false =>
    rw [if_no (Tt.trans (by rw [hc]))]
    cases hi : (lk (r p) n).isSome with
    | false =>
      rw [if_no (Ti.trans (by rw [hi]))]
      exact ⟨rfl, ⟨_, _, h1⟩, k1'⟩
    | true =>
      rw [if_yes (Ti.trans (by rw [hi]))]
      obtain ⟨sr, hsr⟩ := Option.isSome_iff_exists.mp hi
      have C := copTo_ok (x := x) (μ := μ1) (h1.K.lkp hp) hsr hm6 hm.1 (by rw [h1.K.nz]; omega)
      obtain ⟨r', q1, q2, q3⟩ := h1.K.copy hp hsr hm
      have A1 : m_law_11 ρ μ1 = .ok (.nx ρ) (μ1.put x (.sys (copyV v p m sr (r p)))) := by
        have hx1 := h1.hx
        rw [← hρ]
        unfold m_law_11 rw60
        simp only [mChain, isiM, sDst2, neD0M, Wn.R.bind_ok, Wn.R.bind_no, Wn.R.cut_ok, Wn.R.cut_no, sThen_nx, sThen_rt, sThen_bk, sThen_ct, mC, mV, mNil, mCons, mTup, mLst, mOp, mUn, mFn, mMt, boolM, mTest, mAnd, mOr, mNot, mIf, mBl, mAndV, mOrV, mNotV, mAndT, mOrT, truM, List.isEmpty_cons, List.isEmpty_nil, addM, subM, mulM, modM, fdivM, powM, negM, ltM, leM, gtM, geM, cmpI, isM', isntM, isNon, getM, dgetM, slM, mSl, mP, mP0, lenM, listM, tupleM, minM, maxM, absM, intM, sortedM, mBm, lstOf, appM, popM, extM, idxM, remLM, sNil, sSeq, sSet, sExpr, sRet, sRetN, sIf, sBrk, sCnt, sPar, sPar3, sAsg, tgN, tgT, unp, stoM, dstoM, sSto, Wk.items, iSeq, iRng1, iRng2, iEnm, mCall, mMeth, sysOf, onSys, mMethK, mMake, mMakeK, makM, mYes, mListR1, mListR2, intBM, startV, seqOf, keyOf, List.getElem?_cons_zero, List.getElem?_cons_succ, List.getElem?_nil, List.set_cons_zero, List.set_cons_succ, List.map_cons, List.map_nil, List.length_cons, List.length_nil, List.cons_append, List.nil_append, List.append_nil, List.replicate, Nat.reduceAdd, Nat.reduceSub, Nat.reduceLeDiff, Nat.reduceLT, Nat.reduceEqDiff, Int.reduceLT, Int.reduceLE, Int.reduceNeg, Int.reducePow, ite_true, ite_false, if_true, if_false, reduceIte, Bool.false_eq_true, Bool.true_eq_false, Bool.not_true, Bool.not_false, and_self, and_true, true_and, Mu.put_same, Mu.new_same, Mu.put_nx, Mu.new_nx, Nat.zero_add, Nat.le_refl, Goes_nx, Gets_ok, Rets_nx, Rets_rt, CMul, CDiv, CPow, or_true, true_or, or_self, not_true, not_false_iff, mDm, dctV, popDM, getDM, mDisp, mPrs, kvOf, decide_false, decide_true, Int.reduceToNat, Nat.reducePow, Int.reduceAdd, Int.reduceSub, Int.reduceMul, hx1, C]
      have A2 : sSto dstoM (mV 14) (mV 13) (mOp dgetM (mV 14) (mV 12)) ρ (μ1.put x (.sys (copyV v p m sr (r p)))) = .ok (.nx ρ) ((μ1.put x (.sys (copyV v p m sr (r p)))).put (d p) (.dct (kPut kvs (.inl m) (gs sr)))) := by
        have ox1 := ox (copyV v p m sr (r p))
        have kg : kGet kvs (.inl n) = some (gs sr) := by rw [dd.get, hsr]; rfl
        rw [← hρ]
        unfold rw60
        have hz : kvs.length ≤ 1000000 := by
          have := rows8 h1.K hp
          rw [dd.len this.1]
          omega
        simp only [mChain, isiM, sDst2, neD0M, Wn.R.bind_ok, Wn.R.bind_no, Wn.R.cut_ok, Wn.R.cut_no, sThen_nx, sThen_rt, sThen_bk, sThen_ct, mC, mV, mNil, mCons, mTup, mLst, mOp, mUn, mFn, mMt, boolM, mTest, mAnd, mOr, mNot, mIf, mBl, mAndV, mOrV, mNotV, mAndT, mOrT, truM, List.isEmpty_cons, List.isEmpty_nil, addM, subM, mulM, modM, fdivM, powM, negM, ltM, leM, gtM, geM, cmpI, isM', isntM, isNon, getM, dgetM, slM, mSl, mP, mP0, lenM, listM, tupleM, minM, maxM, absM, intM, sortedM, mBm, lstOf, appM, popM, extM, idxM, remLM, sNil, sSeq, sSet, sExpr, sRet, sRetN, sIf, sBrk, sCnt, sPar, sPar3, sAsg, tgN, tgT, unp, stoM, dstoM, sSto, Wk.items, iSeq, iRng1, iRng2, iEnm, mCall, mMeth, sysOf, onSys, mMethK, mMake, mMakeK, makM, mYes, mListR1, mListR2, intBM, startV, seqOf, keyOf, List.getElem?_cons_zero, List.getElem?_cons_succ, List.getElem?_nil, List.set_cons_zero, List.set_cons_succ, List.map_cons, List.map_nil, List.length_cons, List.length_nil, List.cons_append, List.nil_append, List.append_nil, List.replicate, Nat.reduceAdd, Nat.reduceSub, Nat.reduceLeDiff, Nat.reduceLT, Nat.reduceEqDiff, Int.reduceLT, Int.reduceLE, Int.reduceNeg, Int.reducePow, ite_true, ite_false, if_true, if_false, reduceIte, Bool.false_eq_true, Bool.true_eq_false, Bool.not_true, Bool.not_false, and_self, and_true, true_and, Mu.put_same, Mu.new_same, Mu.put_nx, Mu.new_nx, Nat.zero_add, Nat.le_refl, Goes_nx, Gets_ok, Rets_nx, Rets_rt, CMul, CDiv, CPow, or_true, true_or, or_self, not_true, not_false_iff, mDm, dctV, popDM, getDM, mDisp, mPrs, kvOf, decide_false, decide_true, Int.reduceToNat, Nat.reducePow, Int.reduceAdd, Int.reduceSub, Int.reduceMul, ox1, dctOf, kg, hz]
      rw [seq_nx A1, A2]
      exact ⟨rfl, ⟨_, _, h1.two hp q1 (dd.put q3) q2⟩, k1'.over (kee2 (by simp) dp) (by simp)⟩
theorem turn60 (h : M60 μ b x t d z lab v r) : Goes (m_law_14 (rw60 s b x t z lab v1 v3 v7 v9 v10 v11 v12 v13 v14) μ) fun ρ' μ' => (∃ v11 v12 v13 v14, ρ' = rw60 s b x t z lab v1 v3 v7 v9 v10 v11 v12 v13 v14) ∧ (∃ v' r', M60 μ' b x t d z lab v' r') ∧ Kee [b, x, d 0, d 1] μ μ' := by
  have zz := h.z1
  obtain ⟨p, μ1, e1, p0, p1, k1, b1, _⟩ := take_eq h.bg (n := 2) (by decide) (by decide)
  obtain ⟨n, μ2, e2, n0, n1, k2, b2, _⟩ := take_eq b1 (n := z) (by omega) (by omega)
  obtain ⟨m, μ3, e3, m0, m1, k3, b3, _⟩ := take_eq b2 (n := z) (by omega) (by omega)
  have k13 := (k1.trans k2).trans k3
  have h3 := h.draw k13 b3
  have hp : p = 0 ∨ p = 1 := by omega
  have A1 : m_law_10 (rw60 s b x t z lab v1 v3 v7 v9 v10 v11 v12 v13 v14) μ = .ok (.nx (rw60 s b x t z lab v1 v3 v7 v9 v10 (some (.int p)) (some (.int n)) (some (.int m)) v14)) μ3 := by
    unfold m_law_10 rw60
    simp only [mChain, isiM, sDst2, neD0M, Wn.R.bind_ok, Wn.R.bind_no, Wn.R.cut_ok, Wn.R.cut_no, sThen_nx, sThen_rt, sThen_bk, sThen_ct, mC, mV, mNil, mCons, mTup, mLst, mOp, mUn, mFn, mMt, boolM, mTest, mAnd, mOr, mNot, mIf, mBl, mAndV, mOrV, mNotV, mAndT, mOrT, truM, List.isEmpty_cons, List.isEmpty_nil, addM, subM, mulM, modM, fdivM, powM, negM, ltM, leM, gtM, geM, cmpI, isM', isntM, isNon, getM, dgetM, slM, mSl, mP, mP0, lenM, listM, tupleM, minM, maxM, absM, intM, sortedM, mBm, lstOf, appM, popM, extM, idxM, remLM, sNil, sSeq, sSet, sExpr, sRet, sRetN, sIf, sBrk, sCnt, sPar, sPar3, sAsg, tgN, tgT, unp, stoM, dstoM, sSto, Wk.items, iSeq, iRng1, iRng2, iEnm, mCall, mMeth, sysOf, onSys, mMethK, mMake, mMakeK, makM, mYes, mListR1, mListR2, intBM, startV, seqOf, keyOf, List.getElem?_cons_zero, List.getElem?_cons_succ, List.getElem?_nil, List.set_cons_zero, List.set_cons_succ, List.map_cons, List.map_nil, List.length_cons, List.length_nil, List.cons_append, List.nil_append, List.append_nil, List.replicate, Nat.reduceAdd, Nat.reduceSub, Nat.reduceLeDiff, Nat.reduceLT, Nat.reduceEqDiff, Int.reduceLT, Int.reduceLE, Int.reduceNeg, Int.reducePow, ite_true, ite_false, if_true, if_false, reduceIte, Bool.false_eq_true, Bool.true_eq_false, Bool.not_true, Bool.not_false, and_self, and_true, true_and, Mu.put_same, Mu.new_same, Mu.put_nx, Mu.new_nx, Nat.zero_add, Nat.le_refl, Goes_nx, Gets_ok, Rets_nx, Rets_rt, CMul, CDiv, CPow, or_true, true_or, or_self, not_true, not_false_iff, mDm, dctV, popDM, getDM, mDisp, mPrs, kvOf, decide_false, decide_true, Int.reduceToNat, Nat.reducePow, Int.reduceAdd, Int.reduceSub, Int.reduceMul, e1, e2, e3]
  have A2 : sSet 14 (mOp dgetM (mV 8) (mV 11)) (rw60 s b x t z lab v1 v3 v7 v9 v10 (some (.int p)) (some (.int n)) (some (.int m)) v14) μ3 = .ok (.nx (rw60 s b x t z lab v1 v3 v7 v9 v10 (some (.int p)) (some (.int n)) (some (.int m)) (some (.loc (d p))))) μ3 := by
    unfold sSet
    rw [op2 (a := .loc t) (b := .int p) (μ1 := μ3) (μ2 := μ3) rfl rfl, dget2 hp (by unfold dctOf; rw [h3.Y.ht])]
    rfl
  obtain ⟨ρ4, μ4, A3, rfl, ⟨v', r', h4⟩, k4⟩ := (twelve (s := s) (v1 := v1) (v3 := v3) (v7 := v7) (v9 := v9) (v10 := v10) h3 hp ⟨n0, n1⟩ ⟨m0, m1⟩).ex
  obtain ⟨μ5, A4, k5⟩ := right_eq h4.K h4.Y h4.hx h4.xl
  unfold m_law_14
  rw [seq_nx A1, seq_nx A2, seq_nx A3]
  unfold m_law_13
  have Tt : mNot (mTest (mCall 4 d__law_right (mCons (mV 6) (mCons (mV 8) (mCons (mC (.int 1)) (mCons (mV 5) (mNil))))))) (rw60 s b x t z lab v1 v3 v7 v9 v10 (some (.int p)) (some (.int n)) (some (.int m)) (some (.loc (d p)))) μ4 = .ok false μ5 := by
    unfold rw60
    simp only [mChain, isiM, sDst2, neD0M, Wn.R.bind_ok, Wn.R.bind_no, Wn.R.cut_ok, Wn.R.cut_no, sThen_nx, sThen_rt, sThen_bk, sThen_ct, mC, mV, mNil, mCons, mTup, mLst, mOp, mUn, mFn, mMt, boolM, mTest, mAnd, mOr, mNot, mIf, mBl, mAndV, mOrV, mNotV, mAndT, mOrT, truM, List.isEmpty_cons, List.isEmpty_nil, addM, subM, mulM, modM, fdivM, powM, negM, ltM, leM, gtM, geM, cmpI, isM', isntM, isNon, getM, dgetM, slM, mSl, mP, mP0, lenM, listM, tupleM, minM, maxM, absM, intM, sortedM, mBm, lstOf, appM, popM, extM, idxM, remLM, sNil, sSeq, sSet, sExpr, sRet, sRetN, sIf, sBrk, sCnt, sPar, sPar3, sAsg, tgN, tgT, unp, stoM, dstoM, sSto, Wk.items, iSeq, iRng1, iRng2, iEnm, mCall, mMeth, sysOf, onSys, mMethK, mMake, mMakeK, makM, mYes, mListR1, mListR2, intBM, startV, seqOf, keyOf, List.getElem?_cons_zero, List.getElem?_cons_succ, List.getElem?_nil, List.set_cons_zero, List.set_cons_succ, List.map_cons, List.map_nil, List.length_cons, List.length_nil, List.cons_append, List.nil_append, List.append_nil, List.replicate, Nat.reduceAdd, Nat.reduceSub, Nat.reduceLeDiff, Nat.reduceLT, Nat.reduceEqDiff, Int.reduceLT, Int.reduceLE, Int.reduceNeg, Int.reducePow, ite_true, ite_false, if_true, if_false, reduceIte, Bool.false_eq_true, Bool.true_eq_false, Bool.not_true, Bool.not_false, and_self, and_true, true_and, Mu.put_same, Mu.new_same, Mu.put_nx, Mu.new_nx, Nat.zero_add, Nat.le_refl, Goes_nx, Gets_ok, Rets_nx, Rets_rt, CMul, CDiv, CPow, or_true, true_or, or_self, not_true, not_false_iff, mDm, dctV, popDM, getDM, mDisp, mPrs, kvOf, decide_false, decide_true, Int.reduceToNat, Nat.reducePow, Int.reduceAdd, Int.reduceSub, Int.reduceMul, A4]
  rw [if_no Tt]
  exact ⟨⟨_, _, _, _, rfl⟩, ⟨_, _, h4.any k5⟩, ((k13.mono (by simp)).trans k4).trans (k5.mono (by simp))⟩
end

/-! ### k60: the start -/
def R60 : List (Int × Int) := [(0, 0), (1, 1), (2, 2)]
def sv60 (z lab : Int) (w : Str) (tabs : List (Int × List (Int × Int))) : Sv := ⟨2, z, 3, tabs, [(0, .set [⟨1, 1, lab, w, true⟩] []), (1, .src 0 false), (2, .src 0 false)]⟩
def Rw (rows : List (Int × Int)) : Prop := rows = R60 ∨ rows = R60 ++ [(3, 0)] ∨ rows = R60 ++ [(3, 1)]
theorem Rw.nd {rows : List (Int × Int)} (h : Rw rows) : (rows.map (·.1)).Nodup := by
  rcases h with rfl | rfl | rfl <;> decide
theorem Rw.mem {rows : List (Int × Int)} (h : Rw rows) {q : Int × Int} (hq : q ∈ rows) : 0 ≤ q.1 ∧ q.1 < 4 ∧ (q.2 = 0 ∨ q.2 = 1 ∨ q.2 = 2) := by
  rcases h with rfl | rfl | rfl <;> simp only [R60, List.mem_cons, List.not_mem_nil, or_false, List.cons_append, List.nil_append] at hq
  · rcases hq with rfl | rfl | rfl <;> simp
  · rcases hq with rfl | rfl | rfl | rfl <;> simp
  · rcases hq with rfl | rfl | rfl | rfl <;> simp
theorem Rw.lk {rows : List (Int × Int)} (h : Rw rows) : lk rows 0 = some 0 ∧ lk rows 1 = some 1 ∧ lk rows 2 = some 2 := by
  rcases h with rfl | rfl | rfl <;> exact ⟨rfl, rfl, rfl⟩
theorem wf60 {z lab : Int} {w : Str} {rows : List (Int × Int)} (hz : 4 ≤ z ∧ z ≤ 8) (h : Rw rows) : WF (sv60 z lab w [(0, rows), (1, rows)]) := by
  have tt : ∀ {t : Int × List (Int × Int)}, t ∈ [((0 : Int), rows), (1, rows)] → (t.1 = 0 ∨ t.1 = 1) ∧ t.2 = rows := fun {t} ht => by
    simp only [List.mem_cons, List.not_mem_nil, or_false] at ht
    rcases ht with rfl | rfl <;> simp
  have th : ∀ {t : Int × Tv}, t ∈ (sv60 z lab w [(0, rows), (1, rows)]).ths → t = (0, .set [⟨1, 1, lab, w, true⟩] []) ∨ t = (1, .src 0 false) ∨ t = (2, .src 0 false) := fun {t} ht => by
    simpa only [sv60, List.mem_cons, List.not_mem_nil, or_false] using ht
  refine ⟨⟨by show (2 : Int) ≤ 2; decide, by show (2 : Int) ≤ 6; decide⟩, ⟨by show 3 ≤ z; omega, hz.2⟩, by show ([(0 : Int), 1]).Nodup; decide, fun t ht => ?_, fun t ht => ?_, fun t ht q hq => ?_, fun t ht q hq => ?_, by show ([(0 : Int), 1, 2]).Nodup; decide, fun t ht => ?_, fun t ht => ?_, fun t ht es row e => ?_⟩
  · have := (tt ht).1
    show 0 ≤ t.1 ∧ t.1 < 2
    omega
  · rw [(tt ht).2]
    exact h.nd
  · rw [(tt ht).2] at hq
    have := h.mem hq
    show 0 ≤ q.1 ∧ q.1 < z
    omega
  · rw [(tt ht).2] at hq
    have := (h.mem hq).2.2
    show q.2 ∈ ([0, 1, 2] : List Int)
    simp only [List.mem_cons, List.not_mem_nil, or_false]
    exact this
  · show 0 ≤ t.1 ∧ t.1 < 3
    rcases th ht with rfl | rfl | rfl <;> simp
  · obtain ⟨l0, l1, l2⟩ := h.lk
    rcases th ht with rfl | rfl | rfl
    · exact ⟨(0, rows), List.mem_cons_self, (0, 0), lk_mem l0, rfl⟩
    · exact ⟨(0, rows), List.mem_cons_self, (1, 1), lk_mem l1, rfl⟩
    · exact ⟨(0, rows), List.mem_cons_self, (2, 2), lk_mem l2, rfl⟩
  · rcases th ht with rfl | rfl | rfl
    · cases e
      refine ⟨by simp, by simp, List.nodup_nil, (fun _ h => nomatch h), fun e he => ?_, ?_⟩
      · rw [List.mem_singleton.mp he]
        exact ⟨0, false, rfl⟩
      · show 1 ≤ 1000000
        decide
    · cases e
    · cases e
theorem k60_start {z lab : Int} {w : Str} {rows : List (Int × Int)} (hz : 4 ≤ z ∧ z ≤ 8) (hw : w ∈ words) (h : Rw rows) : K60 z lab (sv60 z lab w [(0, rows), (1, rows)]) (fun _ => rows) := by
  obtain ⟨l0, l1, l2⟩ := h.lk
  refine ⟨wf60 hz h, rfl, rfl, rfl, fun s tv e i => ?_, fun _ _ => ⟨w, true, [], hw, rfl⟩, fun b => absurd ⟨hd_iff.mpr ⟨0, 0, .inl rfl, l0⟩, hd_iff.mpr ⟨0, 1, .inl rfl, l1⟩⟩ b⟩
  have := lk_mem e
  simp only [sv60, List.mem_cons, List.not_mem_nil, or_false, Prod.mk.injEq] at this
  rcases this with ⟨rfl, rfl⟩ | ⟨rfl, rfl⟩ | ⟨rfl, rfl⟩
  · rfl
  · cases i
  · cases i
theorem dr_map : ∀ {rows : List (Int × Int)}, (rows.map (·.1)).Nodup → DR (rows.map fun q => ((Sum.inl q.1 : Key), gs q.2)) rows gs := fun {rows} nd => by
  have e : (rows.map fun q => ((Sum.inl q.1 : Key), gs q.2)).map (·.1) = (rows.map (·.1)).map Sum.inl := by
    rw [List.map_map, List.map_map]
    rfl
  refine ⟨?_, ⟨_, e⟩, fun n => ?_⟩
  · rw [e]
    exact List.pairwise_map.mpr (nd.imp fun h z => h (Sum.inl.inj z))
  · clear e nd
    induction rows with
    | nil => rfl
    | cons q l ih =>
      rw [List.map_cons]
      by_cases c : q.1 = n
      · rw [kGet_pos (by rw [c]), show lk (q :: l) n = some q.2 from if_pos c]
        rfl
      · rw [kGet_neg (fun y => c (Sum.inl.inj y)), show lk (q :: l) n = lk l n from if_neg c]
        exact ih
section
variable {z lab : Int} {μ μ1 : Mu} {x : Nat}
def s60a (z : Int) : Sv := ⟨2, z, 1, [(0, [(0, 0)])], [(0, .set [] [])]⟩
def s60b (z : Int) : Sv := ⟨2, z, 2, [(0, [(0, 0), (1, 1)])], [(0, .set [] []), (1, .src 0 false)]⟩
def s60c (z : Int) : Sv := ⟨2, z, 3, [(0, R60)], [(0, .set [] []), (1, .src 0 false), (2, .src 0 false)]⟩
theorem new60a (hz : 4 ≤ z ∧ z ≤ 8) : newM (.set [] []) x (newSv 2 z) [.int 0] μ = .ok (.int 0) (μ.put x (.sys (s60a z))) :=
  new_ok (rows := []) (k := 0) _ rfl (by show (0 : Int) ≤ 0 ∧ (0 : Int) ≤ 1000000; decide) (lowFree_some (k := 0) (by show (0 : Int) < z; omega) (fun i hi => absurd hi (Nat.not_lt_zero _)) (by simp))
theorem new60b (hz : 4 ≤ z ∧ z ≤ 8) : newM (.src 0 false) x (s60a z) [.int 0] μ = .ok (.int 1) (μ.put x (.sys (s60b z))) :=
  new_ok (rows := [(0, 0)]) (k := 1) _ rfl (by show (0 : Int) ≤ 1 ∧ (1 : Int) ≤ 1000000; decide) (lowFree_some (k := 1) (by show (1 : Int) < z; omega) (fun i hi => by
    have : i = 0 := by omega
    subst this
    simp) (by simp))
theorem new60c (hz : 4 ≤ z ∧ z ≤ 8) : newM (.src 0 false) x (s60b z) [.int 0] μ = .ok (.int 2) (μ.put x (.sys (s60c z))) :=
  new_ok (rows := [(0, 0), (1, 1)]) (k := 2) _ rfl (by show (0 : Int) ≤ 2 ∧ (2 : Int) ≤ 1000000; decide) (lowFree_some (k := 2) (by show (2 : Int) < z; omega) (fun i hi => by
    have : i = 0 ∨ i = 1 := by omega
    rcases this with rfl | rfl <;> simp) (by simp))
theorem add60 {w : Str} (hl : 0 ≤ lab ∧ lab ≤ 999999) (hw : w ∈ words) : addM' x (s60c z) [.int 0, .int 0, .int 1, .int lab, .str w] μ = .ok .non (μ.put x (.sys (sv60 z lab w [(0, R60)]))) :=
  add_ok (rows := R60) (ser1 := 0) (ser := 1) (u := 0) (f := false) (es := []) (row := []) rfl rfl rfl rfl rfl hl.1 hl.2 hw (by simp) (by simp) (by decide)
theorem cop60 {w : Str} (hz : 4 ≤ z ∧ z ≤ 8) {c : Int} (hc : c = 0 ∨ c = 1) : copM x (sv60 z lab w [(0, R60)]) [.int 0, .int c, .int 3] μ = .ok (.int 3) (μ.put x (.sys (sv60 z lab w [(0, R60 ++ [(3, c)])]))) := by
  have h := copTo_ok (x := x) (μ := μ) (v := sv60 z lab w [(0, R60)]) (p := 0) (n := c) (k := 3) (ser := c) (rows := R60) rfl (by rcases hc with rfl | rfl <;> rfl) (by show (3 : Int) ≤ 1000000; decide) (by decide) (by show 3 ≤ z - 1; omega)
  rw [h]
  rfl
theorem for60 {w : Str} {rows : List (Int × Int)} : forM x (sv60 z lab w [(0, rows)]) [.int 0] μ = .ok (.int 1) (μ.put x (.sys (sv60 z lab w [(0, rows), (1, rows)]))) :=
  for_ok (v := sv60 z lab w [(0, rows)]) (c := 1) rfl (by show lowFree [0] 2 = some 1; decide)
end

/-! ### k60: from a bag to the turns -/
def rg60 (s b : Nat) (v1 v3 v4 v5 v6 v7 v8 v9 v10 v11 v12 v13 v14 : Option Val) : Rho := [some (.loc s), v1, some (.loc b), v3, v4, v5, v6, v7, v8, v9, v10, v11, v12, v13, v14]
section
variable {μ μ1 μ2 μ3 : Mu} {s b x t a : Nat} {z lab : Int} {w : Str} {v : Sv} {rows : List (Int × Int)} {ρ : Rho} {v1 v3 v4 v5 v6 v7 v8 v9 v10 v11 v12 v13 v14 : Option Val}
theorem meth60 {f : MSy} {y : Val} (hx : μ.ob x = some (.sys v)) (g6 : (mV 6) ρ μ = .ok (.loc x) μ) (hf : f x v [.int 0] μ = .ok y μ1) : mMeth f [] (mV 6) (mCons (mC (.int 0)) mNil) ρ μ = .ok y μ1 := by
  have ho : sysOf (.loc x) μ = some (x, v) := by unfold sysOf; simp only [hx]
  unfold mMeth
  rw [g6, Wn.R.bind_ok]
  simp only [ho]
  show onSys f (.loc x) ([.int 0] ++ []) μ = _
  unfold onSys
  simp only [ho]
  exact hf
theorem lst3 {A B C : ME} {a b c : Val} (hA : A ρ μ = .ok a μ1) (hB : B ρ μ1 = .ok b μ2) (hC : C ρ μ2 = .ok c μ3) : mLst (mCons A (mCons B (mCons C mNil))) ρ μ = .ok (.loc μ3.nx) (μ3.new (.lst [a, b, c])) := by
  simp only [mChain, isiM, sDst2, neD0M, Wn.R.bind_ok, Wn.R.bind_no, Wn.R.cut_ok, Wn.R.cut_no, sThen_nx, sThen_rt, sThen_bk, sThen_ct, mC, mV, mNil, mCons, mTup, mLst, mOp, mUn, mFn, mMt, boolM, mTest, mAnd, mOr, mNot, mIf, mBl, mAndV, mOrV, mNotV, mAndT, mOrT, truM, List.isEmpty_cons, List.isEmpty_nil, addM, subM, mulM, modM, fdivM, powM, negM, ltM, leM, gtM, geM, cmpI, isM', isntM, isNon, getM, dgetM, slM, mSl, mP, mP0, lenM, listM, tupleM, minM, maxM, absM, intM, sortedM, mBm, lstOf, appM, popM, extM, idxM, remLM, sNil, sSeq, sSet, sExpr, sRet, sRetN, sIf, sBrk, sCnt, sPar, sPar3, sAsg, tgN, tgT, unp, stoM, dstoM, sSto, Wk.items, iSeq, iRng1, iRng2, iEnm, mCall, mMeth, sysOf, onSys, mMethK, mMake, mMakeK, makM, mYes, mListR1, mListR2, intBM, startV, seqOf, keyOf, List.getElem?_cons_zero, List.getElem?_cons_succ, List.getElem?_nil, List.set_cons_zero, List.set_cons_succ, List.map_cons, List.map_nil, List.length_cons, List.length_nil, List.cons_append, List.nil_append, List.append_nil, List.replicate, Nat.reduceAdd, Nat.reduceSub, Nat.reduceLeDiff, Nat.reduceLT, Nat.reduceEqDiff, Int.reduceLT, Int.reduceLE, Int.reduceNeg, Int.reducePow, ite_true, ite_false, if_true, if_false, reduceIte, Bool.false_eq_true, Bool.true_eq_false, Bool.not_true, Bool.not_false, and_self, and_true, true_and, Mu.put_same, Mu.new_same, Mu.put_nx, Mu.new_nx, Nat.zero_add, Nat.le_refl, Goes_nx, Gets_ok, Rets_nx, Rets_rt, CMul, CDiv, CPow, or_true, true_or, or_self, not_true, not_false_iff, mDm, dctV, popDM, getDM, mDisp, mPrs, kvOf, decide_false, decide_true, Int.reduceToNat, Nat.reducePow, Int.reduceAdd, Int.reduceSub, Int.reduceMul, hA, hB, hC]
theorem kv60 (ρ : Rho) (μ : Mu) : mDisp [(mC (.int 0), mC (.str "set")), (mC (.int 1), mC (.str "source")), (mC (.int 2), mC (.str "other"))] ρ μ = .ok (.loc μ.nx) (μ.new (.dct (R60.map fun (q : Int × Int) => ((Sum.inl q.1 : Key), gs q.2)))) := by
  simp only [mChain, isiM, sDst2, neD0M, Wn.R.bind_ok, Wn.R.bind_no, Wn.R.cut_ok, Wn.R.cut_no, sThen_nx, sThen_rt, sThen_bk, sThen_ct, mC, mV, mNil, mCons, mTup, mLst, mOp, mUn, mFn, mMt, boolM, mTest, mAnd, mOr, mNot, mIf, mBl, mAndV, mOrV, mNotV, mAndT, mOrT, truM, List.isEmpty_cons, List.isEmpty_nil, addM, subM, mulM, modM, fdivM, powM, negM, ltM, leM, gtM, geM, cmpI, isM', isntM, isNon, getM, dgetM, slM, mSl, mP, mP0, lenM, listM, tupleM, minM, maxM, absM, intM, sortedM, mBm, lstOf, appM, popM, extM, idxM, remLM, sNil, sSeq, sSet, sExpr, sRet, sRetN, sIf, sBrk, sCnt, sPar, sPar3, sAsg, tgN, tgT, unp, stoM, dstoM, sSto, Wk.items, iSeq, iRng1, iRng2, iEnm, mCall, mMeth, sysOf, onSys, mMethK, mMake, mMakeK, makM, mYes, mListR1, mListR2, intBM, startV, seqOf, keyOf, List.getElem?_cons_zero, List.getElem?_cons_succ, List.getElem?_nil, List.set_cons_zero, List.set_cons_succ, List.map_cons, List.map_nil, List.length_cons, List.length_nil, List.cons_append, List.nil_append, List.append_nil, List.replicate, Nat.reduceAdd, Nat.reduceSub, Nat.reduceLeDiff, Nat.reduceLT, Nat.reduceEqDiff, Int.reduceLT, Int.reduceLE, Int.reduceNeg, Int.reducePow, ite_true, ite_false, if_true, if_false, reduceIte, Bool.false_eq_true, Bool.true_eq_false, Bool.not_true, Bool.not_false, and_self, and_true, true_and, Mu.put_same, Mu.new_same, Mu.put_nx, Mu.new_nx, Nat.zero_add, Nat.le_refl, Goes_nx, Gets_ok, Rets_nx, Rets_rt, CMul, CDiv, CPow, or_true, true_or, or_self, not_true, not_false_iff, mDm, dctV, popDM, getDM, mDisp, mPrs, kvOf, decide_false, decide_true, Int.reduceToNat, Nat.reducePow, Int.reduceAdd, Int.reduceSub, Int.reduceMul, show ([(Sum.inl 0 : Key), Sum.inl 1, Sum.inl 2]).Nodup = True from eq_true (by decide)]
  rw [Mu.new_put]
  rfl
theorem kv61 {c : Int} (hc : c = 0 ∨ c = 1) (g9 : ∀ μ, (mV 9) ρ μ = .ok (.int c) μ) (μ : Mu) : ∃ μ', mDisp [(mC (.int 0), mC (.str "set")), (mC (.int 1), mC (.str "source")), (mC (.int 2), mC (.str "other")), (mC (.int 3), mOp getM (mLst (mCons (mC (.str "set")) (mCons (mC (.str "source")) (mNil)))) (mV 9))] ρ μ = .ok (.loc μ.nx) μ' ∧ Kee [] μ μ' ∧ μ.nx < μ'.nx ∧ μ'.ob μ.nx = some (.dct ((R60 ++ [(3, c)]).map fun (q : Int × Int) => ((Sum.inl q.1 : Key), gs q.2))) := by
  obtain ⟨μ1, hμ1⟩ : ∃ μ1, μ.new (.dct []) = μ1 := ⟨_, rfl⟩
  have n1 : μ1.nx = μ.nx + 1 := by rw [← hμ1]; rfl
  have o1 : μ1.ob μ.nx = some (.dct []) := by rw [← hμ1]; exact Mu.new_same _ _
  have k1 : Kee [] μ μ1 := by rw [← hμ1]; exact Kee.new
  obtain ⟨μ2, hμ2⟩ : ∃ μ2, μ1.new (.lst [.str "set", .str "source"]) = μ2 := ⟨_, rfl⟩
  have n2 : μ2.nx = μ1.nx + 1 := by rw [← hμ2]; rfl
  have o2 : μ2.ob μ1.nx = some (.lst [.str "set", .str "source"]) := by rw [← hμ2]; exact Mu.new_same _ _
  have k2 : Kee [] μ1 μ2 := by rw [← hμ2]; exact Kee.new
  have o12 : μ2.ob μ.nx = some (.dct []) := (k2.ob _ (by omega) (by simp)).trans o1
  have L : mLst (mCons (mC (.str "set")) (mCons (mC (.str "source")) (mNil))) ρ μ1 = .ok (.loc μ1.nx) μ2 := by
    simp only [mChain, isiM, sDst2, neD0M, Wn.R.bind_ok, Wn.R.bind_no, Wn.R.cut_ok, Wn.R.cut_no, sThen_nx, sThen_rt, sThen_bk, sThen_ct, mC, mV, mNil, mCons, mTup, mLst, mOp, mUn, mFn, mMt, boolM, mTest, mAnd, mOr, mNot, mIf, mBl, mAndV, mOrV, mNotV, mAndT, mOrT, truM, List.isEmpty_cons, List.isEmpty_nil, addM, subM, mulM, modM, fdivM, powM, negM, ltM, leM, gtM, geM, cmpI, isM', isntM, isNon, getM, dgetM, slM, mSl, mP, mP0, lenM, listM, tupleM, minM, maxM, absM, intM, sortedM, mBm, lstOf, appM, popM, extM, idxM, remLM, sNil, sSeq, sSet, sExpr, sRet, sRetN, sIf, sBrk, sCnt, sPar, sPar3, sAsg, tgN, tgT, unp, stoM, dstoM, sSto, Wk.items, iSeq, iRng1, iRng2, iEnm, mCall, mMeth, sysOf, onSys, mMethK, mMake, mMakeK, makM, mYes, mListR1, mListR2, intBM, startV, seqOf, keyOf, List.getElem?_cons_zero, List.getElem?_cons_succ, List.getElem?_nil, List.set_cons_zero, List.set_cons_succ, List.map_cons, List.map_nil, List.length_cons, List.length_nil, List.cons_append, List.nil_append, List.append_nil, List.replicate, Nat.reduceAdd, Nat.reduceSub, Nat.reduceLeDiff, Nat.reduceLT, Nat.reduceEqDiff, Int.reduceLT, Int.reduceLE, Int.reduceNeg, Int.reducePow, ite_true, ite_false, if_true, if_false, reduceIte, Bool.false_eq_true, Bool.true_eq_false, Bool.not_true, Bool.not_false, and_self, and_true, true_and, Mu.put_same, Mu.new_same, Mu.put_nx, Mu.new_nx, Nat.zero_add, Nat.le_refl, Goes_nx, Gets_ok, Rets_nx, Rets_rt, CMul, CDiv, CPow, or_true, true_or, or_self, not_true, not_false_iff, mDm, dctV, popDM, getDM, mDisp, mPrs, kvOf, decide_false, decide_true, Int.reduceToNat, Nat.reducePow, Int.reduceAdd, Int.reduceSub, Int.reduceMul, hμ2]
  have gA : mOp getM (mLst (mCons (mC (.str "set")) (mCons (mC (.str "source")) (mNil)))) (mV 9) ρ μ1 = .ok (gs c) μ2 := by
    rw [op2 L (g9 μ2)]
    unfold getM
    simp only [seqOf_lst o2]
    rcases hc with rfl | rfl <;> rfl
  have P : mPrs [(mC (.int 0), mC (.str "set")), (mC (.int 1), mC (.str "source")), (mC (.int 2), mC (.str "other")), (mC (.int 3), mOp getM (mLst (mCons (mC (.str "set")) (mCons (mC (.str "source")) (mNil)))) (mV 9))] ρ μ1 = .ok [(.int 0, .str "set"), (.int 1, .str "source"), (.int 2, .str "other"), (.int 3, gs c)] μ2 := by
    have e : ∀ {A B : ME} {r : List (ME × ME)} {μa μb μc μd : Mu} {a b : Val} {ps : List (Val × Val)}, A ρ μa = .ok a μb → B ρ μb = .ok b μc → mPrs r ρ μc = .ok ps μd → mPrs ((A, B) :: r) ρ μa = .ok ((a, b) :: ps) μd := fun h1 h2 h3 => by
      rw [mPrs, h1, Wn.R.bind_ok, h2, Wn.R.bind_ok, h3, Wn.R.bind_ok]
    exact e (μb := μ1) (μc := μ1) rfl rfl (e (μb := μ1) (μc := μ1) rfl rfl (e (μb := μ1) (μc := μ1) rfl rfl (e (μb := μ1) rfl gA rfl)))
  refine ⟨μ2.put μ.nx (.dct ((R60 ++ [(3, c)]).map fun (q : Int × Int) => ((Sum.inl q.1 : Key), gs q.2))), ?_, (k1.trans k2).putN (.inl (Nat.le_refl _)), by show μ.nx < μ2.nx; omega, Mu.put_same _ _ _⟩
  unfold mDisp
  rw [hμ1, P, Wn.R.bind_ok]
  have hk : kvOf [(.int 0, .str "set"), (.int 1, .str "source"), (.int 2, .str "other"), (.int 3, gs c)] = some ((R60 ++ [(3, c)]).map fun (q : Int × Int) => ((Sum.inl q.1 : Key), gs q.2)) := rfl
  have hn : (((R60 ++ [(3, c)]).map fun (q : Int × Int) => ((Sum.inl q.1 : Key), gs q.2)).map (fun (x : Key × Val) => x.1)).Nodup := by
    show ([(Sum.inl 0 : Key), Sum.inl 1, Sum.inl 2, Sum.inl 3]).Nodup
    decide
  simp only [hk, o12]
  rw [if_pos ⟨hn, by show 4 ≤ 15; decide⟩]
theorem disp1 {D : ME} (hD : D ρ (μ.new (.dct [])) = .ok (.loc a) μ1) (ho : μ1.ob μ.nx = some (.dct [])) : mDisp [(mC (.int 0), D)] ρ μ = .ok (.loc μ.nx) (μ1.put μ.nx (.dct [(.inl 0, .loc a)])) := by
  simp only [mChain, isiM, sDst2, neD0M, Wn.R.bind_ok, Wn.R.bind_no, Wn.R.cut_ok, Wn.R.cut_no, sThen_nx, sThen_rt, sThen_bk, sThen_ct, mC, mV, mNil, mCons, mTup, mLst, mOp, mUn, mFn, mMt, boolM, mTest, mAnd, mOr, mNot, mIf, mBl, mAndV, mOrV, mNotV, mAndT, mOrT, truM, List.isEmpty_cons, List.isEmpty_nil, addM, subM, mulM, modM, fdivM, powM, negM, ltM, leM, gtM, geM, cmpI, isM', isntM, isNon, getM, dgetM, slM, mSl, mP, mP0, lenM, listM, tupleM, minM, maxM, absM, intM, sortedM, mBm, lstOf, appM, popM, extM, idxM, remLM, sNil, sSeq, sSet, sExpr, sRet, sRetN, sIf, sBrk, sCnt, sPar, sPar3, sAsg, tgN, tgT, unp, stoM, dstoM, sSto, Wk.items, iSeq, iRng1, iRng2, iEnm, mCall, mMeth, sysOf, onSys, mMethK, mMake, mMakeK, makM, mYes, mListR1, mListR2, intBM, startV, seqOf, keyOf, List.getElem?_cons_zero, List.getElem?_cons_succ, List.getElem?_nil, List.set_cons_zero, List.set_cons_succ, List.map_cons, List.map_nil, List.length_cons, List.length_nil, List.cons_append, List.nil_append, List.append_nil, List.replicate, Nat.reduceAdd, Nat.reduceSub, Nat.reduceLeDiff, Nat.reduceLT, Nat.reduceEqDiff, Int.reduceLT, Int.reduceLE, Int.reduceNeg, Int.reducePow, ite_true, ite_false, if_true, if_false, reduceIte, Bool.false_eq_true, Bool.true_eq_false, Bool.not_true, Bool.not_false, and_self, and_true, true_and, Mu.put_same, Mu.new_same, Mu.put_nx, Mu.new_nx, Nat.zero_add, Nat.le_refl, Goes_nx, Gets_ok, Rets_nx, Rets_rt, CMul, CDiv, CPow, or_true, true_or, or_self, not_true, not_false_iff, mDm, dctV, popDM, getDM, mDisp, mPrs, kvOf, decide_false, decide_true, Int.reduceToNat, Nat.reducePow, Int.reduceAdd, Int.reduceSub, Int.reduceMul, hD, ho, show ([(Sum.inl 0 : Key)]).Nodup = True from eq_true (by decide)]
theorem disp2 {D D' : ME} {c : Nat} (hD : D ρ (μ.new (.dct [])) = .ok (.loc a) μ1) (hD' : D' ρ μ1 = .ok (.loc c) μ2) (ho : μ2.ob μ.nx = some (.dct [])) : mDisp [(mC (.int 0), D), (mC (.int 1), D')] ρ μ = .ok (.loc μ.nx) (μ2.put μ.nx (.dct [(.inl 0, .loc a), (.inl 1, .loc c)])) := by
  simp only [mChain, isiM, sDst2, neD0M, Wn.R.bind_ok, Wn.R.bind_no, Wn.R.cut_ok, Wn.R.cut_no, sThen_nx, sThen_rt, sThen_bk, sThen_ct, mC, mV, mNil, mCons, mTup, mLst, mOp, mUn, mFn, mMt, boolM, mTest, mAnd, mOr, mNot, mIf, mBl, mAndV, mOrV, mNotV, mAndT, mOrT, truM, List.isEmpty_cons, List.isEmpty_nil, addM, subM, mulM, modM, fdivM, powM, negM, ltM, leM, gtM, geM, cmpI, isM', isntM, isNon, getM, dgetM, slM, mSl, mP, mP0, lenM, listM, tupleM, minM, maxM, absM, intM, sortedM, mBm, lstOf, appM, popM, extM, idxM, remLM, sNil, sSeq, sSet, sExpr, sRet, sRetN, sIf, sBrk, sCnt, sPar, sPar3, sAsg, tgN, tgT, unp, stoM, dstoM, sSto, Wk.items, iSeq, iRng1, iRng2, iEnm, mCall, mMeth, sysOf, onSys, mMethK, mMake, mMakeK, makM, mYes, mListR1, mListR2, intBM, startV, seqOf, keyOf, List.getElem?_cons_zero, List.getElem?_cons_succ, List.getElem?_nil, List.set_cons_zero, List.set_cons_succ, List.map_cons, List.map_nil, List.length_cons, List.length_nil, List.cons_append, List.nil_append, List.append_nil, List.replicate, Nat.reduceAdd, Nat.reduceSub, Nat.reduceLeDiff, Nat.reduceLT, Nat.reduceEqDiff, Int.reduceLT, Int.reduceLE, Int.reduceNeg, Int.reducePow, ite_true, ite_false, if_true, if_false, reduceIte, Bool.false_eq_true, Bool.true_eq_false, Bool.not_true, Bool.not_false, and_self, and_true, true_and, Mu.put_same, Mu.new_same, Mu.put_nx, Mu.new_nx, Nat.zero_add, Nat.le_refl, Goes_nx, Gets_ok, Rets_nx, Rets_rt, CMul, CDiv, CPow, or_true, true_or, or_self, not_true, not_false_iff, mDm, dctV, popDM, getDM, mDisp, mPrs, kvOf, decide_false, decide_true, Int.reduceToNat, Nat.reducePow, Int.reduceAdd, Int.reduceSub, Int.reduceMul, hD, hD', ho, show ([(Sum.inl 0 : Key), Sum.inl 1]).Nodup = True from eq_true (by decide)]
/-- one process alone -/
structure P60 (μ : Mu) (b x t a : Nat) (z lab : Int) (w : Str) (rows : List (Int × Int)) : Prop where
  bg : Bag μ b
  hx : μ.ob x = some (.sys (sv60 z lab w [(0, rows)]))
  ht : μ.ob t = some (.dct [(.inl 0, .loc a)])
  ha : ∃ kvs, μ.ob a = some (.dct kvs) ∧ DR kvs rows gs
  lt : b < x ∧ x < t ∧ x < a ∧ t < μ.nx ∧ a < μ.nx ∧ t ≠ a
  hr : Rw rows
theorem P60.draw (h : P60 μ b x t a z lab w rows) (kp : Kee [b] μ μ1) (bg : Bag μ1 b) : P60 μ1 b x t a z lab w rows := by
  obtain ⟨l1, l2, l3, l4, l5, l6⟩ := h.lt
  obtain ⟨kvs, o, dd⟩ := h.ha
  have le := kp.le
  exact ⟨bg, (kp.ob _ (by omega) (by simp; omega)).trans h.hx, (kp.ob _ (by omega) (by simp; omega)).trans h.ht, ⟨kvs, (kp.ob _ (by omega) (by simp; omega)).trans o, dd⟩, ⟨l1, l2, l3, by omega, by omega, l6⟩, h.hr⟩
theorem eight (h : P60 μ b x t a z lab w R60) (hz : 4 ≤ z ∧ z ≤ 8) : ∃ t' a' rows w9 μ', m_law_8 (rg60 s b v1 v3 v4 v5 (some (.loc x)) v7 (some (.loc t)) v9 v10 v11 v12 v13 v14) μ = .ok (.nx (rg60 s b v1 v3 v4 v5 (some (.loc x)) v7 (some (.loc t')) w9 v10 v11 v12 v13 v14)) μ' ∧ P60 μ' b x t' a' z lab w rows ∧ Kee [b, x] μ μ' := by
  obtain ⟨l1, l2, l3, l4, l5, l6⟩ := h.lt
  obtain ⟨y, μ1, e1, y0, y1, k1, b1, n1⟩ := take_eq h.bg (n := 2) (by decide) (by decide)
  have h1 := h.draw k1 b1
  have Te : mTest (mOp eqM (mCall 2 d__law_take (mCons (mV 2) (mCons (mC (.int 2)) (mNil)))) (mC (.int 0))) (rg60 s b v1 v3 v4 v5 (some (.loc x)) v7 (some (.loc t)) v9 v10 v11 v12 v13 v14) μ = .ok (y == 0) μ1 := by
    unfold rg60
    simp only [mChain, isiM, sDst2, neD0M, Wn.R.bind_ok, Wn.R.bind_no, Wn.R.cut_ok, Wn.R.cut_no, sThen_nx, sThen_rt, sThen_bk, sThen_ct, mC, mV, mNil, mCons, mTup, mLst, mOp, mUn, mFn, mMt, boolM, mTest, mAnd, mOr, mNot, mIf, mBl, mAndV, mOrV, mNotV, mAndT, mOrT, truM, List.isEmpty_cons, List.isEmpty_nil, addM, subM, mulM, modM, fdivM, powM, negM, ltM, leM, gtM, geM, cmpI, isM', isntM, isNon, getM, dgetM, slM, mSl, mP, mP0, lenM, listM, tupleM, minM, maxM, absM, intM, sortedM, mBm, lstOf, appM, popM, extM, idxM, remLM, sNil, sSeq, sSet, sExpr, sRet, sRetN, sIf, sBrk, sCnt, sPar, sPar3, sAsg, tgN, tgT, unp, stoM, dstoM, sSto, Wk.items, iSeq, iRng1, iRng2, iEnm, mCall, mMeth, sysOf, onSys, mMethK, mMake, mMakeK, makM, mYes, mListR1, mListR2, intBM, startV, seqOf, keyOf, List.getElem?_cons_zero, List.getElem?_cons_succ, List.getElem?_nil, List.set_cons_zero, List.set_cons_succ, List.map_cons, List.map_nil, List.length_cons, List.length_nil, List.cons_append, List.nil_append, List.append_nil, List.replicate, Nat.reduceAdd, Nat.reduceSub, Nat.reduceLeDiff, Nat.reduceLT, Nat.reduceEqDiff, Int.reduceLT, Int.reduceLE, Int.reduceNeg, Int.reducePow, ite_true, ite_false, if_true, if_false, reduceIte, Bool.false_eq_true, Bool.true_eq_false, Bool.not_true, Bool.not_false, and_self, and_true, true_and, Mu.put_same, Mu.new_same, Mu.put_nx, Mu.new_nx, Nat.zero_add, Nat.le_refl, Goes_nx, Gets_ok, Rets_nx, Rets_rt, CMul, CDiv, CPow, or_true, true_or, or_self, not_true, not_false_iff, mDm, dctV, popDM, getDM, mDisp, mPrs, kvOf, decide_false, decide_true, Int.reduceToNat, Nat.reducePow, Int.reduceAdd, Int.reduceSub, Int.reduceMul, e1, eqM, dat_int, eqv_int]
  unfold m_law_8
  cases hy : (y == 0) with
  | false =>
    rw [if_no (Te.trans (by rw [hy]))]
    exact ⟨t, a, R60, v9, μ1, rfl, h1, k1.mono (by simp)⟩
  | true =>
    rw [if_yes (Te.trans (by rw [hy]))]
    obtain ⟨c, μ2, e2, c0, c1, k2, b2, n2⟩ := take_eq b1 (n := 2) (by decide) (by decide)
    have h2 := h1.draw k2 b2
    have hc : c = 0 ∨ c = 1 := by omega
    have A1 : sSet 9 (mCall 2 d__law_take (mCons (mV 2) (mCons (mC (.int 2)) (mNil)))) (rg60 s b v1 v3 v4 v5 (some (.loc x)) v7 (some (.loc t)) v9 v10 v11 v12 v13 v14) μ1 = .ok (.nx (rg60 s b v1 v3 v4 v5 (some (.loc x)) v7 (some (.loc t)) (some (.int c)) v10 v11 v12 v13 v14)) μ2 := by
      unfold rg60
      simp only [mChain, isiM, sDst2, neD0M, Wn.R.bind_ok, Wn.R.bind_no, Wn.R.cut_ok, Wn.R.cut_no, sThen_nx, sThen_rt, sThen_bk, sThen_ct, mC, mV, mNil, mCons, mTup, mLst, mOp, mUn, mFn, mMt, boolM, mTest, mAnd, mOr, mNot, mIf, mBl, mAndV, mOrV, mNotV, mAndT, mOrT, truM, List.isEmpty_cons, List.isEmpty_nil, addM, subM, mulM, modM, fdivM, powM, negM, ltM, leM, gtM, geM, cmpI, isM', isntM, isNon, getM, dgetM, slM, mSl, mP, mP0, lenM, listM, tupleM, minM, maxM, absM, intM, sortedM, mBm, lstOf, appM, popM, extM, idxM, remLM, sNil, sSeq, sSet, sExpr, sRet, sRetN, sIf, sBrk, sCnt, sPar, sPar3, sAsg, tgN, tgT, unp, stoM, dstoM, sSto, Wk.items, iSeq, iRng1, iRng2, iEnm, mCall, mMeth, sysOf, onSys, mMethK, mMake, mMakeK, makM, mYes, mListR1, mListR2, intBM, startV, seqOf, keyOf, List.getElem?_cons_zero, List.getElem?_cons_succ, List.getElem?_nil, List.set_cons_zero, List.set_cons_succ, List.map_cons, List.map_nil, List.length_cons, List.length_nil, List.cons_append, List.nil_append, List.append_nil, List.replicate, Nat.reduceAdd, Nat.reduceSub, Nat.reduceLeDiff, Nat.reduceLT, Nat.reduceEqDiff, Int.reduceLT, Int.reduceLE, Int.reduceNeg, Int.reducePow, ite_true, ite_false, if_true, if_false, reduceIte, Bool.false_eq_true, Bool.true_eq_false, Bool.not_true, Bool.not_false, and_self, and_true, true_and, Mu.put_same, Mu.new_same, Mu.put_nx, Mu.new_nx, Nat.zero_add, Nat.le_refl, Goes_nx, Gets_ok, Rets_nx, Rets_rt, CMul, CDiv, CPow, or_true, true_or, or_self, not_true, not_false_iff, mDm, dctV, popDM, getDM, mDisp, mPrs, kvOf, decide_false, decide_true, Int.reduceToNat, Nat.reducePow, Int.reduceAdd, Int.reduceSub, Int.reduceMul, e2]
    have C := cop60 (x := x) (μ := μ2) (lab := lab) (w := w) hz hc
    have hx2 := h2.hx
    obtain ⟨μ3, hμ3⟩ : ∃ μ3, μ2.put x (.sys (sv60 z lab w [(0, R60 ++ [(3, c)])])) = μ3 := ⟨_, rfl⟩
    rw [hμ3] at C
    have A2 : m_law_6 (rg60 s b v1 v3 v4 v5 (some (.loc x)) v7 (some (.loc t)) (some (.int c)) v10 v11 v12 v13 v14) μ2 = .ok (.nx (rg60 s b v1 v3 v4 v5 (some (.loc x)) v7 (some (.loc t)) (some (.int c)) v10 v11 v12 v13 v14)) μ3 := by
      unfold m_law_6 rg60
      simp only [mChain, isiM, sDst2, neD0M, Wn.R.bind_ok, Wn.R.bind_no, Wn.R.cut_ok, Wn.R.cut_no, sThen_nx, sThen_rt, sThen_bk, sThen_ct, mC, mV, mNil, mCons, mTup, mLst, mOp, mUn, mFn, mMt, boolM, mTest, mAnd, mOr, mNot, mIf, mBl, mAndV, mOrV, mNotV, mAndT, mOrT, truM, List.isEmpty_cons, List.isEmpty_nil, addM, subM, mulM, modM, fdivM, powM, negM, ltM, leM, gtM, geM, cmpI, isM', isntM, isNon, getM, dgetM, slM, mSl, mP, mP0, lenM, listM, tupleM, minM, maxM, absM, intM, sortedM, mBm, lstOf, appM, popM, extM, idxM, remLM, sNil, sSeq, sSet, sExpr, sRet, sRetN, sIf, sBrk, sCnt, sPar, sPar3, sAsg, tgN, tgT, unp, stoM, dstoM, sSto, Wk.items, iSeq, iRng1, iRng2, iEnm, mCall, mMeth, sysOf, onSys, mMethK, mMake, mMakeK, makM, mYes, mListR1, mListR2, intBM, startV, seqOf, keyOf, List.getElem?_cons_zero, List.getElem?_cons_succ, List.getElem?_nil, List.set_cons_zero, List.set_cons_succ, List.map_cons, List.map_nil, List.length_cons, List.length_nil, List.cons_append, List.nil_append, List.append_nil, List.replicate, Nat.reduceAdd, Nat.reduceSub, Nat.reduceLeDiff, Nat.reduceLT, Nat.reduceEqDiff, Int.reduceLT, Int.reduceLE, Int.reduceNeg, Int.reducePow, ite_true, ite_false, if_true, if_false, reduceIte, Bool.false_eq_true, Bool.true_eq_false, Bool.not_true, Bool.not_false, and_self, and_true, true_and, Mu.put_same, Mu.new_same, Mu.put_nx, Mu.new_nx, Nat.zero_add, Nat.le_refl, Goes_nx, Gets_ok, Rets_nx, Rets_rt, CMul, CDiv, CPow, or_true, true_or, or_self, not_true, not_false_iff, mDm, dctV, popDM, getDM, mDisp, mPrs, kvOf, decide_false, decide_true, Int.reduceToNat, Nat.reducePow, Int.reduceAdd, Int.reduceSub, Int.reduceMul, hx2, C]
    have n3 : μ3.nx = μ2.nx := by rw [← hμ3]; rfl
    have k3 : Kee [x] μ2 μ3 := by rw [← hμ3]; exact Kee.put (by simp)
    have x3 : μ3.ob x = some (.sys (sv60 z lab w [(0, R60 ++ [(3, c)])])) := by rw [← hμ3]; exact Mu.put_same _ _ _
    have b3 := b2.keep k3 (by simp; omega)
    obtain ⟨μ4, hμ4⟩ : ∃ μ4, μ3.new (.dct []) = μ4 := ⟨_, rfl⟩
    have n4 : μ4.nx = μ3.nx + 1 := by rw [← hμ4]; rfl
    have o4 : μ4.ob μ3.nx = some (.dct []) := by rw [← hμ4]; exact Mu.new_same _ _
    have k4 : Kee [] μ3 μ4 := by rw [← hμ4]; exact Kee.new
    obtain ⟨μ5, D, k5, n5, o5⟩ := kv61 (ρ := rg60 s b v1 v3 v4 v5 (some (.loc x)) v7 (some (.loc t)) (some (.int c)) v10 v11 v12 v13 v14) hc (fun _ => rfl) μ4
    have A3 : m_law_7 (rg60 s b v1 v3 v4 v5 (some (.loc x)) v7 (some (.loc t)) (some (.int c)) v10 v11 v12 v13 v14) μ3 = .ok (.nx (rg60 s b v1 v3 v4 v5 (some (.loc x)) v7 (some (.loc μ3.nx)) (some (.int c)) v10 v11 v12 v13 v14)) (μ5.put μ3.nx (.dct [(.inl 0, .loc μ4.nx)])) := by
      unfold m_law_7 sSet
      rw [disp1 (by rw [hμ4]; exact D) ((k5.ob _ (by omega) (by simp)).trans o4)]
      rfl
    rw [seq_nx A1, seq_nx A2, A3]
    have k35 : Kee [] μ3 (μ5.put μ3.nx (.dct [(.inl 0, .loc μ4.nx)])) := (k4.trans k5).putN (.inl (Nat.le_refl _))
    have bl := h.bg.1
    refine ⟨μ3.nx, μ4.nx, R60 ++ [(3, c)], some (.int c), _, rfl, ⟨b3.keep k35 (by simp), (k35.ob _ (by omega) (by simp)).trans x3, Mu.put_same _ _ _, ⟨_, (Mu.put_ne _ _ (by omega)).trans o5, dr_map (Rw.nd ?_)⟩, ⟨l1, by omega, by omega, by show _ < μ5.nx; omega, by show _ < μ5.nx; omega, by omega⟩, ?_⟩, ((k1.mono (by simp)).trans (k2.mono (by simp))).trans ((k3.mono (by simp)).trans (k35.mono (by simp)))⟩
    · rcases hc with rfl | rfl
      · exact .inr (.inl rfl)
      · exact .inr (.inr rfl)
    · rcases hc with rfl | rfl
      · exact .inr (.inl rfl)
      · exact .inr (.inr rfl)
theorem nine (h : P60 μ b x t a z lab w rows) (hz : 4 ≤ z ∧ z ≤ 8) (hw : w ∈ words) : ∃ d μ', sSeq (sExpr (mMeth (forM) ([]) (mV 6) (mCons (mC (.int 0)) (mNil)))) m_law_9 (rg60 s b v1 v3 v4 v5 (some (.loc x)) v7 (some (.loc t)) v9 v10 v11 v12 v13 v14) μ = .ok (.nx (rg60 s b v1 v3 v4 v5 (some (.loc x)) v7 (some (.loc μ.nx)) v9 v10 v11 v12 v13 v14)) μ' ∧ M60 μ' b x μ.nx d z lab (sv60 z lab w [(0, rows), (1, rows)]) (fun _ => rows) ∧ Kee [x] μ μ' ∧ x < d 0 ∧ x < d 1 := by
  obtain ⟨l1, l2, l3, l4, l5, l6⟩ := h.lt
  obtain ⟨kvs, oa, dd⟩ := h.ha
  obtain ⟨μ1, hμ1⟩ : ∃ μ1, μ.put x (.sys (sv60 z lab w [(0, rows), (1, rows)])) = μ1 := ⟨_, rfl⟩
  have n1 : μ1.nx = μ.nx := by rw [← hμ1]; rfl
  have k1 : Kee [x] μ μ1 := by rw [← hμ1]; exact Kee.put (by simp)
  have x1 : μ1.ob x = some (.sys (sv60 z lab w [(0, rows), (1, rows)])) := by rw [← hμ1]; exact Mu.put_same _ _ _
  have b1 := h.bg.keep k1 (by simp; omega)
  have t1 := (k1.ob t (by omega) (by simp; omega)).trans h.ht
  have a1 := (k1.ob a (by omega) (by simp; omega)).trans oa
  have A1 : sExpr (mMeth (forM) ([]) (mV 6) (mCons (mC (.int 0)) (mNil))) (rg60 s b v1 v3 v4 v5 (some (.loc x)) v7 (some (.loc t)) v9 v10 v11 v12 v13 v14) μ = .ok (.nx (rg60 s b v1 v3 v4 v5 (some (.loc x)) v7 (some (.loc t)) v9 v10 v11 v12 v13 v14)) μ1 := by
    unfold sExpr
    rw [meth60 (y := .int 1) (μ1 := μ1) h.hx rfl (by rw [for60, hμ1])]
    rfl
  obtain ⟨μ2, hμ2⟩ : ∃ μ2, μ1.new (.dct []) = μ2 := ⟨_, rfl⟩
  have n2 : μ2.nx = μ1.nx + 1 := by rw [← hμ2]; rfl
  have k2 : Kee [] μ1 μ2 := by rw [← hμ2]; exact Kee.new
  have o2 : μ2.ob μ1.nx = some (.dct []) := by rw [← hμ2]; exact Mu.new_same _ _
  have t2 := (k2.ob t (by omega) (by simp)).trans t1
  have a2 := (k2.ob a (by omega) (by simp)).trans a1
  have G : mOp dgetM (mV 8) (mC (.int 0)) (rg60 s b v1 v3 v4 v5 (some (.loc x)) v7 (some (.loc t)) v9 v10 v11 v12 v13 v14) μ2 = .ok (.loc a) μ2 := by
    rw [op2 (a := .loc t) (b := .int 0) (μ1 := μ2) (μ2 := μ2) rfl rfl]
    unfold dgetM dctOf
    simp only [t2, keyOf]
    rfl
  obtain ⟨μ3, hμ3⟩ : ∃ μ3, μ2.new (.dct kvs) = μ3 := ⟨_, rfl⟩
  have n3 : μ3.nx = μ2.nx + 1 := by rw [← hμ3]; rfl
  have k3 : Kee [] μ2 μ3 := by rw [← hμ3]; exact Kee.new
  have o3 : μ3.ob μ2.nx = some (.dct kvs) := by rw [← hμ3]; exact Mu.new_same _ _
  have F : mFn dictDM (mCons (mOp dgetM (mV 8) (mC (.int 0))) (mNil)) (rg60 s b v1 v3 v4 v5 (some (.loc x)) v7 (some (.loc t)) v9 v10 v11 v12 v13 v14) μ2 = .ok (.loc μ2.nx) μ3 := by
    rw [fn1 G]
    unfold dictDM dctOf
    simp only [a2]
    rw [hμ3]
  have A2 : m_law_9 (rg60 s b v1 v3 v4 v5 (some (.loc x)) v7 (some (.loc t)) v9 v10 v11 v12 v13 v14) μ1 = .ok (.nx (rg60 s b v1 v3 v4 v5 (some (.loc x)) v7 (some (.loc μ1.nx)) v9 v10 v11 v12 v13 v14)) (μ3.put μ1.nx (.dct [(.inl 0, .loc a), (.inl 1, .loc μ2.nx)])) := by
    unfold m_law_9 sSet
    rw [disp2 (by rw [hμ2]; exact G) F ((k3.ob _ (by omega) (by simp)).trans o2)]
    rfl
  have k13 : Kee [] μ1 (μ3.put μ1.nx (.dct [(.inl 0, .loc a), (.inl 1, .loc μ2.nx)])) := (k2.trans k3).putN (.inl (Nat.le_refl _))
  refine ⟨fun p => if p = 0 then a else μ2.nx, _, (seq_nx A1).trans (A2.trans (by rw [n1])), ?_, by rw [← n1]; exact k1.trans (k13.mono (by simp)), l3, by show x < μ2.nx; omega⟩
  rw [← n1]
  refine ⟨k60_start hz hw h.hr, ⟨Mu.put_same _ _ _, by show _ < μ3.nx; omega, fun p hp => ?_⟩, b1.keep k13 (by simp), (k13.ob _ (by omega) (by simp)).trans x1, by show _ < μ3.nx; omega, hz, by omega, by omega, by omega, ?_, ?_, ?_, ?_, ?_⟩
  · rcases hp with rfl | rfl
    · exact ⟨by show a < μ3.nx; omega, by show μ1.nx ≠ a; omega, kvs, (k13.ob a (by omega) (by simp)).trans a1, dd⟩
    · exact ⟨by show μ2.nx < μ3.nx; omega, by show μ1.nx ≠ μ2.nx; omega, kvs, (Mu.put_ne _ _ (by show μ2.nx ≠ μ1.nx; omega)).trans o3, dd⟩
  · show b ≠ a; omega
  · show b ≠ μ2.nx; omega
  · show x ≠ a; omega
  · show x ≠ μ2.nx; omega
  · show a ≠ μ2.nx; omega
end

/-! ### k60: the law -/
section
variable {μ : Mu} {s b : Nat} {v1 v3 v4 v5 v6 v7 v8 v9 v10 v11 v12 v13 v14 : Option Val}
theorem sixteen (hb : Bag μ b) : Goes (m_law_16 (rg60 s b v1 v3 v4 v5 v6 v7 v8 v9 v10 v11 v12 v13 v14) μ) fun ρ' μ' => (∃ v4 v5 v6 v7 v8 v9 v10 v11 v12 v13 v14, ρ' = rg60 s b v1 v3 v4 v5 v6 v7 v8 v9 v10 v11 v12 v13 v14) ∧ Kee [b] μ μ' ∧ Bag μ' b := by
  have bl := hb.1
  obtain ⟨y, μ1, e1, y0, y1, k1, b1, n1⟩ := take_eq hb (n := 3) (by decide) (by decide)
  obtain ⟨lab, μ2, e2, l0, l1, k2, b2, n2⟩ := take_eq b1 (n := 1000) (by decide) (by decide)
  obtain ⟨z, hz⟩ : ∃ z : Int, 4 + y = z := ⟨_, rfl⟩
  have zz : 4 ≤ z ∧ z ≤ 8 := by omega
  have A1 : m_law_1 (rg60 s b v1 v3 v4 v5 v6 v7 v8 v9 v10 v11 v12 v13 v14) μ = .ok (.nx (rg60 s b v1 v3 (some (.int z)) (some (.int lab)) v6 v7 v8 v9 v10 v11 v12 v13 v14)) μ2 := by
    unfold m_law_1 rg60
    simp only [mChain, isiM, sDst2, neD0M, Wn.R.bind_ok, Wn.R.bind_no, Wn.R.cut_ok, Wn.R.cut_no, sThen_nx, sThen_rt, sThen_bk, sThen_ct, mC, mV, mNil, mCons, mTup, mLst, mOp, mUn, mFn, mMt, boolM, mTest, mAnd, mOr, mNot, mIf, mBl, mAndV, mOrV, mNotV, mAndT, mOrT, truM, List.isEmpty_cons, List.isEmpty_nil, addM, subM, mulM, modM, fdivM, powM, negM, ltM, leM, gtM, geM, cmpI, isM', isntM, isNon, getM, dgetM, slM, mSl, mP, mP0, lenM, listM, tupleM, minM, maxM, absM, intM, sortedM, mBm, lstOf, appM, popM, extM, idxM, remLM, sNil, sSeq, sSet, sExpr, sRet, sRetN, sIf, sBrk, sCnt, sPar, sPar3, sAsg, tgN, tgT, unp, stoM, dstoM, sSto, Wk.items, iSeq, iRng1, iRng2, iEnm, mCall, mMeth, sysOf, onSys, mMethK, mMake, mMakeK, makM, mYes, mListR1, mListR2, intBM, startV, seqOf, keyOf, List.getElem?_cons_zero, List.getElem?_cons_succ, List.getElem?_nil, List.set_cons_zero, List.set_cons_succ, List.map_cons, List.map_nil, List.length_cons, List.length_nil, List.cons_append, List.nil_append, List.append_nil, List.replicate, Nat.reduceAdd, Nat.reduceSub, Nat.reduceLeDiff, Nat.reduceLT, Nat.reduceEqDiff, Int.reduceLT, Int.reduceLE, Int.reduceNeg, Int.reducePow, ite_true, ite_false, if_true, if_false, reduceIte, Bool.false_eq_true, Bool.true_eq_false, Bool.not_true, Bool.not_false, and_self, and_true, true_and, Mu.put_same, Mu.new_same, Mu.put_nx, Mu.new_nx, Nat.zero_add, Nat.le_refl, Goes_nx, Gets_ok, Rets_nx, Rets_rt, CMul, CDiv, CPow, or_true, true_or, or_self, not_true, not_false_iff, mDm, dctV, popDM, getDM, mDisp, mPrs, kvOf, decide_false, decide_true, Int.reduceToNat, Nat.reducePow, Int.reduceAdd, Int.reduceSub, Int.reduceMul, e1, e2, hz]
  obtain ⟨μ3, hμ3⟩ : ∃ μ3, μ2.new (.sys (newSv 2 z)) = μ3 := ⟨_, rfl⟩
  have n3 : μ3.nx = μ2.nx + 1 := by rw [← hμ3]; rfl
  have k3 : Kee [] μ2 μ3 := by rw [← hμ3]; exact Kee.new
  have x3 : μ3.ob μ2.nx = some (.sys (newSv 2 z)) := by rw [← hμ3]; exact Mu.new_same _ _
  obtain ⟨x, hx⟩ : ∃ x, μ2.nx = x := ⟨_, rfl⟩
  have hbz : ((2 : Int) ≤ 2 ∧ (2 : Int) ≤ 6) = True := eq_true (by decide)
  have hbz2 : (3 ≤ z ∧ z ≤ 8) = True := eq_true (by omega)
  have A2 : m_law_2 (rg60 s b v1 v3 (some (.int z)) (some (.int lab)) v6 v7 v8 v9 v10 v11 v12 v13 v14) μ2 = .ok (.nx (rg60 s b v1 v3 (some (.int z)) (some (.int lab)) (some (.loc x)) v7 v8 v9 v10 v11 v12 v13 v14)) μ3 := by
    unfold m_law_2 rg60
    simp only [mChain, isiM, sDst2, neD0M, Wn.R.bind_ok, Wn.R.bind_no, Wn.R.cut_ok, Wn.R.cut_no, sThen_nx, sThen_rt, sThen_bk, sThen_ct, mC, mV, mNil, mCons, mTup, mLst, mOp, mUn, mFn, mMt, boolM, mTest, mAnd, mOr, mNot, mIf, mBl, mAndV, mOrV, mNotV, mAndT, mOrT, truM, List.isEmpty_cons, List.isEmpty_nil, addM, subM, mulM, modM, fdivM, powM, negM, ltM, leM, gtM, geM, cmpI, isM', isntM, isNon, getM, dgetM, slM, mSl, mP, mP0, lenM, listM, tupleM, minM, maxM, absM, intM, sortedM, mBm, lstOf, appM, popM, extM, idxM, remLM, sNil, sSeq, sSet, sExpr, sRet, sRetN, sIf, sBrk, sCnt, sPar, sPar3, sAsg, tgN, tgT, unp, stoM, dstoM, sSto, Wk.items, iSeq, iRng1, iRng2, iEnm, mCall, mMeth, sysOf, onSys, mMethK, mMake, mMakeK, makM, mYes, mListR1, mListR2, intBM, startV, seqOf, keyOf, List.getElem?_cons_zero, List.getElem?_cons_succ, List.getElem?_nil, List.set_cons_zero, List.set_cons_succ, List.map_cons, List.map_nil, List.length_cons, List.length_nil, List.cons_append, List.nil_append, List.append_nil, List.replicate, Nat.reduceAdd, Nat.reduceSub, Nat.reduceLeDiff, Nat.reduceLT, Nat.reduceEqDiff, Int.reduceLT, Int.reduceLE, Int.reduceNeg, Int.reducePow, ite_true, ite_false, if_true, if_false, reduceIte, Bool.false_eq_true, Bool.true_eq_false, Bool.not_true, Bool.not_false, and_self, and_true, true_and, Mu.put_same, Mu.new_same, Mu.put_nx, Mu.new_nx, Nat.zero_add, Nat.le_refl, Goes_nx, Gets_ok, Rets_nx, Rets_rt, CMul, CDiv, CPow, or_true, true_or, or_self, not_true, not_false_iff, mDm, dctV, popDM, getDM, mDisp, mPrs, kvOf, decide_false, decide_true, Int.reduceToNat, Nat.reducePow, Int.reduceAdd, Int.reduceSub, Int.reduceMul, hbz, hbz2, hμ3, hx]
  rw [hx] at x3
  have B1 := meth60 (ρ := rg60 s b v1 v3 (some (.int z)) (some (.int lab)) (some (.loc x)) v7 v8 v9 v10 v11 v12 v13 v14) x3 rfl (new60a (μ := μ3) (x := x) zz)
  have B2 := meth60 (ρ := rg60 s b v1 v3 (some (.int z)) (some (.int lab)) (some (.loc x)) v7 v8 v9 v10 v11 v12 v13 v14) (Mu.put_same _ _ _) rfl (new60b (μ := μ3.put x (.sys (s60a z))) (x := x) zz)
  rw [Mu.put_put] at B2
  have B3 := meth60 (ρ := rg60 s b v1 v3 (some (.int z)) (some (.int lab)) (some (.loc x)) v7 v8 v9 v10 v11 v12 v13 v14) (Mu.put_same _ _ _) rfl (new60c (μ := μ3.put x (.sys (s60b z))) (x := x) zz)
  rw [Mu.put_put] at B3
  have B4 := lst3 B1 B2 B3
  obtain ⟨μ4, hμ4⟩ : ∃ μ4, (μ3.put x (.sys (s60c z))).new (.lst [.int 0, .int 1, .int 2]) = μ4 := ⟨_, rfl⟩
  rw [hμ4] at B4
  have n4 : μ4.nx = μ3.nx + 1 := by rw [← hμ4]; rfl
  have k4 : Kee [x] μ3 μ4 := by rw [← hμ4]; exact (Kee.put (by simp)).newN
  have x4 : μ4.ob x = some (.sys (s60c z)) := by rw [← hμ4]; exact (Mu.new_ne _ _ (by show x ≠ μ3.nx; omega)).trans (Mu.put_same _ _ _)
  have o4 : μ4.ob μ3.nx = some (.lst [.int 0, .int 1, .int 2]) := by rw [← hμ4]; exact Mu.new_same _ _
  have A3 : m_law_3 (rg60 s b v1 v3 (some (.int z)) (some (.int lab)) (some (.loc x)) v7 v8 v9 v10 v11 v12 v13 v14) μ3 = .ok (.nx (rg60 s b v1 v3 (some (.int z)) (some (.int lab)) (some (.loc x)) (some (.loc μ3.nx)) v8 v9 v10 v11 v12 v13 v14)) μ4 := by
    unfold m_law_3 sSet
    rw [B4]
    rfl
  have KV := kv60 (rg60 s b v1 v3 (some (.int z)) (some (.int lab)) (some (.loc x)) (some (.loc μ3.nx)) v8 v9 v10 v11 v12 v13 v14) (μ4.new (.dct []))
  obtain ⟨kv, hkv⟩ : ∃ kv, (R60.map fun (q : Int × Int) => ((Sum.inl q.1 : Key), gs q.2)) = kv := ⟨_, rfl⟩
  have dkv : DR kv R60 gs := by rw [← hkv]; exact dr_map (Rw.nd (.inl rfl))
  rw [hkv] at KV
  obtain ⟨μ5, hμ5⟩ : ∃ μ5, ((μ4.new (.dct [])).new (.dct kv)).put μ4.nx (.dct [(.inl 0, .loc (μ4.nx + 1))]) = μ5 := ⟨_, rfl⟩
  have n5 : μ5.nx = μ4.nx + 2 := by rw [← hμ5]; rfl
  have k5 : Kee [] μ4 μ5 := by rw [← hμ5]; exact (Kee.new.newN).putN (.inl (Nat.le_refl _))
  have t5 : μ5.ob μ4.nx = some (.dct [(.inl 0, .loc (μ4.nx + 1))]) := by rw [← hμ5]; exact Mu.put_same _ _ _
  have a5 : μ5.ob (μ4.nx + 1) = some (.dct kv) := by rw [← hμ5]; exact (Mu.put_ne _ _ (by omega)).trans (Mu.new_same _ _)
  have A4 : m_law_4 (rg60 s b v1 v3 (some (.int z)) (some (.int lab)) (some (.loc x)) (some (.loc μ3.nx)) v8 v9 v10 v11 v12 v13 v14) μ4 = .ok (.nx (rg60 s b v1 v3 (some (.int z)) (some (.int lab)) (some (.loc x)) (some (.loc μ3.nx)) (some (.loc μ4.nx)) v9 v10 v11 v12 v13 v14)) μ5 := by
    unfold m_law_4 sSet
    rw [disp1 KV ((Mu.new_ne _ _ (by show μ4.nx ≠ μ4.nx + 1; omega)).trans (Mu.new_same _ _))]
    show Wn.R.ok _ (((μ4.new (.dct [])).new (.dct kv)).put μ4.nx (.dct [(.inl 0, .loc (μ4.nx + 1))])) = _
    rw [hμ5]
    rfl
  -- the registration
  have b5 : Bag μ5 b := ((b2.keep k3 (by simp)).keep k4 (by simp; omega)).keep k5 (by simp)
  have x5 := (k5.ob x (by omega) (by simp)).trans x4
  have o5 := (k5.ob μ3.nx (by omega) (by simp)).trans o4
  obtain ⟨μ6, hμ6⟩ : ∃ μ6, μ5.new (.lst [.str "level", .str "edge", .str "once"]) = μ6 := ⟨_, rfl⟩
  have n6 : μ6.nx = μ5.nx + 1 := by rw [← hμ6]; rfl
  have k6 : Kee [] μ5 μ6 := by rw [← hμ6]; exact Kee.new
  have o6 : μ6.ob μ5.nx = some (.lst [.str "level", .str "edge", .str "once"]) := by rw [← hμ6]; exact Mu.new_same _ _
  obtain ⟨ww, μ7, e7, hww, k7, b7, n7⟩ := of_eq (b5.keep k6 (by simp)) (l := μ5.nx) (seqOf_lst o6) (by omega) (by omega) (by decide) (by decide)
  obtain ⟨w, rfl, hw⟩ : ∃ w, ww = .str w ∧ w ∈ words := by
    simp only [List.mem_cons, List.not_mem_nil, or_false] at hww
    rcases hww with e | e | e
    · exact ⟨_, e, by unfold words; simp⟩
    · exact ⟨_, e, by unfold words; simp⟩
    · exact ⟨_, e, by unfold words; simp⟩
  have k57 : Kee [b] μ5 μ7 := (k6.mono (by simp)).trans k7
  have x7 := (k57.ob x (by omega) (by simp; omega)).trans x5
  have AD := add60 (x := x) (μ := μ7) (z := z) (lab := lab) (w := w) ⟨l0, by omega⟩ hw
  obtain ⟨μ8, hμ8⟩ : ∃ μ8, μ7.put x (.sys (sv60 z lab w [(0, R60)])) = μ8 := ⟨_, rfl⟩
  rw [hμ8] at AD
  have n8 : μ8.nx = μ7.nx := by rw [← hμ8]; rfl
  have k8 : Kee [x] μ7 μ8 := by rw [← hμ8]; exact Kee.put (by simp)
  have A5 : m_law_5 (rg60 s b v1 v3 (some (.int z)) (some (.int lab)) (some (.loc x)) (some (.loc μ3.nx)) (some (.loc μ4.nx)) v9 v10 v11 v12 v13 v14) μ5 = .ok (.nx (rg60 s b v1 v3 (some (.int z)) (some (.int lab)) (some (.loc x)) (some (.loc μ3.nx)) (some (.loc μ4.nx)) v9 v10 v11 v12 v13 v14)) μ8 := by
    have i0 : ∀ {a b c : Val}, atI [a, b, c] 0 = some a := rfl
    have i1 : ∀ {a b c : Val}, atI [a, b, c] 1 = some b := rfl
    unfold m_law_5 rg60
    simp only [mChain, isiM, sDst2, neD0M, Wn.R.bind_ok, Wn.R.bind_no, Wn.R.cut_ok, Wn.R.cut_no, sThen_nx, sThen_rt, sThen_bk, sThen_ct, mC, mV, mNil, mCons, mTup, mLst, mOp, mUn, mFn, mMt, boolM, mTest, mAnd, mOr, mNot, mIf, mBl, mAndV, mOrV, mNotV, mAndT, mOrT, truM, List.isEmpty_cons, List.isEmpty_nil, addM, subM, mulM, modM, fdivM, powM, negM, ltM, leM, gtM, geM, cmpI, isM', isntM, isNon, getM, dgetM, slM, mSl, mP, mP0, lenM, listM, tupleM, minM, maxM, absM, intM, sortedM, mBm, lstOf, appM, popM, extM, idxM, remLM, sNil, sSeq, sSet, sExpr, sRet, sRetN, sIf, sBrk, sCnt, sPar, sPar3, sAsg, tgN, tgT, unp, stoM, dstoM, sSto, Wk.items, iSeq, iRng1, iRng2, iEnm, mCall, mMeth, sysOf, onSys, mMethK, mMake, mMakeK, makM, mYes, mListR1, mListR2, intBM, startV, seqOf, keyOf, List.getElem?_cons_zero, List.getElem?_cons_succ, List.getElem?_nil, List.set_cons_zero, List.set_cons_succ, List.map_cons, List.map_nil, List.length_cons, List.length_nil, List.cons_append, List.nil_append, List.append_nil, List.replicate, Nat.reduceAdd, Nat.reduceSub, Nat.reduceLeDiff, Nat.reduceLT, Nat.reduceEqDiff, Int.reduceLT, Int.reduceLE, Int.reduceNeg, Int.reducePow, ite_true, ite_false, if_true, if_false, reduceIte, Bool.false_eq_true, Bool.true_eq_false, Bool.not_true, Bool.not_false, and_self, and_true, true_and, Mu.put_same, Mu.new_same, Mu.put_nx, Mu.new_nx, Nat.zero_add, Nat.le_refl, Goes_nx, Gets_ok, Rets_nx, Rets_rt, CMul, CDiv, CPow, or_true, true_or, or_self, not_true, not_false_iff, mDm, dctV, popDM, getDM, mDisp, mPrs, kvOf, decide_false, decide_true, Int.reduceToNat, Nat.reducePow, Int.reduceAdd, Int.reduceSub, Int.reduceMul, x5, o5, i0, i1, hμ6, e7, x7, AD]
  have k58 : Kee [b, x] μ5 μ8 := (k57.mono (by simp)).trans (k8.mono (by simp))
  have h8 : P60 μ8 b x μ4.nx (μ4.nx + 1) z lab w R60 :=
    ⟨b7.keep k8 (by simp; omega), by rw [← hμ8]; exact Mu.put_same _ _ _, (k58.ob _ (by omega) (by simp; omega)).trans t5, ⟨kv, (k58.ob _ (by omega) (by simp; omega)).trans a5, dkv⟩, ⟨by omega, by omega, by omega, by omega, by omega, by omega⟩, .inl rfl⟩
  obtain ⟨t', a', rows, w9, μ9, A8, h9, k9⟩ := eight (s := s) (v1 := v1) (v3 := v3) (v4 := some (.int z)) (v5 := some (.int lab)) (v7 := some (.loc μ3.nx)) (v9 := v9) (v10 := v10) (v11 := v11) (v12 := v12) (v13 := v13) (v14 := v14) h8 zz
  obtain ⟨d, μA, A9, hA, kA, d0, d1⟩ := nine (s := s) (v1 := v1) (v3 := v3) (v4 := some (.int z)) (v5 := some (.int lab)) (v7 := some (.loc μ3.nx)) (v9 := w9) (v10 := v10) (v11 := v11) (v12 := v12) (v13 := v13) (v14 := v14) h9 zz hw
  have seq3 : ∀ {A B C : MS} {ρ ρ' : Rho} {μ μ' : Mu}, sSeq A B ρ μ = .ok (.nx ρ') μ' → sSeq A (sSeq B C) ρ μ = C ρ' μ' := fun {A B C ρ ρ' μ μ'} h => by
    unfold sSeq at h ⊢
    cases e : A ρ μ with
    | no => rw [e] at h; cases h
    | er c fs μ1 => rw [e] at h; cases h
    | ok f μ1 =>
      rw [e] at h
      cases f with
      | nx ρ1 =>
        have h : B ρ1 μ1 = .ok (.nx ρ') μ' := h
        show sThen (B ρ1 μ1) C = _
        rw [h]
        rfl
      | bk ρ1 => cases h
      | ct ρ1 => cases h
      | rt v => cases h
  unfold m_law_16
  rw [seq_nx A1, seq_nx A2, seq_nx A3, seq_nx A4, seq_nx A5, seq_nx A8, seq3 A9]
  have kall : Kee [b] μ μA := by
    have q1 : Kee [b] μ μ3 := (k1.trans k2).trans (k3.mono (by simp))
    have q2 : Kee [b] μ μ5 := (q1.over k4 (by simp; omega)).trans (k5.mono (by simp))
    have q3 : Kee [b] μ μ9 := q2.over (k58.trans k9) (by simp; omega)
    exact q3.over kA (by simp; omega)
  obtain ⟨y9, μB, e9, m0, m1, kB, bB, nB⟩ := take_eq hA.bg (n := 9) (by decide) (by decide)
  have hB := hA.draw kB bB
  have hbb : (y9 ≤ 1000000 ∧ -1000000 ≤ y9) = True := eq_true (by omega)
  have hx9 : x < μ9.nx := by have := h9.lt; omega
  show Goes (m_law_15 (rw60 s b x μ9.nx z lab v1 v3 (some (.loc μ3.nx)) w9 v10 v11 v12 v13 v14) μA) _
  unfold m_law_15
  refine sFor_rng (lo := 0) (n := y9.toNat) (μ1 := μB) (by unfold rw60; simp only [mChain, isiM, sDst2, neD0M, Wn.R.bind_ok, Wn.R.bind_no, Wn.R.cut_ok, Wn.R.cut_no, sThen_nx, sThen_rt, sThen_bk, sThen_ct, mC, mV, mNil, mCons, mTup, mLst, mOp, mUn, mFn, mMt, boolM, mTest, mAnd, mOr, mNot, mIf, mBl, mAndV, mOrV, mNotV, mAndT, mOrT, truM, List.isEmpty_cons, List.isEmpty_nil, addM, subM, mulM, modM, fdivM, powM, negM, ltM, leM, gtM, geM, cmpI, isM', isntM, isNon, getM, dgetM, slM, mSl, mP, mP0, lenM, listM, tupleM, minM, maxM, absM, intM, sortedM, mBm, lstOf, appM, popM, extM, idxM, remLM, sNil, sSeq, sSet, sExpr, sRet, sRetN, sIf, sBrk, sCnt, sPar, sPar3, sAsg, tgN, tgT, unp, stoM, dstoM, sSto, Wk.items, iSeq, iRng1, iRng2, iEnm, mCall, mMeth, sysOf, onSys, mMethK, mMake, mMakeK, makM, mYes, mListR1, mListR2, intBM, startV, seqOf, keyOf, List.getElem?_cons_zero, List.getElem?_cons_succ, List.getElem?_nil, List.set_cons_zero, List.set_cons_succ, List.map_cons, List.map_nil, List.length_cons, List.length_nil, List.cons_append, List.nil_append, List.append_nil, List.replicate, Nat.reduceAdd, Nat.reduceSub, Nat.reduceLeDiff, Nat.reduceLT, Nat.reduceEqDiff, Int.reduceLT, Int.reduceLE, Int.reduceNeg, Int.reducePow, ite_true, ite_false, if_true, if_false, reduceIte, Bool.false_eq_true, Bool.true_eq_false, Bool.not_true, Bool.not_false, and_self, and_true, true_and, Mu.put_same, Mu.new_same, Mu.put_nx, Mu.new_nx, Nat.zero_add, Nat.le_refl, Goes_nx, Gets_ok, Rets_nx, Rets_rt, CMul, CDiv, CPow, or_true, true_or, or_self, not_true, not_false_iff, mDm, dctV, popDM, getDM, mDisp, mPrs, kvOf, decide_false, decide_true, Int.reduceToNat, Nat.reducePow, Int.reduceAdd, Int.reduceSub, Int.reduceMul, e9, hbb]) (fun q ρ μi => (∃ v10 v11 v12 v13 v14, ρ = rw60 s b x μ9.nx z lab v1 v3 (some (.loc μ3.nx)) w9 v10 v11 v12 v13 v14) ∧ Kee [b, x, d 0, d 1] μB μi ∧ ∃ v r, M60 μi b x μ9.nx d z lab v r) ⟨⟨_, _, _, _, _, rfl⟩, Kee.refl _ _, _, _, hB⟩ ?_ ?_
  · rintro q ρ μi hq ⟨⟨v10, v11, v12, v13, v14, rfl⟩, ki, v, r, hM⟩
    refine ⟨rw60 s b x μ9.nx z lab v1 v3 (some (.loc μ3.nx)) w9 (some (.int (0 + (q : Int)))) v11 v12 v13 v14, rfl, ?_⟩
    refine (turn60 (s := s) (v1 := v1) (v3 := v3) (v7 := some (.loc μ3.nx)) (v9 := w9) (v10 := some (.int (0 + (q : Int)))) (v11 := v11) (v12 := v12) (v13 := v13) (v14 := v14) hM).mono fun ρ' μ9 ⟨⟨w11, w12, w13, w14, e⟩, h9, k9⟩ => ?_
    subst e
    exact ⟨⟨_, _, _, _, _, rfl⟩, ki.trans k9, h9⟩
  · rintro ρ μi ⟨⟨v10, v11, v12, v13, v14, rfl⟩, ki, v, r, hM⟩
    refine ⟨⟨_, _, _, _, _, _, _, _, _, _, _, rfl⟩, (kall.trans kB).over ki ?_, hM.bg⟩
    intro n hn
    simp only [List.mem_cons, List.not_mem_nil, or_false] at hn
    rcases hn with rfl | rfl | rfl | rfl
    · exact .inr (by simp)
    · exact .inl (by omega)
    · exact .inl (by omega)
    · exact .inl (by omega)
end
theorem law_eq (μ : Mu) (s : Nat) (ns : List Int) (hl : ns.length ≤ 63) (hs : seqOf μ s = some (ns.map Val.int)) (sl : s < μ.nx) : Gets (d_law [.loc s] μ) fun v _ => v = .bl true := by
  refine Gets.run rfl ?_
  unfold m_law m_law_18
  have hs' := hs
  unfold seqOf at hs'
  unfold sSeq
  refine Rets.then ?_
  refine sFor_rng (lo := 0) (μ1 := μ) (n := (if (if (ns.length : Int) < 5 then (ns.length : Int) else 5) > 2 then (if (ns.length : Int) < 5 then (ns.length : Int) else 5) else 2).toNat) ?_ (fun _ ρ μ' => (∃ v1 v2 v3 v4 v5 v6 v7 v8 v9 v10 v11 v12 v13 v14, ρ = [some (.loc s), v1, v2, v3, v4, v5, v6, v7, v8, v9, v10, v11, v12, v13, v14]) ∧ Kee [] μ μ') ⟨⟨_, _, _, _, _, _, _, _, _, _, _, _, _, _, rfl⟩, Kee.refl _ _⟩ ?_ ?_
  · have hb : ((if (if (ns.length : Int) < 5 then (ns.length : Int) else 5) > 2 then (if (ns.length : Int) < 5 then (ns.length : Int) else 5) else 2) ≤ 1000000 ∧ -1000000 ≤ (if (if (ns.length : Int) < 5 then (ns.length : Int) else 5) > 2 then (if (ns.length : Int) < 5 then (ns.length : Int) else 5) else 2)) = True := eq_true (by constructor <;> (split <;> split <;> omega))
    simp only [mChain, isiM, sDst2, neD0M, Wn.R.bind_ok, Wn.R.bind_no, Wn.R.cut_ok, Wn.R.cut_no, sThen_nx, sThen_rt, sThen_bk, sThen_ct, mC, mV, mNil, mCons, mTup, mLst, mOp, mUn, mFn, mMt, boolM, mTest, mAnd, mOr, mNot, mIf, mBl, mAndV, mOrV, mNotV, mAndT, mOrT, truM, List.isEmpty_cons, List.isEmpty_nil, addM, subM, mulM, modM, fdivM, powM, negM, ltM, leM, gtM, geM, cmpI, isM', isntM, isNon, getM, dgetM, slM, mSl, mP, mP0, lenM, listM, tupleM, minM, maxM, absM, intM, sortedM, mBm, lstOf, appM, popM, extM, idxM, remLM, sNil, sSeq, sSet, sExpr, sRet, sRetN, sIf, sBrk, sCnt, sPar, sPar3, sAsg, tgN, tgT, unp, stoM, dstoM, sSto, Wk.items, iSeq, iRng1, iRng2, iEnm, mCall, mMeth, sysOf, onSys, mMethK, mMake, mMakeK, makM, mYes, mListR1, mListR2, intBM, startV, seqOf, keyOf, List.getElem?_cons_zero, List.getElem?_cons_succ, List.getElem?_nil, List.set_cons_zero, List.set_cons_succ, List.map_cons, List.map_nil, List.length_cons, List.length_nil, List.cons_append, List.nil_append, List.append_nil, List.replicate, Nat.reduceAdd, Nat.reduceSub, Nat.reduceLeDiff, Nat.reduceLT, Nat.reduceEqDiff, Int.reduceLT, Int.reduceLE, Int.reduceNeg, Int.reducePow, ite_true, ite_false, if_true, if_false, reduceIte, Bool.false_eq_true, Bool.true_eq_false, Bool.not_true, Bool.not_false, and_self, and_true, true_and, Mu.put_same, Mu.new_same, Mu.put_nx, Mu.new_nx, Nat.zero_add, Nat.le_refl, Goes_nx, Gets_ok, Rets_nx, Rets_rt, CMul, CDiv, CPow, or_true, true_or, or_self, not_true, not_false_iff, mDm, dctV, popDM, getDM, mDisp, mPrs, kvOf, decide_false, decide_true, Int.reduceToNat, Nat.reducePow, Int.reduceAdd, Int.reduceSub, Int.reduceMul, hs', List.length_map, hb]
  · rintro j ρ μ' _ ⟨⟨v1, v2, v3, v4, v5, v6, v7, v8, v9, v10, v11, v12, v13, v14, rfl⟩, kp⟩
    refine ⟨_, rfl, ?_⟩
    have hs2 : seqOf μ' s = some (ns.map Val.int) := (seqOf_keep kp sl (by simp)).trans hs
    obtain ⟨b, μ1, e1, k1, g1, b1⟩ := bag_eq hs2 (kp.lt sl) (i := 0 + (j : Int)) (by omega)
    have A : sSet 2 (mCall 2 d__law_bag (mCons (mV 0) (mCons (mV 1) (mNil)))) [some (.loc s), some (.int (0 + (j : Int))), v2, v3, v4, v5, v6, v7, v8, v9, v10, v11, v12, v13, v14] μ' = .ok (.nx (rg60 s b (some (.int (0 + (j : Int)))) v3 v4 v5 v6 v7 v8 v9 v10 v11 v12 v13 v14)) μ1 := by
      unfold rg60
      simp only [mChain, isiM, sDst2, neD0M, Wn.R.bind_ok, Wn.R.bind_no, Wn.R.cut_ok, Wn.R.cut_no, sThen_nx, sThen_rt, sThen_bk, sThen_ct, mC, mV, mNil, mCons, mTup, mLst, mOp, mUn, mFn, mMt, boolM, mTest, mAnd, mOr, mNot, mIf, mBl, mAndV, mOrV, mNotV, mAndT, mOrT, truM, List.isEmpty_cons, List.isEmpty_nil, addM, subM, mulM, modM, fdivM, powM, negM, ltM, leM, gtM, geM, cmpI, isM', isntM, isNon, getM, dgetM, slM, mSl, mP, mP0, lenM, listM, tupleM, minM, maxM, absM, intM, sortedM, mBm, lstOf, appM, popM, extM, idxM, remLM, sNil, sSeq, sSet, sExpr, sRet, sRetN, sIf, sBrk, sCnt, sPar, sPar3, sAsg, tgN, tgT, unp, stoM, dstoM, sSto, Wk.items, iSeq, iRng1, iRng2, iEnm, mCall, mMeth, sysOf, onSys, mMethK, mMake, mMakeK, makM, mYes, mListR1, mListR2, intBM, startV, seqOf, keyOf, List.getElem?_cons_zero, List.getElem?_cons_succ, List.getElem?_nil, List.set_cons_zero, List.set_cons_succ, List.map_cons, List.map_nil, List.length_cons, List.length_nil, List.cons_append, List.nil_append, List.append_nil, List.replicate, Nat.reduceAdd, Nat.reduceSub, Nat.reduceLeDiff, Nat.reduceLT, Nat.reduceEqDiff, Int.reduceLT, Int.reduceLE, Int.reduceNeg, Int.reducePow, ite_true, ite_false, if_true, if_false, reduceIte, Bool.false_eq_true, Bool.true_eq_false, Bool.not_true, Bool.not_false, and_self, and_true, true_and, Mu.put_same, Mu.new_same, Mu.put_nx, Mu.new_nx, Nat.zero_add, Nat.le_refl, Goes_nx, Gets_ok, Rets_nx, Rets_rt, CMul, CDiv, CPow, or_true, true_or, or_self, not_true, not_false_iff, mDm, dctV, popDM, getDM, mDisp, mPrs, kvOf, decide_false, decide_true, Int.reduceToNat, Nat.reducePow, Int.reduceAdd, Int.reduceSub, Int.reduceMul, e1]
    show Goes (m_law_17 [some (.loc s), some (.int (0 + (j : Int))), v2, v3, v4, v5, v6, v7, v8, v9, v10, v11, v12, v13, v14] μ') _
    unfold m_law_17
    rw [seq_nx A]
    refine sFor_rng (lo := 0) (n := 3) (μ1 := μ1) (by unfold rg60; simp only [mChain, isiM, sDst2, neD0M, Wn.R.bind_ok, Wn.R.bind_no, Wn.R.cut_ok, Wn.R.cut_no, sThen_nx, sThen_rt, sThen_bk, sThen_ct, mC, mV, mNil, mCons, mTup, mLst, mOp, mUn, mFn, mMt, boolM, mTest, mAnd, mOr, mNot, mIf, mBl, mAndV, mOrV, mNotV, mAndT, mOrT, truM, List.isEmpty_cons, List.isEmpty_nil, addM, subM, mulM, modM, fdivM, powM, negM, ltM, leM, gtM, geM, cmpI, isM', isntM, isNon, getM, dgetM, slM, mSl, mP, mP0, lenM, listM, tupleM, minM, maxM, absM, intM, sortedM, mBm, lstOf, appM, popM, extM, idxM, remLM, sNil, sSeq, sSet, sExpr, sRet, sRetN, sIf, sBrk, sCnt, sPar, sPar3, sAsg, tgN, tgT, unp, stoM, dstoM, sSto, Wk.items, iSeq, iRng1, iRng2, iEnm, mCall, mMeth, sysOf, onSys, mMethK, mMake, mMakeK, makM, mYes, mListR1, mListR2, intBM, startV, seqOf, keyOf, List.getElem?_cons_zero, List.getElem?_cons_succ, List.getElem?_nil, List.set_cons_zero, List.set_cons_succ, List.map_cons, List.map_nil, List.length_cons, List.length_nil, List.cons_append, List.nil_append, List.append_nil, List.replicate, Nat.reduceAdd, Nat.reduceSub, Nat.reduceLeDiff, Nat.reduceLT, Nat.reduceEqDiff, Int.reduceLT, Int.reduceLE, Int.reduceNeg, Int.reducePow, ite_true, ite_false, if_true, if_false, reduceIte, Bool.false_eq_true, Bool.true_eq_false, Bool.not_true, Bool.not_false, and_self, and_true, true_and, Mu.put_same, Mu.new_same, Mu.put_nx, Mu.new_nx, Nat.zero_add, Nat.le_refl, Goes_nx, Gets_ok, Rets_nx, Rets_rt, CMul, CDiv, CPow, or_true, true_or, or_self, not_true, not_false_iff, mDm, dctV, popDM, getDM, mDisp, mPrs, kvOf, decide_false, decide_true, Int.reduceToNat, Nat.reducePow, Int.reduceAdd, Int.reduceSub, Int.reduceMul]) (fun q ρ μi => (∃ v3 v4 v5 v6 v7 v8 v9 v10 v11 v12 v13 v14, ρ = rg60 s b (some (.int (0 + (j : Int)))) v3 v4 v5 v6 v7 v8 v9 v10 v11 v12 v13 v14) ∧ Kee [b] μ1 μi ∧ Bag μi b) ⟨⟨_, _, _, _, _, _, _, _, _, _, _, _, rfl⟩, Kee.refl _ _, g1⟩ ?_ ?_
    · rintro q ρ μi hq ⟨⟨v3, v4, v5, v6, v7, v8, v9, v10, v11, v12, v13, v14, rfl⟩, ki, bi⟩
      refine ⟨rg60 s b (some (.int (0 + (j : Int)))) (some (.int (0 + (q : Int)))) v4 v5 v6 v7 v8 v9 v10 v11 v12 v13 v14, rfl, ?_⟩
      refine (sixteen (s := s) (v1 := some (.int (0 + (j : Int)))) (v3 := some (.int (0 + (q : Int)))) bi).mono fun ρ' μ9 ⟨⟨w4, w5, w6, w7, w8, w9, w10, w11, w12, w13, w14, e⟩, k9, b9⟩ => ?_
      subst e
      exact ⟨⟨_, _, _, _, _, _, _, _, _, _, _, _, rfl⟩, ki.trans k9, b9⟩
    · rintro ρ μi ⟨⟨v3, v4, v5, v6, v7, v8, v9, v10, v11, v12, v13, v14, rfl⟩, ki, bi⟩
      exact ⟨⟨_, _, _, _, _, _, _, _, _, _, _, _, _, _, rfl⟩, kp.trans (k1.over ki (by simp; omega))⟩
  · rintro ρ μ' ⟨⟨v1, v2, v3, v4, v5, v6, v7, v8, v9, v10, v11, v12, v13, v14, rfl⟩, kp⟩
    exact rfl

/-! ### the end -/
theorem facts {w : World} {K : PySem.W.Frag} {mg : Str → Option Value} {fa : Addr} {h : Heap} (X : K.In h) (G : h.Ns mainGlobals mg) (hf : mg ("law" : Str) = some (.ref fa)) (c : SaysW fcL fwL tsL tfL w h K) : LawG PySem.Challenge.rw_waitnumbers_k60_registrations_left_behin w K CX0 12 63 "_law_script" mg fa h := by
  have T := tx_of X G c
  have e : fa = gA "law" K := by
    have z := hf.symm.trans T.g_law
    cases z
    rfl
  subst e
  have b := FunD.bindsA (ps := ["_law_script"]) T.f_law fun _ _ _ _ _ _ us hl => match us, hl with | [_], _ => rfl
  have tl : ∀ x ∈ lamL, ((x, none) : Defn) ∈ tfL := by decide
  have cm : ∀ p ∈ lamL.map (fun x => cT K (x, none)), ∃ q ∈ tfL, p = cT K q := fun p hp => by
    obtain ⟨x, hx, rfl⟩ := List.mem_map.mp hp
    exact ⟨_, tl x hx, rfl⟩
  refine ⟨_, lamL.map (fun x => cT K (x, none)), spM K 1 d_law, fun p hp => ?_, fun p hp => ?_, fun p hp => ?_, fun s u => b s [u] rfl, fun H a ns hl hH hS => law_sp law_eq H a ns hl (fun p hp => ?_) hS, fun base _ _ TB => okm_law T ⟩
  · obtain ⟨q, hq, rfl⟩ := cm p hp
    exact c.x.empty q hq
  · obtain ⟨q, hq, rfl⟩ := cm p hp
    exact c.x.out q hq
  · obtain ⟨q, hq, rfl⟩ := cm p hp
    exact PySem.W.codeHd_of_K X (c.x.hd q hq)
  · obtain ⟨x, hx, rfl⟩ := List.mem_map.mp hp
    exact ⟨#[], hH _ (List.mem_map.mpr ⟨x, hx, rfl⟩), True.intro, fun pos cv h => nomatch h⟩

end Wn

open PySem PySem.W PySem.Calls PyProof.Rows
theorem PySem.Challenge.cw_waitnumbers_k60_registrations_left_behin_holds : PySem.Challenge.rw_waitnumbers_k60_registrations_left_behin.Holds := by
  w_on; o_law
  refine HandSHeadRun.head_any (r := OpenLaw.row PySem.Challenge.rw_waitnumbers_k60_registrations_left_behin) (q := view (OpenLaw.row PySem.Challenge.rw_waitnumbers_k60_registrations_left_behin).prog [49]) (H := Wn.hk) (ob := Wn.obs) (M := 20000) (loose := Wn.loose) (d := HandSHeadRun.topDef (OpenLaw.row PySem.Challenge.rw_waitnumbers_k60_registrations_left_behin).prog 49) (kwd := []) Wn.obs_eq
    (by kernel_rfl) (fun s => by kernel_rfl) Wn.run (by kernel_rfl) (by kernel_rfl) (by kernel_rfl) (by rfl) (by first | assumption | decide +kernel) (by decide +kernel) ⟨rfl, rfl, rfl, rfl, rfl, by decide +kernel⟩ ?hw ?hc
  case hw => w_witness2
  case hc =>
    refine Wn.walk_g (l := PySem.Challenge.rw_waitnumbers_k60_registrations_left_behin) (n := 63) (k := 12) (x := "_law_script") (CX := fun _ => L2.CX0) rfl (by decide) (by kernel_rfl) ⟨rfl, by decide, by decide⟩ ?F (fun _ _ _ _ _ z => z)
    intro w mg fa h ⟨K, KX, c⟩ G hm
    have e : (HandSHeadRun.topDef (OpenLaw.row PySem.Challenge.rw_waitnumbers_k60_registrations_left_behin).prog 49).name = ("law" : PySem.Str) := by kernel_rfl
    exact ⟨K, KX, Wn.facts KX G (by rw [← e]; exact hm) c⟩
