import PyProof.Rows.All
import Wide.All
import OpenK.AllK
import Wide.FinOn
import HandS.ForMost
import HandS.ForExc
import HandS.ExcInit
import HandS.ExcField
import HandS.ExcIs
import HandS.TryMany
import KE.KExcInit
import HandS.Defaults
import HandS.Lambda
import HandS.EndTab
import HandS.HeadWalk
import PyProof.ReprRoads
import PyProof.CallFns
import HandS.Property
import HandS.ClsMeth
import HandS.Head0
import HandS.Head1
import HandS.Head2
import HandS.HeadEnd
import HandS.HeadHook1
import HandS.HeadHook2
import HandS.HeadHook3
import HandS.HeadHook4
import HandS.IsInst
import KE.KExcIs
import HandS.Head4
import HandS.Exc
import KE.KTryMore
import HandS.SortKw
import HandS.More
import KE.SortKeyHeap
import HandS.DictComp
import HandS.Walk
import HandS.CallSlots
import HandS.MakeKwOnly
import PyProof.ListRange
import HandS.WordsExc
import PyProof.InstSpecial
import HandS.Flow
import PyProof.Rows.MatchSeqLen
import PyProof.Seq
import HandS.Words
import HandS.Deep
import HandS.SortInts
import HandS.Style
import HandS.Iter
import HandS.Dict
import HandS.SetFor
import HandS.TryOnly
import HandS.Small
import HandS.List
import KE.DataAny
import HandS.ListItems
import KE.KDictList
import PyProof.DictWalks
import PyProof.DictValues
import PyProof.ConsumeWalk
import PyProof.Rows.StrInSeq
import HandS.DictTup
import HandS.NoneIn
import KE.KLam
import HandS.SortOrd
import HandS.FltList
import HandS.FltErr
import KE.DataMinKey
import HandS.TupSets
import KE.SortData
import HandS.Zip
import KE.GoesZip
import KE.GoesMore
import PyProof.DictMoreH
import KE.KDictWalk
import HandS.DictEq
import HandS.Conv
import HandS.ListEq
import KE.KEqDict
import HandS.MakeKw
import HandS.Star
import KE.KDictZip
import KE.KItemsList
import HandS.TupMul
import HandS.FStr
import PySem.Challenge.RW_waitnumbers_k25_texts_of_calls
set_option Elab.async false
set_option linter.all false
set_option maxRecDepth 100000
set_option maxHeartbeats 0
/-! the defs of the law that make lambdas -/
namespace Wn
open PySem
def lamL : List Str := []
/-- how many registrations a set may have -/
abbrev mostE : Nat := 0
end Wn
/-! errors of one's own over any built-in base, with fields that __init__ stores -/
namespace Wn
open PySem PySem.Spec PyProof.Rows L2
open Builtin Builtin.ObjectAttr

/-- what the written part says of an own error class over the built-in B -/
structure XC (K : PySem.W.Frag) (C : Addr) (B nw it : String) (bm : List Value) : Prop where
  bf : ExcBaseFacts B nw it bm
  sf : StoreFacts B bm "object.__setattr__" "object"
  ini : PySem.W.excInitIn K C bm nw = true
  ovr : PySem.W.excOver K C bm = true
  hdi : PySem.W.hasDictIn K C = true
  sa : PySem.W.findIn K (.ref C) "__setattr__" = some (some (.builtin "object.__setattr__"))
  exC : PySem.W.subIn K (.ref C) (.type "BaseException") = some true
  tyC : PySem.W.typeIn K (.ref C) = some (.type "type")
  kC : PySem.W.keepIn K (.ref C) = true

section
variable {prog : Program} {w : World} {A : Around} {R : Result → Shared → Prop} {hp : Heap} {g : Array GenState} {d : Drawn} {t : Nat} {os : OsState}
variable {K : PySem.W.Frag} {name : Str} {tk : Tok} {v : Value} {x C dx : Addr} {fv : Array Value} {B nw it : String} {bm : List Value}
end

section
variable {X : Cx} {pins : List (Addr × Obj)} {σ : L2.St} {H : Hp} {s : Shared} {a C dx : Addr} {f : Str} {y : V} {u : Value} {fs : List (Str × V)} {Q : Unit → Shared → Prop} {E : Value → Shared → Prop} {A : Around} {B nw it : String} {bm : List Value}
end

section
variable {X : Cx} {o e : Expr} {es : List Expr} {to te : TE} {ta : TA} {f : Str} {p p' p1 p2 pos : Pos}
variable {CX : CXT} {x : Str} {C fI : Addr} {k : Nat} {fd : FuncData} {ps : List Str} {sp : Sp} {B nw it : String} {bm : List Value}
end
end Wn
/-! repr of data, defs that are called where no repr runs, the law's end for such a def -/
namespace Wn
open PySem PySem.Spec PyProof.Rows L2 LamX

/-! ### repr -/
def rRepr (K : PySem.W.Frag) : List V → Hp → VK → Prop := fun xs H Q => ∃ (x : V) (d : PyData), xs = [x] ∧ Dp K H x d ∧ d.showable = true ∧ d.hasDict = false ∧ d.depth ≤ 100 ∧ d.shown.length ≤ sizeLine ∧ Q (.str d.shown) H
theorem call_repr {X : Cx} (hg : X.A.guards = some []) (hu : X.A.units + 200 < cLine) : CallR X (.builtin "repr") (rRepr X.K) := by
  intro pins s σ H xs us Q I r h
  obtain ⟨x, d, rfl, hd, hs, hh, hdep, hz, q⟩ := h
  obtain ⟨u, rfl, ru⟩ := vals1 r
  obtain ⟨as, hr⟩ := Dp.reads I d x u hd ru
  cases hd with
  | non =>
    cases ru
    exact PySem.P.repr_of_none ⟨.str _, H, I.tok _, ⟨_, rfl⟩, q⟩
  | bl b =>
    cases ru
    have q' : Q (.str (if b then "True" else "False")) H := by cases b <;> exact q
    exact PySem.P.repr_of_bool ⟨.str _, H, I.tok _, ⟨_, rfl⟩, q'⟩
  | int i =>
    obtain ⟨t, rfl⟩ := ru
    exact PySem.P.repr_of_int (of_decide_eq_true hs) ⟨.str _, H, I.tok _, ⟨_, rfl⟩, q⟩
  | str z =>
    obtain ⟨t, rfl⟩ := ru
    exact PySem.P.repr_of_str ⟨.str _, H, I.tok _, ⟨_, rfl⟩, q⟩ hz
  | lst _ _ =>
    cases ru
    exact repr_of_reads' hr hs (PyData.noDict_hsm hh) hg (by omega) (fun _ _ e => e) (fun h' v tk k => ⟨.str _, H, I.kept k, ⟨_, rfl⟩, q⟩) hz
  | tup _ _ =>
    cases ru
    exact repr_of_reads' hr hs (PyData.noDict_hsm hh) hg (by omega) (fun _ _ e => e) (fun h' v tk k => ⟨.str _, H, I.kept k, ⟨_, rfl⟩, q⟩) hz

/-! ### a def that is called where no repr runs -/
structure FnG (P : Program) (w : World) (K : PySem.W.Frag) (mg : Str → Option Value) (base : Heap) (CX : CXT) (k : Nat) (f : Addr) (fd : FuncData) (ps : List Str) (sp : Sp) : Prop where
  len : ∀ vs H Q E, sp vs H Q E → vs.length = ps.length
  run : ∀ (A : Around) (outer : List Env) (s : Shared) (H : Hp) (args : Args) (us : List Value) (vs : List V) (Q : VK) (E : XK), A.guards = some [] → Room k A → Env0 P w K mg base A outer s H →
    BindsTo s fd args (ps.zip us) → Vals vs us → sp vs H Q E → codeAny (model P w) A (.call (.ref f) args) (CR CX outer P w H s Q E) s
theorem FnG.of {P : Program} {w : World} {K : PySem.W.Frag} {mg : Str → Option Value} {base : Heap} {CX : CXT} {k : Nat} {f : Addr} {fd : FuncData} {ps : List Str} {sp : Sp} (F : FnOk P w K mg base CX k f fd ps sp) : FnG P w K mg base CX k f fd ps sp :=
  ⟨F.len, fun A outer s H args us vs Q E _ => F.run A outer s H args us vs Q E⟩
section
variable {P : Program} {w : World} {K : PySem.W.Frag} {mg : Str → Option Value} {base : Heap} {x qual : Str} {params : Arguments} {body : List Stmt} {scope : Scope} {dvs : List V} {kws : List (Str × V)} {f : Addr} {fd : FuncData}
theorem okG {CX : CXT} {N ps : List Str} {k : Nat} {sp : Sp} (F : FunD K x qual params body scope dvs kws f fd) (S : FnScope N ps scope) (len : ∀ vs H Q E, sp vs H Q E → vs.length = ps.length)
    (hbody : ∀ (cdv : Value) (A : Around) (outer : List Env) (s : Shared) (H : Hp) (vs : List V) (Q : VK) (E : XK), A.guards = some [] → Room k (A.deeper (envOfC qual scope s.heap.objs.size f cdv)) → sp vs H Q E →
      ∃ t, PSs (cxOf CX P w K mg base N qual scope f cdv A outer s H E) body t ∧ t { nx := fun _ H' => Q .non H', rt := Q } (L2.start N vs) H) : FnG P w K mg base CX (k + 1) f fd ps sp := by
  obtain ⟨oc, od, dV, kV, doc, pm, an, cdv, ct, osl, rfl, lk, hcd, _, _⟩ := F.ex
  refine ⟨len, fun A outer s H args us vs Q E hg hr e0 hb r hsp => ?_⟩
  exact run_ofS lk hcd S hr e0 hb r (len _ _ _ _ hsp) fun hr' => hbody cdv A outer s H vs Q E hg hr' hsp
end
section
variable {X : Cx} {CX : CXT} {k : Nat} {f C : Addr} {fd : FuncData} {ps : List Str} {sp : Sp} {dvs : List V} {ds : List Value} {E : XK} {x m : Str} {p pos apos : Pos} {e o : Expr} {es : List Expr} {ta : TE} {t : TA}
theorem run_g {pins : List (Addr × Obj)} {σ : L2.St} {H : Hp} {s : Shared} {Q : VK} {us : List Value} {vs : List V} (F : FnG X.prog X.w X.K X.mg X.base CX k f fd ps sp) (hgd : X.A.guards = some []) (hr : Room k X.A) (hb : Binds X.K fd ps ds) (hd : Vals dvs ds) (hx : Passes CX X E)
    (I : Inv X pins σ H s) (r : Vals vs us) (h : sp (vs ++ dvs) H Q E) : wpAny (model X.prog X.w) X.A (call (.ref f) us) (EP X pins σ Q) X.xe s := by
  have r2 : Vals (vs ++ dvs) (us ++ ds) := r.append hd
  have hl : (us ++ ds).length = ps.length := r2.length.symm.trans (F.len _ _ _ _ h)
  refine wpAny_call (codeAny_mono (F.run X.A X.stack s H ⟨us, []⟩ _ _ Q E hgd hr I.env0 (hb s us I.kIn hl) r2 h) fun r s' hq => ?_)
  cases r with
  | error z => exact hx pins σ H s z s' I hq
  | ok fl =>
    cases fl with
    | ret u => exact I.after hq
    | next => exact False.elim hq
    | brk => exact False.elim hq
    | cont => exact False.elim hq
/-- f(e, ..) of such a def -/
theorem pe_callG (F : FnG X.prog X.w X.K X.mg X.base CX k f fd ps sp) (hgd : X.A.guards = some []) (hr : Room k X.A) (hg : Gl X x) (hm : X.mg x = some (.ref f)) (hk : PySem.W.keepIn X.K (.ref f) = true) (hb : Binds X.K fd ps ds) (hd : Vals dvs ds) (hx : Passes CX X E)
    (ha : PA X (e :: es) t) (hdb : (x == ("__debug__" : Str)) = false := by decide) (he : starEach (e :: es) X.env = (false, eval e X.env) :: starEach es X.env := by rfl) (hpl : (backTo pos (starEach es X.env)).any (·.1) = false := by rfl) :
    PE X (.Call (.Name x p) (e :: es) [] pos) (tCall sp dvs E t) := by
  refine ⟨fun pins s σ H Q I h => wpAny_Call_Name_kw (ld_glob I hg hm ?_ hdb)⟩
  exact PySem.W.callWith_K (h₀ := X.base) I.ok.mod.kin hk (thn (ha.run pos pins s σ H _ I h) fun us s1 ⟨vs, H1, I1, r, q⟩ => ⟨I1.kIn, run_g F hgd hr hb hd hx I1 r q⟩) he hpl
end

/-! ### the law's end -/
section
variable {P : Program} {w : World} {K : PySem.W.Frag} {mg mb : Str → Option Value} {CX : CXT} {k : Nat} {fa a : Addr} {cs : List (Addr × Addr)} {fd : FuncData} {x : Str} {sp : Sp} {s1 : Shared} {vs : List Value} {ns : List Int}
/-- what is tracked at the law's entry: the tables, the script -/
def Ent (cs : List (Addr × Addr)) (a : Addr) (o : Obj) (ns : List Int) (H : Hp) : Prop :=
  ∀ b u, H b = some u → (b ∈ cs.map (·.2) ∧ u = .tbl #[]) ∨ (b = a ∧ u = .frz o (.lst (ns.map V.int)))
theorem law_core {H : Hp} (KX : K.In s1.heap) (hns : s1.heap.Ns mainGlobals mg) (hb : s1.heap.Ns builtinsNs mb) (hbb : ∀ x : Str, x ≠ "__name__" → mb x = bootBuiltins x) (hlim : s1.heap.NoLimit) (hg : s1.gens = #[])
    (hT : ∀ p ∈ cs, s1.heap.get? p.2 = some { cls := .none, data := .fields #[] }) (nT : ∀ p ∈ cs, K.lookup p.2 = none) (C : ∀ p ∈ cs, PySem.W.CodeHd s1.heap p.1 p.2)
    (hbm : ∃ (bm : Addr) (ob : Obj), mg "__builtins__" = some (.ref bm) ∧ bm ≠ builtinsNs ∧ s1.heap.get? bm = some ob ∧ ob.cls = .type "module" ∧ ob.dict = some builtinsNs ∧ ob.data = .plain)
    (ha : s1.heap.get? a = some { cls := .type "list", data := .seq vs.toArray }) (rv : Vals (ns.map V.int) vs) (hl : ns.length ≤ sizeLine) (hr : Room k callerA)
    (F : ∀ base : Heap, K.In base → base.Ns mainGlobals mg → (∀ p ∈ cs, TabB base mg p.1 p.2) → FnG P w K mg base CX k fa fd [x] sp) (hbind : ∀ (s : Shared) (u : Value), BindsTo s fd ⟨[u], []⟩ [(x, u)])
    (hH : ∀ p ∈ cs, H p.2 = some (.tbl #[])) (ent : Ent cs a { cls := .type "list", data := .seq vs.toArray } ns H) (hKa : H a ≠ none → K.lookup a = none)
    (hsp : sp [.ref a] H (fun v _ => v = .bl true) fun _ _ _ => False) (hCX : ∀ H e s', CX [] H s1 (fun _ _ _ => False) e s' → False) :
    codeAny (model P w) callerA (.call (.ref fa) ⟨[.ref a], []⟩) (fun r s' => r = .ok (.ret (.bool true)) ∧ OldK s1.heap s'.heap ∧ s'.os = s1.os ∧ AllBare s'.gens) s1 := by
  have tabAt : ∀ {b : Addr}, b ∈ cs.map (·.2) → s1.heap.get? b = some { cls := .none, data := .fields #[] } := fun {b} m => by
    obtain ⟨p, hp, rfl⟩ := List.mem_map.mp m
    exact hT p hp
  have hok : HOk P w H s1.heap := fun b u e => by
    rcases ent b u e with ⟨m, rfl⟩ | ⟨rfl, rfl⟩
    · exact tabAt m
    · exact ⟨ha, by rw [List.length_map]; exact hl, vs, _, rv, ha⟩
  -- what is neither a list nor an empty table is not tracked
  have unt : ∀ {b : Addr} {o : Obj}, s1.heap.get? b = some o → o.data ≠ .seq vs.toArray → o.data ≠ .fields #[] → H b = none := fun {b o} e n1 n2 => by
    cases q : H b with
    | none => rfl
    | some u =>
      rcases ent b u q with ⟨m, _⟩ | ⟨z, _⟩
      · rw [tabAt m] at e
        cases e
        exact (n2 rfl).elim
      · rw [z, ha] at e
        cases e
        exact (n1 rfl).elim
  have bs : ∀ {b : Addr} {o : Obj}, s1.heap.get? b = some o → o.data ≠ .seq vs.toArray → o.data ≠ .fields #[] → (hidT s1.heap H).get? b = some o := fun e n1 n2 => hidT_get e (unt e n1 n2)
  have nsB : ∀ {b : Addr} {m : Str → Option Value}, s1.heap.Ns b m → (hidT s1.heap H).Ns b m := fun {b m} ⟨o, es, ep, e, d, r⟩ => ⟨o, es, ep, bs e (by rw [d]; exact fun z => nomatch z) (by rw [d]; exact fun z => nomatch z), d, r⟩
  have hKb : K.In (hidT s1.heap H) := fun b o e => hidT_get (KX b o e) (by
    cases q : H b with
    | none => rfl
    | some u =>
      rcases ent b u q with ⟨m, _⟩ | ⟨z, _⟩
      · obtain ⟨p, hp, rfl⟩ := List.mem_map.mp m
        rw [nT p hp] at e
        cases e
      · subst z
        rw [hKa (by rw [q]; exact fun z => nomatch z)] at e
        cases e)
  have hM : L2.Mod K mg (hidT s1.heap H) := ⟨hKb, nsB hns, ⟨mb, nsB hb, hbb⟩, let ⟨mc, h1, h2⟩ := hlim; ⟨mc, nsB h1, h2⟩⟩
  have TB : ∀ p ∈ cs, TabB (hidT s1.heap H) mg p.1 p.2 := fun p hp => by
    refine ⟨?_, ?_, fun z => ?_⟩
    · obtain ⟨o, us, file, tf, flags, tg, inF, text, tt, e1, r1, r2, r3, rest⟩ := C p hp
      refine ⟨o, us, file, tf, flags, tg, inF, text, tt, bs e1 (by rw [r2]; exact fun z => nomatch z) (fun z => ?_), r1, r2, r3, rest⟩
      rw [r2] at z
      cases z
      simp at r3
    · obtain ⟨bm, ob, b1, b2, b3, b4, b5, b6⟩ := hbm
      refine ⟨bm, ob, b1, b2, fun q => ?_, fun q => ?_, bs b3 (by rw [b6]; exact fun z => nomatch z) (by rw [b6]; exact fun z => nomatch z), b4, b5, b6⟩
      · obtain ⟨o, es, ep, e, hd, _⟩ := hns
        rw [q, e] at b3
        cases b3
        rw [hd] at b6
        cases b6
      · rw [q, hT p hp] at b3
        cases b3
        cases b6
    · obtain ⟨o, es, ep, e, hd, _⟩ := hns
      rw [z, hT p hp] at e
      cases e
      cases hd
  have e0 : Env0 P w K mg (hidT s1.heap H) callerA [] s1 H := ⟨rfl, hM, fun b o e => of_hidT e, Nat.le_of_eq (hidT_size _ _), trivial, (fun b hb => absurd (show b ∈ ([] : List Addr) from hb) List.not_mem_nil), hok, .of_eq hg⟩
  refine codeAny_mono ((F _ hKb (nsB hns) TB).run callerA [] s1 H ⟨[.ref a], []⟩ [.ref a] [.ref a] _ _ rfl hr e0 (hbind s1 (.ref a)) (.cons rfl .nil) hsp) fun r s' h => ?_
  cases r with
  | error z => exact (hCX H z s' h).elim
  | ok fl =>
   cases fl with
   | next => exact False.elim h
   | brk => exact False.elim h
   | cont => exact False.elim h
   | ret u =>
    obtain ⟨v, H', os, bare, un, hok', r', q⟩ := h
    obtain rfl : v = .bl true := q
    obtain rfl : u = Value.bool true := r'
    have kept : ∀ b o, b ∉ cs.map (·.2) → s1.heap.get? b = some o → s'.heap.get? b = some o := fun b o nb e => by
      cases q : H b with
      | none => exact un.keep b o e q (fun z => absurd (show b ∈ ([] : List Addr) from z) List.not_mem_nil) List.not_mem_nil
      | some u =>
        rcases ent b u q with ⟨m, _⟩ | ⟨z, zu⟩
        · exact absurd m nb
        · subst zu
          have e1 := (hok b _ q).1
          have e2 := (hok' b _ (un.frzs b _ _ q)).1
          rw [e] at e1
          rw [e1]
          exact e2
    have tabN : ∀ b, b ∈ cs.map (·.2) → ∃ more : Array Value, s'.heap.get? b = some { cls := .none, data := .fields more } := fun b m => by
      obtain ⟨p, hp, rfl⟩ := List.mem_map.mp m
      obtain ⟨more, z⟩ := un.tbls p.2 #[] (hH p hp)
      exact ⟨_, hok' p.2 _ z⟩
    refine ⟨rfl, ⟨fun b o e => ?_, fun b o e => ?_⟩, os, bare⟩
    · by_cases m : b ∈ cs.map (·.2)
      · obtain ⟨more, hm⟩ := tabN b m
        obtain ⟨p, hp, rfl⟩ := List.mem_map.mp m
        rw [hT p hp] at e
        cases e
        exact .inr (.inl ⟨((C p hp).tab (hT p hp)).isCodeTable, rfl, #[], more, rfl, by rw [Array.empty_append]; exact hm⟩)
      · exact .inl (kept b o m e)
    · by_cases m : b ∈ cs.map (·.2)
      · obtain ⟨more, hm⟩ := tabN b m
        exact ⟨_, hm⟩
      · exact ⟨o, kept b o m e⟩
end
/-- what the law's def must keep, for the end below -/
def LawG (l : PySem.W.OpenLaw) (w : World) (K : PySem.W.Frag) (CX : CXT) (k n : Nat) (x : Str) (mg : Str → Option Value) (fa : Addr) (h : Heap) : Prop :=
  ∃ (fd : FuncData) (cs : List (Addr × Addr)) (sp : Sp), (∀ p ∈ cs, h.get? p.2 = some { cls := .none, data := .fields #[] }) ∧ (∀ p ∈ cs, K.lookup p.2 = none) ∧ (∀ p ∈ cs, PySem.W.CodeHd h p.1 p.2) ∧
    (∀ (s : Shared) (u : Value), BindsTo s fd ⟨[u], []⟩ [(x, u)]) ∧
    (∀ (H : Hp) (a : Addr) (ns : List Int), ns.length ≤ n → (∀ p ∈ cs, H p.2 = some (.tbl #[])) → SqL K H a (ns.map V.int) → sp [.ref a] H (fun v _ => v = .bl true) fun _ _ _ => False) ∧
    ∀ base : Heap, K.In base → base.Ns mainGlobals mg → (∀ p ∈ cs, TabB base mg p.1 p.2) → FnG l.prog w K mg base CX k fa fd [x] sp
theorem walk_g {l : PySem.W.OpenLaw} {n k : Nat} {q : Program} {loose : List Str} {XP : (Str → Option Value) → Heap → Prop} {YP : World → Heap → Prop} {d : DefRec} {CX : World → CXT} {x : Str}
    (hn : l.most = some n) (hn2 : n ≤ sizeLine) (hdf : d.params.defaults = []) (hr : Room k callerA)
    (F : ∀ (w : World) (mg : Str → Option Value) (fa : Addr) (h : Heap), YP w h → h.Ns mainGlobals mg → mg d.name = some (.ref fa) → ∃ K : PySem.W.Frag, K.In h ∧ LawG l w K (CX w) k n x mg fa h)
    (hCX : ∀ (w : World) (H : Hp) (s : Shared) (e : Value) (s' : Shared), CX w [] H s (fun _ _ _ => False) e s' → False) :
    PySem.W.WalkO q loose XP YP l.row.toRowW d [] (fun f vs => PySem.call f vs) := by
  refine Att.attach_callB hn hdf fun w s0 s1 mg mb fa o pm cd doc a vs ns G Y ho hd hcd hmg hobj hints hlen hbits hg => ?_
  obtain ⟨K, KX, fd, cs, sp, hT, nT, C, hb, hsp, hF⟩ := F w mg fa _ Y G.T.g hmg
  have rv := vals_ints hints
  have hl : ns.length ≤ sizeLine := Nat.le_trans hlen hn2
  have nm : ∀ {b : Addr}, b ∈ cs.map (·.2) → b ≠ a := fun {b} m z => by
    obtain ⟨p, hp, rfl⟩ := List.mem_map.mp m
    have e := hT p hp
    rw [z, hobj] at e
    cases e
  cases hk : K.lookup a with
  | some o =>
    have e := KX a o hk
    rw [hobj] at e
    cases e
    let HA : Hp := fun b => if b ∈ cs.map (·.2) then some (.tbl #[]) else none
    have hH : ∀ p ∈ cs, HA p.2 = some (.tbl #[]) := fun p hp => if_pos (List.mem_map.mpr ⟨p, hp, rfl⟩)
    refine law_core (H := HA) KX G.T.g G.T.b G.T.builtins G.T.nolimit hg hT nT C G.T.bmain hobj rv hl hr hF hb hH (fun b u z => ?_) (fun z => absurd (if_neg fun m => nm m rfl) z) (hsp HA a ns hlen hH (.inr ⟨_, vs.toArray, _, hk, rfl, rfl, rfl, by rw [List.size_toArray, hints.length]; exact hl, by simpa using rv⟩)) fun H e s' => hCX w H s1 e s'
    by_cases m : b ∈ cs.map (·.2)
    · exact .inl ⟨m, (Option.some.inj ((if_pos m).symm.trans z)).symm⟩
    · cases (if_neg m).symm.trans z
  | none =>
    let HB : Hp := fun b => if b = a then some (.frz { cls := .type "list", data := .seq vs.toArray } (.lst (ns.map V.int))) else if b ∈ cs.map (·.2) then some (.tbl #[]) else none
    have hH : ∀ p ∈ cs, HB p.2 = some (.tbl #[]) := fun p hp =>
      (if_neg (nm (List.mem_map.mpr ⟨p, hp, rfl⟩))).trans (if_pos (List.mem_map.mpr ⟨p, hp, rfl⟩))
    refine law_core (H := HB) KX G.T.g G.T.b G.T.builtins G.T.nolimit hg hT nT C G.T.bmain hobj rv hl hr hF hb hH (fun b u z => ?_) (fun _ => hk) (hsp HB a ns hlen hH (.inl (.inr ⟨{ cls := .type "list", data := .seq vs.toArray }, if_pos rfl⟩))) fun H e s' => hCX w H s1 e s'
    by_cases e : b = a
    · exact .inr ⟨e, (Option.some.inj ((if_pos e).symm.trans z)).symm⟩
    · have z2 := (if_neg e).symm.trans z
      by_cases m : b ∈ cs.map (·.2)
      · exact .inl ⟨m, (Option.some.inj ((if_pos m).symm.trans z2)).symm⟩
      · cases (if_neg m).symm.trans z2
end Wn
/-! the head's facts, by a Hook of one's own -/
namespace Wn
open PySem PySem.Spec PyProof.Rows L2 LamX He

/-! ### defs wherever they stand -/
def fnO (K : PySem.W.Frag) (a : Addr) : FnW := match K.lookup a with
  | some ⟨_, _, .func fd, _⟩ => some (fd.name, fd.qualname, fd.params, fd.body, fd.scope, fd.globals, fd.closure, fd.builtins)
  | _ => none
/-- one def, by a function that finds it -/
structure DefW where
  find : PySem.W.Frag → Addr
  name : Str
  qual : Str
  st : Stmt
  dfl : List Dv := []
  kwd : List (Str × Dv) := []
def DefW.val (d : DefW) : FnW := some (d.name, d.qual, defArgs d.st, .stmts (defBody d.st), defScope d.st, mainGlobals, [], builtinsNs)
def DefW.dvs (K : PySem.W.Frag) (d : DefW) : List V := d.dfl.map (Dv.v K)
def DefW.kws (K : PySem.W.Frag) (d : DefW) : List (Str × V) := d.kwd.map fun q => (q.1, q.2.v K)
def DefW.ok (K : PySem.W.Frag) (d : DefW) : Bool := PySem.W.keepIn K (.ref (d.find K)) && (match K.lookup (d.find K) with
  | some ⟨_, _, .func fd, _⟩ => PySem.W.codeIn K fd.code d.qual && (dflB K fd.defaults (d.dvs K) && kwdB K fd.kwdefaults (d.kws K))
  | _ => false)
/-- the function object at an address -/
def fdAt (K : PySem.W.Frag) (a : Addr) : FuncData := match K.lookup a with
  | some ⟨_, _, .func fd, _⟩ => fd
  | _ => PySem.W.fnOf "" "" ⟨[], [], none, [], [], none, []⟩ [] ⟨.function, [], false, false, []⟩ .none .none .none .none none .none .none
/-- the def of the statement st stands at a -/
abbrev FD (K : PySem.W.Frag) (x qual : Str) (st : Stmt) (dvs : List V) (kws : List (Str × V)) (a : Addr) : Prop := FunD K x qual (defArgs st) (defBody st) (defScope st) dvs kws a (fdAt K a)
theorem DefW.fd {K : PySem.W.Frag} {d : DefW} (e : fnO K (d.find K) = d.val) (c : d.ok K = true) : FD K d.name d.qual d.st (d.dvs K) (d.kws K) (d.find K) := by
  obtain ⟨kp, c2⟩ := ba c
  unfold fnO at e
  unfold FD fdAt
  cases q : K.lookup (d.find K) with
  | none =>
    rw [q] at c2
    cases c2
  | some o =>
    obtain ⟨oc, od, dt, osl⟩ := o
    rw [q] at c2 e
    cases dt with
    | func fd =>
      obtain ⟨n1, n2, n3, n4, n5, n6, n7, n8, n9, n10, n11, n12, n13, n14, n15⟩ := fd
      have e2 : (some (n1, n2, n3, n4, n5, n6, n7, n15) : FnW) = some (d.name, d.qual, defArgs d.st, .stmts (defBody d.st), defScope d.st, mainGlobals, [], builtinsNs) := e
      simp only [Option.some.injEq, Prod.mk.injEq] at e2
      obtain ⟨h1, h2, h3, h4, h5, h6, h7, h8⟩ := e2
      subst h1 h2 h3 h4 h5 h6 h7 h8
      obtain ⟨k1, k2⟩ := ba (show (PySem.W.codeIn K n13 d.qual && (dflB K n8 (d.dvs K) && kwdB K n9 (d.kws K))) = true from c2)
      obtain ⟨k3, k4⟩ := ba k2
      exact ⟨⟨oc, od, n8, n9, n10, n11, n12, n13, n14, osl, rfl, q, k1, dflB_ok k3, kwdB_ok k4⟩, kp⟩
    | _ => cases c2

/-! ### where things stand -/
/-- a method's def; a property's getter; a classmethod's def -/
def mA (C m : Str) (K : PySem.W.Frag) : Addr := ma K (ga K C) m
def kA (C m : Str) (K : PySem.W.Frag) : Addr := match PySem.W.recIn K (mA C m K) "classmethod" with
  | some (.ref g :: _) => g
  | _ => 0
def gA (x : Str) (K : PySem.W.Frag) : Addr := ga K x

/-! ### facts -/
inductive Fc where
  | fa (f : Fa)
  | prop (C f : Str)
  | exc (C : Str) (bm : List Value) (nw : String) (fs : List Str)
  | cval (C f : Str) (v : Dv)
  | isc (C T : Str) (b : Bool)
  | mro (C : Str)
  | ins (C : Str)
  | sub (C : Str) (T : String) (b : Bool)
  | tup (x : Str) (vs : List Dv)
  | bmt (C m : Str)
  | dkt (x key : Str) (vs : List Dv)
  | fnd (C m : Str) (id : String)
  | tne (x y : Str)
  | cmet (C m : Str)
/-- a tuple that stands in a dict of the top -/
def tupA (K : PySem.W.Frag) (a : Addr) (vs : List Dv) : Bool := match K.lookup a with
  | some ⟨.type c, _, .seq its _, _⟩ => decide (c = "tuple") && (decide (its.size ≤ sizeLine) && relAll (vs.map (Dv.v K)) its.toList)
  | _ => false
theorem tupA_ok {K : PySem.W.Frag} {a : Addr} {vs : List Dv} (h : tupA K a vs = true) (H : Hp) : SqT K H a (vs.map (Dv.v K)) := by
  unfold tupA at h
  cases q : K.lookup a with
  | none =>
    rw [q] at h
    cases h
  | some o =>
    obtain ⟨oc, od, dt, osl⟩ := o
    rw [q] at h
    cases oc with
    | type c =>
      cases dt with
      | seq its n =>
        obtain ⟨h1, h2⟩ := ba (show (decide (c = "tuple") && (decide (its.size ≤ sizeLine) && relAll (vs.map (Dv.v K)) its.toList)) = true from h)
        obtain ⟨h3, h4⟩ := ba h2
        exact .inr ⟨_, its, n, q, congrArg Value.type (of_decide_eq_true h1), rfl, of_decide_eq_true h3, relAll_ok h4⟩
      | _ => cases h
    | _ => cases dt <;> cases h
def dktB (K : PySem.W.Frag) (x key : Str) (vs : List Dv) : Bool := match PySem.W.nsIn K (ga K x) key with
  | some (some (.ref a)) => tupA K a vs
  | _ => false
theorem dktB_ok {K : PySem.W.Frag} {x key : Str} {vs : List Dv} (h : dktB K x key vs = true) : ∃ a, PySem.W.nsIn K (ga K x) key = some (some (.ref a)) ∧ ∀ H : Hp, SqT K H a (vs.map (Dv.v K)) := by
  unfold dktB at h
  split at h
  · rename_i a e
    exact ⟨a, e, fun H => tupA_ok h H⟩
  · cases h
def cmetB (K : PySem.W.Frag) (C : Addr) (m : Str) (p : Addr) : Bool := match PySem.W.findCls K (.ref C) (.type "type") m with
  | some (.get (.builtin i) (.ref p') .none (.ref c')) => decide (i = "classmethod.__get__") && (Nat.beq p' p && Nat.beq c' C)
  | _ => false
def crecB (K : PySem.W.Frag) (p : Addr) : Bool := match PySem.W.recIn K p "classmethod" with
  | some (.ref _ :: _) => true
  | _ => false
def clsRd (K : PySem.W.Frag) (C : Addr) : Bool := PySem.W.readsIn K C (.type "type") && eqO (PySem.W.specialIn K (.ref C) "__getattribute__") (some (some (.builtin "type.__getattribute__")))
def cvalB (K : PySem.W.Frag) (C : Addr) (f : Str) (v : V) : Bool := match PySem.W.findCls K (.ref C) (.type "type") f with
  | some (.val u) => relB v u
  | _ => false
/-- an instance of C is asked for its class in the plain way -/
def insB (K : PySem.W.Frag) (C : Addr) : Bool := eqO (PySem.W.findIn K (.ref C) "__class__") (some (some (.builtin "object.__class__")))
def Fc.ok (K : PySem.W.Frag) : Fc → Bool
  | .fa f => f.ok K
  | .prop C f => eqO (PySem.W.findIn K (.ref (ga K C)) f) (some (some (.ref (mA C f K)))) && (eqO (PySem.W.specialIn K (.ref (mA C f K)) "__get__") (some (some (.builtin "property.__get__"))) &&
      (decide (PySem.W.takesIn K (.ref (mA C f K)) = some true) && (match PySem.W.recIn K (mA C f K) "property" with
        | some (.ref _ :: _) => true
        | _ => false)))
  | .exc C bm nw fs => PySem.W.excInitIn K (ga K C) bm nw && (PySem.W.excOver K (ga K C) bm && (PySem.W.hasDictIn K (ga K C) && (eqO (PySem.W.findIn K (.ref (ga K C)) "__setattr__") (some (some (.builtin "object.__setattr__"))) &&
      (decide (PySem.W.subIn K (.ref (ga K C)) (.type "BaseException") = some true) && (decide (PySem.W.typeIn K (.ref (ga K C)) = some (.type "type")) && (PySem.W.keepIn K (.ref (ga K C)) &&
      (eqO (PySem.W.findIn K (.ref (ga K C)) "__init__") (some (some (.ref (mA C "__init__" K)))) && (decide (PySem.W.typeIn K (.ref (mA C "__init__" K)) = some (.type "function")) && (xfB K (ga K C) &&
      (fs.all (fun f => eqO (PySem.W.findIn K (.ref (ga K C)) f) (some none)) && eqO (PySem.W.findIn K (.ref (ga K C)) "__class__") (some (some (.builtin "object.__class__")))))))))))))
  | .cval C f v => clsRd K (ga K C) && cvalB K (ga K C) f (v.v K)
  | .isc C T b => decide (PySem.W.kitOne K (.ref (ga K C)) (.ref (ga K T)) = some b)
  | .mro C => decide (PySem.W.mroIn K (ga K C) (.type "object") = some true)
  | .ins C => insB K (ga K C)
  | .sub C T b => decide (PySem.W.kitOne K (.ref (ga K C)) (.type T) = some b)
  | .tup x vs => tupB K x vs
  | .dkt x key vs => dktB K x key vs
  | .fnd C m id => eqO (PySem.W.findIn K (.ref (ga K C)) m) (some (some (.builtin id)))
  | .cmet C m => clsRd K (ga K C) && (cmetB K (ga K C) m (mA C m K) && (crecB K (mA C m K) && PySem.W.fnIn K (kA C m K)))
  | .tne x y => !Nat.beq (cT K (x, none)).2 (cT K (y, none)).2
  | .bmt C m => eqO (PySem.W.specialIn K (.ref (mA C m K)) "__get__") (some (some (.builtin "function.__get__"))) && (decide (PySem.W.takesIn K (.ref (mA C m K)) = some false) && PySem.W.fnIn K (mA C m K))

/-! ### the Hook -/
/-- what is looked at: what the module's names reach in n steps, and the statics -/
def refsB (g : Addr → Option Obj) (a : Addr) : List Addr := match g a with
  | some o => refsD o
  | none => []
/-- what is new among them, told by the bits of m -/
def seeB : List Addr → Nat → List Addr → (Nat → List Addr → List Addr) → List Addr
  | [], m, l, k => k m l
  | a :: r, m, l, k => match Nat.beq (Nat.land (Nat.shiftRight m a) 1) 1 with
    | true => seeB r m l k
    | false => HandSHeadRun.frNat (Nat.lor m (Nat.shiftLeft 1 a)) fun m => seeB r m (a :: l) k
def growB (g : Addr → Option Obj) : Nat → Nat → List Addr → List Addr → List Addr
  | 0, _, _, all => all
  | n + 1, m, front, all => seeB (front.flatMap (refsB g)) m [] fun m new => growB g n m new (all ++ new)
def asW (g : Addr → Option Obj) (n : Nat) : List Addr := growB g n (Nat.lor (Nat.shiftLeft 1 mainGlobals) (Nat.shiftLeft 1 cStatics)) [mainGlobals] [mainGlobals, cStatics]
structure SaysW (fc : List Fc) (fw : List DefW) (ts : List Tab) (tf : List Defn) (w : World) (h : Heap) (K : PySem.W.Frag) : Prop where
  x : SaysX [] [] ts tf (fun K => fc.all fun f => f.ok K) w h K
  d : ∀ d ∈ fw, FD K d.name d.qual d.st (d.dvs K) (d.kws K) (d.find K)
theorem SaysW.fact {fc : List Fc} {fw : List DefW} {ts : List Tab} {tf : List Defn} {w : World} {h : Heap} {K : PySem.W.Frag} (c : SaysW fc fw ts tf w h K) (i : Nat) {f : Fc} (e : fc[i]? = some f := by rfl) : f.ok K = true :=
  List.all_eq_true.mp c.x.more f (List.mem_of_getElem? e)
theorem SaysW.def_ {fc : List Fc} {fw : List DefW} {ts : List Tab} {tf : List Defn} {w : World} {h : Heap} {K : PySem.W.Frag} (c : SaysW fc fw ts tf w h K) (i : Nat) {d : DefW} (e : fw[i]? = some d := by rfl) :
    FD K d.name d.qual d.st (d.dvs K) (d.kws K) (d.find K) := c.d d (List.mem_of_getElem? e)
abbrev AlW : Type := AlX × (Bool × List FnW)
def obsK (fc : List Fc) (fw : List DefW) (ts : List Tab) (tf : List Defn) (g : Addr → Option Obj) (K : PySem.W.Frag) : AlW :=
  ((obsT [] [] ts K, (fc.all fun f => f.ok K) && tabsB g tf K), (fw.all fun d => d.ok K, fw.map fun d => fnO K (d.find K)))
def obsW (n : Nat) (fc : List Fc) (fw : List DefW) (ts : List Tab) (tf : List Defn) (g : Addr → Option Obj) : AlW := obsK fc fw ts tf g (frT g (asW g n))
def valW (fw : List DefW) (ts : List Tab) (w : World) : AlW := (valX [] ts w, (true, fw.map DefW.val))
theorem saysW_of {n : Nat} {fc : List Fc} {fw : List DefW} {ts : List Tab} {tf : List Defn} {w : World} {h : Heap} (e : obsW n fc fw ts tf h.get? = valW fw ts w) : SaysW fc fw ts tf w h (frT h.get? (asW h.get? n)) := by
  unfold obsW at e
  generalize eK : frT h.get? (asW h.get? n) = K at e
  have out : ∀ {a : Addr} {o : Obj}, h.get? a = some o → emptyTab o = true → K.lookup a = none := fun {a o} q z => by rw [← eK]; exact frT_none q z
  have t1 : obsT [] [] ts K = valT [] ts w := congrArg (fun z : AlW => z.1.1) e
  have t2 : ((fc.all fun f => f.ok K) && tabsB h.get? tf K) = true := congrArg (fun z : AlW => z.1.2) e
  have e1 : (fw.all fun d => d.ok K) = true := congrArg (fun z : AlW => z.2.1) e
  have e2 : (fw.map fun d => fnO K (d.find K)) = fw.map DefW.val := congrArg (fun z : AlW => z.2.2) e
  obtain ⟨t3, t4⟩ := ba t2
  have key : ∀ p ∈ tf, PySem.W.codeHdIn K (cT K p).1 (cT K p).2 = true ∧ ∃ o, h.get? (cT K p).2 = some o ∧ emptyTab o = true := fun p hp => by
    obtain ⟨y1, y2⟩ := ba (List.all_eq_true.mp t4 p hp)
    refine ⟨y1, ?_⟩
    cases q : h.get? (cT K p).2 with
    | none =>
      rw [q] at y2
      cases y2
    | some o =>
      rw [q] at y2
      exact ⟨o, rfl, y2⟩
  refine ⟨⟨t1, t3, fun p hp => (key p hp).1, fun p hp => ?_, fun p hp => ?_⟩, fun d hd => ?_⟩
  · obtain ⟨_, o, q, z⟩ := key p hp
    exact out q z
  · obtain ⟨_, o, q, z⟩ := key p hp
    rw [q, emptyTab_eq z]
  · obtain ⟨i, hi, ei⟩ := List.mem_iff_getElem.mp hd
    have h3 : fw[i]? = some d := by rw [List.getElem?_eq_getElem hi, ei]
    have e3 : (fw.map fun d => fnO K (d.find K))[i]? = (fw.map DefW.val)[i]? := by rw [e2]
    rw [List.getElem?_map, List.getElem?_map, h3] at e3
    exact DefW.fd (Option.some.inj e3) (List.all_eq_true.mp e1 d hd)
def hookW (n : Nat) (fc : List Fc) (fw : List DefW) (ts : List Tab) (tf : List Defn) : PySem.W.Hook where
  α := AlW
  obs := fun s => obsW n fc fw ts tf s.heap.get?
  val := fun w => valW fw ts w
  says := fun w h => ∃ K : PySem.W.Frag, K.In h ∧ SaysW fc fw ts tf w h K
  of := fun _ _ e => ⟨_, frT_in, saysW_of e⟩
  keeps := fun _ _ _ ⟨K, hK, c⟩ k => ⟨K, PySem.W.Frag.In.keeps hK k, ⟨⟨c.x.t, c.x.more, c.x.hd, c.x.out, fun p hp => k _ _ (c.x.empty p hp)⟩, c.d⟩⟩
theorem obsW_eq {n : Nat} {fc : List Fc} {fw : List DefW} {ts : List Tab} {tf : List Defn} {g : Addr → Option Obj} {s : Shared} (h : ∀ a, g a = s.heap.get? a) : obsW n fc fw ts tf g = (hookW n fc fw ts tf).obs s := by
  have e : g = s.heap.get? := funext h
  rw [e] <;> rfl

/-! ### what the facts say -/
section
variable {K : PySem.W.Frag} {h : Heap} {mg : Str → Option Value}
/-- an own error class: what is raised, what its fields need -/
structure XT (K : PySem.W.Frag) (C : Str) (B nw it : String) (bm : List Value) (fs : List Str) : Prop where
  xc : XC K (ga K C) B nw it bm
  ini : PySem.W.findIn K (.ref (ga K C)) "__init__" = some (some (.ref (mA C "__init__" K)))
  fn : PySem.W.typeIn K (.ref (mA C "__init__" K)) = some (.type "function")
  xf : XfC K (ga K C)
  no : ∀ f ∈ fs, PySem.W.findIn K (.ref (ga K C)) f = some none
  cl : PySem.W.findIn K (.ref (ga K C)) "__class__" = some (some (.builtin "object.__class__"))
theorem exc_okW {C : Str} {B nw it : String} {bm : List Value} {fs : List Str} (bf : ExcBaseFacts B nw it bm) (sf : StoreFacts B bm "object.__setattr__" "object") (c : (Fc.exc C bm nw fs).ok K = true) : XT K C B nw it bm fs := by
  obtain ⟨h1, c⟩ := ba c
  obtain ⟨h2, c⟩ := ba c
  obtain ⟨h3, c⟩ := ba c
  obtain ⟨h4, c⟩ := ba c
  obtain ⟨h5, c⟩ := ba c
  obtain ⟨h6, c⟩ := ba c
  obtain ⟨h7, c⟩ := ba c
  obtain ⟨h8, c⟩ := ba c
  obtain ⟨h9, c⟩ := ba c
  obtain ⟨h10, c⟩ := ba c
  obtain ⟨h11, h12⟩ := ba c
  exact ⟨⟨bf, sf, h1, h2, h3, eqO_ok h4, of_decide_eq_true h5, of_decide_eq_true h6, h7⟩, eqO_ok h8, of_decide_eq_true h9, xfB_ok h10, fun f hf => eqO_ok (List.all_eq_true.mp h11 f hf), eqO_ok h12⟩
end
end Wn
/-! isinstance of a caught error that has a dict of its own -/
namespace Wn
open PySem PySem.Spec PyProof.Rows L2 LamX He
end Wn
/-! the head's run in parts: each part is a theorem of its own, so that the kernel lets go of one ahead of the next -/
namespace Wn
open PySem PySem.Spec PyProof.Rows L2 LamX He
noncomputable section
/-- the state behind the top -/
def runA (r : PySem.W.OpenRow) (M : Nat) (w : World) (os : OsState) : Option PySem.W.SharedT := HandSHeadRun.endF (HandSHeadRun.stepQ (HandSHeadRun.denQ HandSHeadRun.tabQ) r.prog w) M r.prog w os
def RunP (r : PySem.W.OpenRow) (M : Nat) {α : Type} (f : World → PySem.W.SharedT → α) (v : World → α) : Prop := ∀ (w : World) (os : OsState), (runA r M w os).map (f w) = some (v w)
def lookP (r : PySem.W.OpenRow) (w : World) (s : PySem.W.SharedT) : Bool := HandSHeadRun.looksF r.prog (PySem.W.boot_heap w.params) s.abs
def seenP (r : PySem.W.OpenRow) (q : Program) (loose : List PySem.Str) (_ : World) (s : PySem.W.SharedT) := HandSHeadRun.seenQ q loose (PySem.importedModules r.prog.main.body) (fun s => PySem.W.xlAt q [] s && PySem.W.recOk r.toRowW.records s) s.abs
section
variable {r : PySem.W.OpenRow} {M : Nat} {α β : Type} {f : World → PySem.W.SharedT → α} {v : World → α} {g : World → PySem.W.SharedT → β} {u : World → β}
theorem RunP.pair (h1 : RunP r M f v) (h2 : RunP r M g u) : RunP r M (fun w s => (f w s, g w s)) (fun w => (v w, u w)) := fun w os => by
  have a := h1 w os
  have b := h2 w os
  cases e : runA r M w os with
  | none => rw [e] at a; cases a
  | some s =>
    rw [e] at a b
    have a := Option.some.inj a
    have b := Option.some.inj b
    exact congrArg some (Prod.ext a b)
theorem RunP.map (h : RunP r M f v) (k : World → α → β) : RunP r M (fun w s => k w (f w s)) (fun w => k w (v w)) := fun w os => by
  have a := h w os
  cases e : runA r M w os with
  | none => rw [e] at a; cases a
  | some s =>
    rw [e] at a
    exact congrArg some (congrArg (k w) (Option.some.inj a))
theorem RunP.and {f g : World → PySem.W.SharedT → Bool} (h1 : RunP r M f fun _ => true) (h2 : RunP r M g fun _ => true) : RunP r M (fun w s => f w s && g w s) fun _ => true := (h1.pair h2).map fun _ p => p.1 && p.2
theorem RunP.congr {f' : World → PySem.W.SharedT → α} {v' : World → α} (h : RunP r M f v) (e : ∀ w s, f w s = f' w s) (e2 : ∀ w, v w = v' w) : RunP r M f' v' := by
  have : f = f' := funext fun w => funext fun s => e w s
  have z : v = v' := funext e2
  rw [← this, ← z]
  exact h
theorem run_of {q : Program} {H : PySem.W.Hook} {ob : PySem.W.SharedT → H.α} {loose : List PySem.Str} (h1 : RunP r M (lookP r) fun _ => true) (h2 : RunP r M (seenP r q loose) fun _ => PySem.W.openGood q loose) (h3 : RunP r M (fun _ s => ob s) H.val) (w : World) : HandSHeadRun.RunEq r q H ob M loose w := fun os => (h1.pair (h2.pair h3)) w os
end
/-- what the top asks of the world ('special-get-raises', at a dict display of texts): both answers, one after the other -/
abbrev askRow : String := "special-get-raises"
def RunB (r : PySem.W.OpenRow) (M : Nat) (b : Bool) {α : Type} (f : World → PySem.W.SharedT → α) (v : World → α) : Prop := ∀ (w : World) (os : OsState), (runA r M (w.withFollow askRow b) os).map (f (w.withFollow askRow b)) = some (v (w.withFollow askRow b))
theorem RunB.both {r : PySem.W.OpenRow} {M : Nat} {α : Type} {f : World → PySem.W.SharedT → α} {v : World → α} (h0 : RunB r M false f v) (h1 : RunB r M true f v) : RunP r M f v := fun w os => by
  have e := World.withFollow_self w askRow
  cases hb : w.params.followText askRow <;> rw [hb] at e
  · have := h0 w os
    rw [e] at this
    exact this
  · have := h1 w os
    rw [e] at this
    exact this
theorem RunP.fst {r : PySem.W.OpenRow} {M : Nat} {α β : Type} {f : World → PySem.W.SharedT → α} {v : World → α} {g : World → PySem.W.SharedT → β} {u : World → β} (h : RunP r M (fun w s => (f w s, g w s)) (fun w => (v w, u w))) : RunP r M f v := h.map fun _ p => p.1
/-! the Hook in parts -/
/-- what is known of the heap -/
def obK (n : Nat) (s : PySem.W.SharedT) : PySem.W.Frag := frT (HandSHeadRun.getT s) (asW (HandSHeadRun.getT s) n)
def fcP (n : Nat) (fc : List Fc) (_ : World) (s : PySem.W.SharedT) : Bool := fc.all fun f => f.ok (obK n s)
def fwP (n : Nat) (fw : List DefW) (_ : World) (s : PySem.W.SharedT) : Bool × List FnW := (fw.all fun d => d.ok (obK n s), fw.map fun d => fnO (obK n s) (d.find (obK n s)))
def tbP (n : Nat) (ts : List Tab) (tf : List Defn) (_ : World) (s : PySem.W.SharedT) := (obsT [] [] ts (obK n s), tabsB (HandSHeadRun.getT s) tf (obK n s))
section
variable {r : PySem.W.OpenRow} {M n : Nat} {fc : List Fc} {fw : List DefW} {ts : List Tab} {tf : List Defn}
theorem ob_of (h1 : RunP r M (tbP n ts tf) fun w => (valT [] ts w, true)) (h2 : RunP r M (fcP n fc) fun _ => true) (h3 : RunP r M (fwP n fw) fun _ => (true, fw.map DefW.val)) : RunP r M (fun _ s => obsW n fc fw ts tf (HandSHeadRun.getT s)) (hookW n fc fw ts tf).val :=
  ((h1.pair (h2.pair h3)).map fun _ p => ((p.1.1, p.2.1 && p.1.2), p.2.2)).congr (fun _ _ => rfl) fun _ => rfl
end
end
end Wn
/-! several clauses 'except x as n' of one name -/
namespace Wn
open PySem PySem.Spec PyProof.Rows L2 LamX He
section
variable {X : Cx} {body : List Stmt} {h₀ : ExceptHandler} {hds : List ExceptHandler} {l : List Clause} {pos : Pos} {tb : WX → TS} {Wout : WX} {i : Nat} {n : Str}
end
end Wn
/-! clauses 'except (x, y, ..) as n' -/
namespace Wn
open PySem PySem.Spec PyProof.Rows L2 LamX He
section
variable {M : Model} {A : Around} {E : Value → Shared → Prop} {s : Shared}
end
section
variable {M : Model} {K : PySem.W.Frag}
end

/-! ### the clauses -/
section
variable {X : Cx} {M : Model}
end
section
variable {X : Cx} {body : List Stmt} {h₀ : ExceptHandler} {hds : List ExceptHandler} {l : List ClauseT} {pos : Pos} {tb : WX → TS} {Wout : WX} {i : Nat} {n : Str}
end
end Wn
/-! raise C(e) where C's __init__ stores a caption and one field -/
namespace Wn
open PySem PySem.Spec PyProof.Rows L2 LamX He

section
variable {X : Cx} {e : Expr} {te : TE} {f cap : Str} {p pos : Pos} {CX : CXT} {x C : Str} {k : Nat} {fd : FuncData} {B nw it : String} {bm : List Value} {fs : List Str}
end
end Wn
/-! sorted(xs, key=f): f is called as a def of the text is -/
namespace Wn
open PySem PySem.Spec PyProof.Rows L2 LamX PySem.W

theorem Same.sqt {K : PySem.W.Frag} {H H' : Hp} {a : Addr} {xs : List V} (e : Same H H') (h : SqT K H a xs) : SqT K H' a xs := by
  rcases h with (h | ⟨o, h⟩) | h
  · exact .inl (.inl (e _ _ h))
  · exact .inl (.inr ⟨o, e _ _ h⟩)
  · exact .inr h
mutual
theorem Dp.same {K : PySem.W.Frag} {H H' : Hp} (e : Same H H') : ∀ (d : PyData) (v : V), Dp K H v d → Dp K H' v d
  | .none, _, h => by cases h; exact .non
  | .bool b, _, h => by cases h; exact .bl b
  | .int i, _, h => by cases h; exact .int i
  | .str x, _, h => by cases h; exact .str x
  | .list ds, _, h => by cases h with | lst hs ha => exact .lst (e.seq hs) (DpAll.same e ds _ ha)
  | .tuple ds, _, h => by cases h with | tup hs ha => exact .tup (Same.sqt e hs) (DpAll.same e ds _ ha)
  | .dict kvs, _, h => by cases h
theorem DpAll.same {K : PySem.W.Frag} {H H' : Hp} (e : Same H H') : ∀ (ds : List PyData) (vs : List V), DpAll K H vs ds → DpAll K H' vs ds
  | [], _, h => by cases h; exact .nil
  | d :: ds, _, h => by cases h with | cons h1 h2 => exact .cons (Dp.same e d _ h1) (DpAll.same e ds _ h2)
end

theorem dpLen {K : PySem.W.Frag} {H : Hp} : ∀ {vs : List V} {ds : List PyData}, DpAll K H vs ds → vs.length = ds.length
  | _, _, .nil => rfl
  | _, _, .cons _ t => congrArg Nat.succ (dpLen t)
theorem dpApp {K : PySem.W.Frag} {H : Hp} : ∀ {vs ws : List V} {ds es : List PyData}, DpAll K H vs ds → DpAll K H ws es → DpAll K H (vs ++ ws) (ds ++ es)
  | _, _, _, _, .nil, h => h
  | _, _, _, _, .cons a t, h => .cons a (dpApp t h)
section
variable {X : Cx} {pins : List (Addr × Obj)} {σ : L2.St} {H : Hp} {s : Shared}
variable {Q : VK} {l q : Addr} {xs : List V} {kd : V → PyData}
end
end Wn
/-! systems: what stands in the heap, and its plain picture -/
namespace Wn
open PySem PySem.Spec PyProof.Rows L2 LamX He

/-! ### lists of pairs with whole numbers as keys -/
section
variable {α β : Type}
def lk : List (Int × α) → Int → Option α
  | [], _ => none
  | r :: l, n => if r.1 = n then some r.2 else lk l n
def pt : List (Int × α) → Int → α → List (Int × α)
  | [], n, x => [(n, x)]
  | r :: l, n, x => if r.1 = n then (n, x) :: l else r :: pt l n x
def kv (g : α → V) (l : List (Int × α)) : List (Key × V) := l.map fun r => (Sum.inl r.1, g r.2)
theorem lk_pos {r : Int × α} {l : List (Int × α)} {n : Int} (e : r.1 = n) : lk (r :: l) n = some r.2 := if_pos e
theorem lk_neg {r : Int × α} {l : List (Int × α)} {n : Int} (e : ¬ r.1 = n) : lk (r :: l) n = lk l n := if_neg e
theorem val_kv (g : α → V) (n : Int) : ∀ l : List (Int × α), valV (kv g l) (Sum.inl n : Key) = (lk l n).map g
  | [] => rfl
  | r :: l => by
    show valV (((Sum.inl r.1 : Key), g r.2) :: kv g l) (Sum.inl n) = _
    by_cases e : r.1 = n
    · rw [valV_pos (show (Sum.inl r.1 : Key) = Sum.inl n by rw [e]), lk_pos e]
      rfl
    · rw [valV_neg (fun z => e (Sum.inl.inj z)), lk_neg e, val_kv g n l]
theorem lk_mem {n : Int} {x : α} : ∀ {l : List (Int × α)}, lk l n = some x → (n, x) ∈ l
  | [], h => nomatch h
  | r :: l, h => by
    by_cases e : r.1 = n
    · rw [lk_pos e] at h
      cases h
      subst e
      exact List.mem_cons_self
    · rw [lk_neg e] at h
      exact List.mem_cons_of_mem _ (lk_mem h)
theorem lk_of_mem {n : Int} {x : α} : ∀ {l : List (Int × α)}, (l.map (·.1)).Nodup → (n, x) ∈ l → lk l n = some x
  | [], _, h => nomatch h
  | r :: l, nd, h => by
    obtain ⟨h1, h2⟩ := List.nodup_cons.mp (show (r.1 :: l.map (·.1)).Nodup from nd)
    rcases List.mem_cons.mp h with z | z
    · subst z
      exact lk_pos rfl
    · rw [lk_neg fun e => h1 (e ▸ List.mem_map.mpr ⟨_, z, rfl⟩)]
      exact lk_of_mem h2 z
theorem lk_app {n : Int} {l m : List (Int × α)} : lk (l ++ m) n = (lk l n).or (lk m n) := by
  induction l with
  | nil => rfl
  | cons r l ih =>
    show lk (r :: (l ++ m)) n = _
    by_cases e : r.1 = n
    · rw [lk_pos e, lk_pos e]
      rfl
    · rw [lk_neg e, lk_neg e, ih]
end

/-! ### what stands in the heap -/
structure En where
  ad : Addr
  dx : Addr
  num : Int
  ser : Int
  lab : Int
  wrd : Str
  arm : Bool
inductive Tg where
  | src (dx : Addr) (u : Int) (f : Bool)
  | set (dx L R : Addr) (es : List En) (row : List Int)
structure Th where
  ad : Addr
  tg : Tg
structure Tb where
  ad : Addr
  rows : List (Int × Int)
structure Sy where
  p : Addr
  dx : Addr
  T : Addr
  G : Addr
  P : Int
  N : Int
  made : Int
  tabs : List (Int × Tb)
  ths : List (Int × Th)
def sysF (P N : Int) (T G : Addr) (m : Int) : List (Str × V) := [("process_limit", .int P), ("number_limit", .int N), ("tables", .ref T), ("things", .ref G), ("serials_made", .int m)]
def srcF (u : Int) (f : Bool) : List (Str × V) := [("unread", .int u), ("finished", .bl f)]
def setF (L R : Addr) : List (Str × V) := [("entries", .ref L), ("row", .ref R)]
def entF (e : En) : List (Str × V) := [("number", .int e.num), ("serial", .int e.ser), ("label", .int e.lab), ("word", .str e.wrd), ("armed", .bl e.arm)]
def tbV (t : Tb) : V := .ref t.ad
def thV (t : Th) : V := .ref t.ad
def TgAt (K : PySem.W.Frag) (H : Hp) (a : Addr) : Tg → Prop
  | .src dx u f => H a = some (.ins (ga K "Source") dx (srcF u f))
  | .set dx L R es row => H a = some (.ins (ga K "WaitSet") dx (setF L R)) ∧ H L = some (.lst (es.map fun e => .ref e.ad)) ∧ H R = some (.lst (row.map V.int)) ∧ ∀ e ∈ es, H e.ad = some (.ins (ga K "Entry") e.dx (entF e))
/-- the lists and the registrations of a thing -/
def Tg.lsts : Tg → List Addr
  | .src _ _ _ => []
  | .set _ L R _ _ => [L, R]
def Tg.ents : Tg → List Addr
  | .src _ _ _ => []
  | .set _ _ _ es _ => es.map (·.ad)
def Sy.dcs (s : Sy) : List Addr := s.T :: s.G :: s.tabs.map (·.2.ad)
def Sy.ths' (s : Sy) : List Addr := s.ths.map (·.2.ad)
def Sy.lsts (s : Sy) : List Addr := s.ths.flatMap (·.2.tg.lsts)
def Sy.ents (s : Sy) : List Addr := s.ths.flatMap (·.2.tg.ents)
/-- all that a system owns -/
def Sy.foot (s : Sy) : List Addr := s.p :: (s.dcs ++ (s.ths' ++ (s.lsts ++ s.ents)))
structure SyAt (K : PySem.W.Frag) (H : Hp) (s : Sy) : Prop where
  ob : H s.p = some (.ins (ga K "System") s.dx (sysF s.P s.N s.T s.G s.made))
  tb : H s.T = some (.dK (kv tbV s.tabs))
  tt : ∀ t ∈ s.tabs, H t.2.ad = some (.dK (kv V.int t.2.rows))
  gb : H s.G = some (.dK (kv thV s.ths))
  gt : ∀ t ∈ s.ths, TgAt K H t.2.ad t.2.tg
  nd : s.dcs.Nodup
  nt : s.ths'.Nodup
  nl : s.lsts.Nodup
  ne : s.ents.Nodup
/-! ### the plain picture -/
structure Ev where
  num : Int
  ser : Int
  lab : Int
  wrd : Str
  arm : Bool
  deriving DecidableEq
inductive Tv where
  | src (u : Int) (f : Bool)
  | set (es : List Ev) (row : List Int)
  deriving DecidableEq
structure Sv where
  P : Int
  N : Int
  made : Int
  tabs : List (Int × List (Int × Int))
  ths : List (Int × Tv)
def En.v (e : En) : Ev := ⟨e.num, e.ser, e.lab, e.wrd, e.arm⟩
def Tg.v : Tg → Tv
  | .src _ u f => .src u f
  | .set _ _ _ es row => .set (es.map En.v) row
def Sy.v (s : Sy) : Sv := ⟨s.P, s.N, s.made, s.tabs.map fun t => (t.1, t.2.rows), s.ths.map fun t => (t.1, t.2.tg.v)⟩
/-- behind a call: what is not the system's stands, what is the system's was or is new -/
structure Fr' (s s' : Sy) (H H' : Hp) : Prop where
  keep : ∀ b o, H b = some o → b ∉ s.foot → H' b = some o
  foot : ∀ b ∈ s'.foot, b ∈ s.foot ∨ H b = none
  same : s'.p = s.p
theorem Fr'.refl (s : Sy) (H : Hp) : Fr' s s H H := ⟨fun _ _ e _ => e, fun _ h => .inl h, rfl⟩
theorem Fr'.more {s s' : Sy} {H H' H'' : Hp} (f : Fr' s s' H H') (e : Same H' H'') : Fr' s s' H H'' := ⟨fun b o h n => e _ _ (f.keep b o h n), f.foot, f.same⟩
theorem Fr'.out {s s' : Sy} {H H' : Hp} (f : Fr' s s' H H') {b : Addr} {o : HO} (h : H b = some o) (n : b ∉ s.foot) : b ∉ s'.foot := fun m => by
  rcases f.foot b m with z | z
  · exact n z
  · rw [h] at z
    cases z
theorem Fr'.trans {s s1 s2 : Sy} {H H1 H2 : Hp} (f : Fr' s s1 H H1) (g : Fr' s1 s2 H1 H2) : Fr' s s2 H H2 := by
  refine ⟨fun b o h n => g.keep b o (f.keep b o h n) (f.out h n), fun b m => ?_, g.same.trans f.same⟩
  rcases g.foot b m with z | z
  · exact f.foot b z
  · by_cases n : b ∈ s.foot
    · exact .inl n
    · cases e : H b with
      | none => exact .inr rfl
      | some o =>
        rw [f.keep b o e n] at z
        cases z
theorem SyAt.same {K : PySem.W.Frag} {H H' : Hp} {s : Sy} (S : SyAt K H s) (e : ∀ b o, H b = some o → b ∈ s.foot → H' b = some o) : SyAt K H' s := by
  have fT : ∀ {b}, b ∈ s.dcs → b ∈ s.foot := fun h => List.mem_cons_of_mem _ (List.mem_append_left _ h)
  have fH : ∀ {b}, b ∈ s.ths' → b ∈ s.foot := fun h => List.mem_cons_of_mem _ (List.mem_append_right _ (List.mem_append_left _ h))
  have fL : ∀ {b}, b ∈ s.lsts → b ∈ s.foot := fun h => List.mem_cons_of_mem _ (List.mem_append_right _ (List.mem_append_right _ (List.mem_append_left _ h)))
  have fE : ∀ {b}, b ∈ s.ents → b ∈ s.foot := fun h => List.mem_cons_of_mem _ (List.mem_append_right _ (List.mem_append_right _ (List.mem_append_right _ h)))
  refine ⟨e _ _ S.ob List.mem_cons_self, e _ _ S.tb (fT List.mem_cons_self), fun t h => e _ _ (S.tt t h) (fT (List.mem_cons_of_mem _ (List.mem_cons_of_mem _ (List.mem_map.mpr ⟨t, h, rfl⟩)))), e _ _ S.gb (fT (List.mem_cons_of_mem _ List.mem_cons_self)),
    fun t h => ?_, S.nd, S.nt, S.nl, S.ne⟩
  have ha : t.2.ad ∈ s.foot := fH (List.mem_map.mpr ⟨t, h, rfl⟩)
  have q := S.gt t h
  cases ht : t.2.tg with
  | src dx u f =>
    rw [ht] at q
    exact e _ _ q ha
  | set dx L R es row =>
    rw [ht] at q
    obtain ⟨q1, q2, q3, q4⟩ := q
    have mL : ∀ b ∈ [L, R], b ∈ s.foot := fun b hb => fL (List.mem_flatMap.mpr ⟨t, h, by rw [ht]; exact hb⟩)
    exact ⟨e _ _ q1 ha, e _ _ q2 (mL L (by simp)), e _ _ q3 (mL R (by simp)), fun x hx => e _ _ (q4 x hx) (fE (List.mem_flatMap.mpr ⟨t, h, by rw [ht]; exact List.mem_map.mpr ⟨x, hx, rfl⟩⟩))⟩
theorem SyAt.ext {K : PySem.W.Frag} {H H' : Hp} {s : Sy} (S : SyAt K H s) (e : Same H H') : SyAt K H' s := S.same fun b o h _ => e b o h
/-- the tables, also while a dict is walked -/
structure SyT (K : PySem.W.Frag) (H : Hp) (s : Sy) : Prop where
  ob : H s.p = some (.ins (ga K "System") s.dx (sysF s.P s.N s.T s.G s.made))
  tb : Rd H s.T (.dK (kv tbV s.tabs))
  tt : ∀ t ∈ s.tabs, Rd H t.2.ad (.dK (kv V.int t.2.rows))
theorem rd_same {H H' : Hp} {a : Addr} {o : HO} (h : Rd H a o) (e : Same H H') : Rd H' a o := h.elim (fun h => .inl (e _ _ h)) fun ⟨u, h⟩ => .inr ⟨u, e _ _ h⟩
theorem SyT.ext {K : PySem.W.Frag} {H H' : Hp} {s : Sy} (S : SyT K H s) (e : Same H H') : SyT K H' s := ⟨e _ _ S.ob, rd_same S.tb e, fun t h => rd_same (S.tt t h) e⟩
theorem SyAt.t {K : PySem.W.Frag} {H : Hp} {s : Sy} (S : SyAt K H s) : SyT K H s := ⟨S.ob, .inl S.tb, fun t h => .inl (S.tt t h)⟩
instance {K : PySem.W.Frag} {H : Hp} {s : Sy} : Coe (SyAt K H s) (SyT K H s) := ⟨SyAt.t⟩
end Wn
/-! plain facts of systems -/
namespace Wn
open PySem PySem.Spec PyProof.Rows L2 LamX He

/-! ### sorted lists of whole numbers -/
def srtI (l : List Int) : List Int := l.mergeSort fun a b => decide (a ≤ b)
/-- numbers below n, none twice, are at most n -/
theorem few : ∀ (n : Nat) {l : List Int}, l.Nodup → (∀ x ∈ l, 0 ≤ x ∧ x < (n : Int)) → l.length ≤ n
  | 0, l, _, h => by
    cases l with
    | nil => exact Nat.le_refl _
    | cons a l =>
      have := h a List.mem_cons_self
      omega
  | n + 1, l, nd, h => by
    have h1 := few n (l := l.filter fun x => decide (x ≠ (n : Int))) (nd.filter _) (fun x hx => by
      obtain ⟨h1, h2⟩ := List.mem_filter.mp hx
      have h3 := h x h1
      have h4 : x ≠ (n : Int) := of_decide_eq_true h2
      omega)
    have h2 : l.length ≤ (l.filter fun x => decide (x ≠ (n : Int))).length + 1 := by
      clear h h1
      induction l with
      | nil => exact Nat.zero_le _
      | cons a l ih =>
        obtain ⟨n1, n2⟩ := List.nodup_cons.mp nd
        by_cases e : a = (n : Int)
        · have : l.filter (fun x => decide (x ≠ (n : Int))) = l := List.filter_eq_self.mpr fun x hx => decide_eq_true fun z => n1 (by rw [e, ← z]; exact hx)
          rw [List.filter_cons, if_neg (by simp [e]), this]
          exact Nat.le_refl _
        · rw [List.filter_cons, if_pos (by simp [e])]
          have := ih n2
          simp only [List.length_cons]
          omega
    omega

/-! ### well formed systems -/
def SetOk (v : Sv) (es : List Ev) (row : List Int) : Prop :=
  (es.map (·.lab)).Nodup ∧ (es.map fun e => (e.num, e.ser)).Nodup ∧ row.Nodup ∧ (∀ x ∈ row, ∃ e ∈ es, e.lab = x ∧ e.arm = true) ∧ (∀ e ∈ es, ∃ u f, lk v.ths e.ser = some (.src u f)) ∧ es.length ≤ mostE
structure WF (v : Sv) : Prop where
  p : 2 ≤ v.P ∧ v.P ≤ 6
  n : 3 ≤ v.N ∧ v.N ≤ 8
  ndp : (v.tabs.map (·.1)).Nodup
  rp : ∀ t ∈ v.tabs, 0 ≤ t.1 ∧ t.1 < v.P
  ndn : ∀ t ∈ v.tabs, (t.2.map (·.1)).Nodup
  rn : ∀ t ∈ v.tabs, ∀ r ∈ t.2, 0 ≤ r.1 ∧ r.1 < v.N
  th : ∀ t ∈ v.tabs, ∀ r ∈ t.2, r.2 ∈ v.ths.map (·.1)
  nds : (v.ths.map (·.1)).Nodup
  rs : ∀ t ∈ v.ths, 0 ≤ t.1 ∧ t.1 < v.made
  held : ∀ t ∈ v.ths, ∃ u ∈ v.tabs, ∃ r ∈ u.2, r.2 = t.1
  ok : ∀ t ∈ v.ths, ∀ es row, t.2 = .set es row → SetOk v es row
theorem WF.new {P N : Int} (h1 : 2 ≤ P ∧ P ≤ 6) (h2 : 3 ≤ N ∧ N ≤ 8) : WF ⟨P, N, 0, [(0, [])], []⟩ where
  p := h1
  n := h2
  ndp := by simp
  rp := fun t ht => by
    cases List.mem_singleton.mp ht
    show (0 : Int) ≤ 0 ∧ (0 : Int) < P
    omega
  ndn := fun t ht => by
    cases List.mem_singleton.mp ht
    exact List.nodup_nil
  rn := fun t ht r hr => by
    cases List.mem_singleton.mp ht
    cases hr
  th := fun t ht r hr => by
    cases List.mem_singleton.mp ht
    cases hr
  nds := List.nodup_nil
  rs := fun t ht => nomatch ht
  held := fun t ht => nomatch ht
  ok := fun t ht => nomatch ht
/-- the picture of the tables and of the things -/
theorem lk_map {α β : Type} (f : α → β) (n : Int) : ∀ l : List (Int × α), lk (l.map fun r => (r.1, f r.2)) n = (lk l n).map f
  | [] => rfl
  | r :: l => by
    show lk ((r.1, f r.2) :: l.map fun r => (r.1, f r.2)) n = _
    by_cases e : r.1 = n
    · rw [lk_pos (r := (r.1, f r.2)) e, lk_pos e]
      rfl
    · rw [lk_neg (r := (r.1, f r.2)) e, lk_neg e, lk_map f n l]
theorem Sy.tabs_v (s : Sy) (n : Int) : lk s.v.tabs n = (lk s.tabs n).map (·.rows) := lk_map (fun t : Tb => t.rows) n s.tabs
theorem Sy.ths_v (s : Sy) (n : Int) : lk s.v.ths n = (lk s.ths n).map (·.tg.v) := lk_map (fun t : Th => t.tg.v) n s.ths
theorem Sy.pids (s : Sy) : s.v.tabs.map (·.1) = s.tabs.map (·.1) := by
  show (s.tabs.map fun t => (t.1, t.2.rows)).map (·.1) = _
  rw [List.map_map]
  rfl
theorem Sy.sers (s : Sy) : s.v.ths.map (·.1) = s.ths.map (·.1) := by
  show (s.ths.map fun t => (t.1, t.2.tg.v)).map (·.1) = _
  rw [List.map_map]
  rfl
/-- the numbers that mean a thing -/
def holdsIn (ser p : Int) (rows : List (Int × Int)) : List (Int × Int) := ((srtI (rows.map (·.1))).filter fun n => decide (lk rows n = some ser)).map fun n => (p, n)
def holds (tabs : List (Int × List (Int × Int))) (ser : Int) : List (Int × Int) := (srtI (tabs.map (·.1))).flatMap fun p => match lk tabs p with
  | none => []
  | some rows => holdsIn ser p rows
end Wn
namespace Wn
open PySem PySem.Spec PyProof.Rows L2 LamX He
/-! ### things are placed -/
section
variable {α β : Type}
def upAt (l : List (Int × α)) (i : Int) (f : α → α) : List (Int × α) := l.map fun t => if t.1 = i then (t.1, f t.2) else t
theorem upAt_keys (l : List (Int × α)) (i : Int) (f : α → α) : (upAt l i f).map (·.1) = l.map (·.1) := by
  unfold upAt
  rw [List.map_map]
  refine List.map_congr_left fun t _ => ?_
  show (if t.1 = i then (t.1, f t.2) else t).1 = t.1
  split <;> rfl
theorem upAt_mem {l : List (Int × α)} {i : Int} {f : α → α} {t : Int × α} (h : t ∈ upAt l i f) : (t.1 ≠ i ∧ t ∈ l) ∨ ∃ x, (i, x) ∈ l ∧ t = (i, f x) := by
  obtain ⟨u, hu, rfl⟩ := List.mem_map.mp h
  by_cases e : u.1 = i
  · right
    refine ⟨u.2, ?_, ?_⟩
    · rw [← e]; exact hu
    · rw [if_pos e, e]
  · left
    rw [if_neg e]
    exact ⟨e, hu⟩
theorem upAt_kv (g : α → V) (f : α → α) (h : ∀ x, g (f x) = g x) (l : List (Int × α)) (i : Int) : kv g (upAt l i f) = kv g l := by
  unfold upAt kv
  rw [List.map_map]
  refine List.map_congr_left fun t _ => ?_
  show (Sum.inl (if t.1 = i then (t.1, f t.2) else t).1, g (if t.1 = i then (t.1, f t.2) else t).2) = ((Sum.inl t.1 : Key), g t.2)
  split
  · rw [h]
  · rfl
end
/-- the rows of one table are changed -/
def Tb.fn (f : List (Int × Int) → List (Int × Int)) (t : Tb) : Tb := ⟨t.ad, f t.rows⟩
theorem Sy.in_dcs {s : Sy} {b : Addr} (h : b ∈ s.dcs) : b ∈ s.foot := List.mem_cons_of_mem _ (List.mem_append_left _ h)
theorem Sy.in_ths {s : Sy} {b : Addr} (h : b ∈ s.ths') : b ∈ s.foot := List.mem_cons_of_mem _ (List.mem_append_right _ (List.mem_append_left _ h))
theorem Sy.in_lsts {s : Sy} {b : Addr} (h : b ∈ s.lsts) : b ∈ s.foot := List.mem_cons_of_mem _ (List.mem_append_right _ (List.mem_append_right _ (List.mem_append_left _ h)))
theorem Sy.in_ents {s : Sy} {b : Addr} (h : b ∈ s.ents) : b ∈ s.foot := List.mem_cons_of_mem _ (List.mem_append_right _ (List.mem_append_right _ (List.mem_append_right _ h)))
section
variable {K : PySem.W.Frag} {H : Hp} {s : Sy}
theorem SyAt.dc (S : SyAt K H s) {b : Addr} (h : b ∈ s.dcs) : ∃ kvs, H b = some (.dK kvs) := by
  rcases List.mem_cons.mp h with z | z
  · exact ⟨_, z ▸ S.tb⟩
  · rcases List.mem_cons.mp z with z | z
    · exact ⟨_, z ▸ S.gb⟩
    · obtain ⟨t, ht, rfl⟩ := List.mem_map.mp z
      exact ⟨_, S.tt t ht⟩
theorem SyAt.th' (S : SyAt K H s) {b : Addr} (h : b ∈ s.ths') : ∃ C dx fs, fs.lookup ("tables" : Str) = none ∧ fs.lookup ("label" : Str) = none ∧ H b = some (.ins C dx fs) := by
  obtain ⟨t, ht, rfl⟩ := List.mem_map.mp h
  have q := S.gt t ht
  cases e : t.2.tg with
  | src dx u f =>
    rw [e] at q
    exact ⟨_, _, _, rfl, rfl, q⟩
  | set dx L R es row =>
    rw [e] at q
    exact ⟨_, _, _, rfl, rfl, q.1⟩
theorem SyAt.ls (S : SyAt K H s) {b : Addr} (h : b ∈ s.lsts) : ∃ xs, H b = some (.lst xs) := by
  obtain ⟨t, ht, hb⟩ := List.mem_flatMap.mp h
  have q := S.gt t ht
  cases e : t.2.tg with
  | src dx u f =>
    rw [e] at hb
    cases hb
  | set dx L R es row =>
    rw [e] at q hb
    rcases List.mem_cons.mp hb with z | z
    · exact ⟨_, z ▸ q.2.1⟩
    · cases List.mem_singleton.mp z
      exact ⟨_, q.2.2.1⟩
theorem SyAt.en (S : SyAt K H s) {b : Addr} (h : b ∈ s.ents) : ∃ dx fs, fs.lookup ("tables" : Str) = none ∧ (fs.lookup ("label" : Str)).isSome = true ∧ H b = some (.ins (ga K "Entry") dx fs) := by
  obtain ⟨t, ht, hb⟩ := List.mem_flatMap.mp h
  have q := S.gt t ht
  cases e : t.2.tg with
  | src dx u f =>
    rw [e] at hb
    cases hb
  | set dx L R es row =>
    rw [e] at q hb
    obtain ⟨x, hx, rfl⟩ := List.mem_map.mp hb
    exact ⟨_, _, rfl, rfl, q.2.2.2 x hx⟩
/-- a table's rows are changed -/
theorem SyAt.rows (S : SyAt K H s) {i : Int} {t : Tb} {f : List (Int × Int) → List (Int × Int)} (hl : lk s.tabs i = some t) (nd : (s.tabs.map (·.1)).Nodup) :
    SyAt K (upd H t.ad (.dK (kv V.int (f t.rows)))) { s with tabs := upAt s.tabs i (Tb.fn f) } := by
  have hm := lk_mem hl
  have ht := S.tt _ hm
  have np : s.p ≠ t.ad := ne_of S.ob ht (fun z => nomatch z)
  obtain ⟨d1, d2⟩ := List.nodup_cons.mp S.nd
  obtain ⟨d3, d4⟩ := List.nodup_cons.mp d2
  have mA : t.ad ∈ s.tabs.map (·.2.ad) := List.mem_map.mpr ⟨_, hm, rfl⟩
  have nT : s.T ≠ t.ad := fun z => d1 (z ▸ List.mem_cons_of_mem _ mA)
  have nG : s.G ≠ t.ad := fun z => d3 (z ▸ mA)
  have ads : (upAt s.tabs i (Tb.fn f)).map (·.2.ad) = s.tabs.map (·.2.ad) := by
    unfold upAt
    rw [List.map_map]
    refine List.map_congr_left fun u _ => ?_
    show (if u.1 = i then (u.1, Tb.fn f u.2) else u).2.ad = u.2.ad
    split <;> rfl
  refine ⟨by rw [upd_ne np]; exact S.ob, ?_, fun u hu => ?_, by rw [upd_ne nG]; exact S.gb, fun u hu => ?_, ?_, S.nt, S.nl, S.ne⟩
  · rw [upd_ne nT]
    show H s.T = some (.dK (kv tbV (upAt s.tabs i (Tb.fn f))))
    rw [upAt_kv tbV (Tb.fn f) (fun _ => rfl)]
    exact S.tb
  · rcases upAt_mem hu with ⟨ni, hm'⟩ | ⟨x, hx, rfl⟩
    · have na : u.2.ad ≠ t.ad := fun z => by
        have e1 : u = (i, t) := inj_of_nodup d4 hm' hm z
        exact ni (by rw [e1])
      rw [upd_ne na]
      exact S.tt u hm'
    · have e : x = t := by
        have := lk_of_mem nd hx
        rw [hl] at this
        exact (Option.some.inj this).symm
      subst e
      exact upd_same
  · have q := S.gt u hu
    have hk : ∀ {b : Addr} {o : HO}, H b = some o → (∀ kvs, o ≠ .dK kvs) → upd H t.ad (.dK (kv V.int (f t.rows))) b = some o := fun {b o} e ne => by
      rw [upd_ne (ne_of e ht (ne _))]
      exact e
    cases e : u.2.tg with
    | src dx v fi =>
      rw [e] at q
      exact hk q fun _ z => nomatch z
    | set dx L R es row =>
      rw [e] at q
      exact ⟨hk q.1 fun _ z => (nomatch z), hk q.2.1 fun _ z => (nomatch z), hk q.2.2.1 fun _ z => (nomatch z), fun x hx => hk (q.2.2.2 x hx) fun _ z => (nomatch z)⟩
  · show (s.T :: s.G :: (upAt s.tabs i (Tb.fn f)).map (·.2.ad)).Nodup
    rw [ads]
    exact S.nd
where
  inj_of_nodup {l : List (Int × Tb)} (nd : (l.map (·.2.ad)).Nodup) {x y : Int × Tb} (hx : x ∈ l) (hy : y ∈ l) (e : x.2.ad = y.2.ad) : x = y := by
    induction l with
    | nil => cases hx
    | cons a l ih =>
      obtain ⟨n1, n2⟩ := List.nodup_cons.mp (show (a.2.ad :: l.map (·.2.ad)).Nodup from nd)
      rcases List.mem_cons.mp hx with zx | zx
      · rcases List.mem_cons.mp hy with zy | zy
        · rw [zx, zy]
        · subst zx
          exact (n1 (e ▸ List.mem_map.mpr ⟨_, zy, rfl⟩)).elim
      · rcases List.mem_cons.mp hy with zy | zy
        · subst zy
          exact (n1 (e ▸ List.mem_map.mpr ⟨_, zx, rfl⟩)).elim
        · exact ih n2 zx zy
end

section
variable {K : PySem.W.Frag} {H : Hp} {s : Sy}
/-- what the object at a is not: a change there keeps the things -/
theorem TgAt.keep {a b : Addr} {o : HO} {tg : Tg} (h : TgAt K H a tg) (ha : a ≠ b) (hl : ∀ x ∈ tg.lsts, x ≠ b) (he : ∀ x ∈ tg.ents, x ≠ b) : TgAt K (upd H b o) a tg := by
  cases tg with
  | src dx u f =>
    show upd H b o a = _
    rw [upd_ne ha]
    exact h
  | set dx L R es row =>
    obtain ⟨q1, q2, q3, q4⟩ := h
    refine ⟨by rw [upd_ne ha]; exact q1, by rw [upd_ne (hl L (by simp [Tg.lsts]))]; exact q2, by rw [upd_ne (hl R (by simp [Tg.lsts]))]; exact q3, fun e h => ?_⟩
    rw [upd_ne (he e.ad (List.mem_map.mpr ⟨e, h, rfl⟩))]
    exact q4 e h
/-- the parts of a system stand apart -/
theorem ins_ne {C C' dx dx' : Addr} {fs fs' : List (Str × V)} (f : Str) (h : fs.lookup f ≠ fs'.lookup f) : HO.ins C dx fs ≠ HO.ins C' dx' fs' := fun z => by
  cases z
  exact h rfl
theorem SyAt.np (S : SyAt K H s) {b : Addr} (h : b ∈ s.dcs ∨ b ∈ s.ths' ∨ b ∈ s.lsts ∨ b ∈ s.ents) : b ≠ s.p := by
  rcases h with z | z | z | z
  · obtain ⟨_, q⟩ := S.dc z
    exact ne_of q S.ob fun z => nomatch z
  · obtain ⟨_, _, _, e, _, q⟩ := S.th' z
    exact ne_of q S.ob (ins_ne "tables" (by rw [e]; exact fun z => nomatch z))
  · obtain ⟨_, q⟩ := S.ls z
    exact ne_of q S.ob fun z => nomatch z
  · obtain ⟨_, _, e, _, q⟩ := S.en z
    exact ne_of q S.ob (ins_ne "tables" (by rw [e]; exact fun z => nomatch z))
theorem Sy.th_in {s : Sy} {t : Int × Th} (h : t ∈ s.ths) : t.2.ad ∈ s.ths' := List.mem_map.mpr ⟨t, h, rfl⟩
theorem Sy.ls_in {s : Sy} {t : Int × Th} (h : t ∈ s.ths) {x : Addr} (hx : x ∈ t.2.tg.lsts) : x ∈ s.lsts := List.mem_flatMap.mpr ⟨t, h, hx⟩
theorem Sy.en_in {s : Sy} {t : Int × Th} (h : t ∈ s.ths) {x : Addr} (hx : x ∈ t.2.tg.ents) : x ∈ s.ents := List.mem_flatMap.mpr ⟨t, h, hx⟩
theorem SyAt.dc_th (S : SyAt K H s) {a b : Addr} (ha : a ∈ s.dcs) (hb : b ∈ s.ths' ∨ b ∈ s.lsts ∨ b ∈ s.ents) : b ≠ a := by
  obtain ⟨_, q⟩ := S.dc ha
  rcases hb with z | z | z
  · obtain ⟨_, _, _, _, _, q'⟩ := S.th' z
    exact ne_of q' q fun z => nomatch z
  · obtain ⟨_, q'⟩ := S.ls z
    exact ne_of q' q fun z => nomatch z
  · obtain ⟨_, _, _, _, q'⟩ := S.en z
    exact ne_of q' q fun z => nomatch z
/-- a new thing, which stands apart, is kept under a new serial -/
theorem SyAt.thing (S : SyAt K H s) {n : Int} {t : Th} (ht : TgAt K H t.ad t.tg) (h1 : t.ad ∉ s.foot) (h2 : ∀ x ∈ t.tg.lsts, x ∉ s.foot) (h3 : ∀ x ∈ t.tg.ents, x ∉ s.foot) (n2 : t.tg.lsts.Nodup) (n3 : t.tg.ents.Nodup) :
    SyAt K (upd H s.G (.dK (kv thV (s.ths ++ [(n, t)])))) { s with ths := s.ths ++ [(n, t)] } := by
  have mG : s.G ∈ s.dcs := List.mem_cons_of_mem _ List.mem_cons_self
  obtain ⟨d1, d2⟩ := List.nodup_cons.mp S.nd
  obtain ⟨d3, d4⟩ := List.nodup_cons.mp d2
  have fG : s.G ∈ s.foot := Sy.in_dcs mG
  have nTG : s.T ≠ s.G := fun z => d1 (by rw [z]; exact List.mem_cons_self)
  have nG : ∀ {u : Int × Tb}, u ∈ s.tabs → u.2.ad ≠ s.G := fun {u} h z => d3 (by rw [← z]; exact List.mem_map.mpr ⟨u, h, rfl⟩)
  refine ⟨by rw [upd_ne (Ne.symm (S.np (.inl mG)))]; exact S.ob, by rw [upd_ne nTG]; exact S.tb, fun u h => ?_, upd_same, fun u h => ?_, S.nd, ?_, ?_, ?_⟩
  · rw [upd_ne (nG h)]
    exact S.tt u h
  · rcases List.mem_append.mp h with h | h
    · exact (S.gt u h).keep (S.dc_th mG (.inl (Sy.th_in h))) (fun x hx => S.dc_th mG (.inr (.inl (Sy.ls_in h hx)))) (fun x hx => S.dc_th mG (.inr (.inr (Sy.en_in h hx))))
    · cases List.mem_singleton.mp h
      exact ht.keep (fun z => h1 (z ▸ fG)) (fun x hx z => h2 x hx (z ▸ fG)) (fun x hx z => h3 x hx (z ▸ fG))
  · show ((s.ths ++ [(n, t)]).map (·.2.ad)).Nodup
    rw [List.map_append]
    exact List.nodup_append.mpr ⟨S.nt, by simp, fun a ha b hb z => by
      have z' : a = t.ad := z.trans (List.mem_singleton.mp hb)
      exact h1 (by rw [← z']; exact Sy.in_ths ha)⟩
  · show ((s.ths ++ [(n, t)]).flatMap (·.2.tg.lsts)).Nodup
    rw [List.flatMap_append]
    refine List.nodup_append.mpr ⟨S.nl, by simpa using n2, fun a ha b hb z => ?_⟩
    have hb' : b ∈ t.tg.lsts := by simpa using hb
    exact h2 b hb' (z ▸ Sy.in_lsts ha)
  · show ((s.ths ++ [(n, t)]).flatMap (·.2.tg.ents)).Nodup
    rw [List.flatMap_append]
    refine List.nodup_append.mpr ⟨S.ne, by simpa using n3, fun a ha b hb z => ?_⟩
    have hb' : b ∈ t.tg.ents := by simpa using hb
    exact h3 b hb' (z ▸ Sy.in_ents ha)
end

/-! ### the pictures of these changes -/
def Sv.place (v : Sv) (i n : Int) (tv : Tv) : Sv := { v with made := v.made + 1, tabs := upAt v.tabs i (· ++ [(n, v.made)]), ths := v.ths ++ [(v.made, tv)] }
def Sv.fork (v : Sv) (c : Int) (rows : List (Int × Int)) : Sv := { v with tabs := v.tabs ++ [(c, rows)] }
def Tv.fresh : Tv → Prop
  | .src u f => 0 ≤ u
  | .set es row => es = [] ∧ row = []
theorem WF.place {v : Sv} (h : WF v) {i n : Int} {rows : List (Int × Int)} {tv : Tv} (hl : lk v.tabs i = some rows) (hn : 0 ≤ n ∧ n < v.N ∧ n ∉ rows.map (·.1)) (hf : tv.fresh) (hm : 0 ≤ v.made) : WF (v.place i n tv) := by
  have mem : (i, rows) ∈ v.tabs := lk_mem hl
  have one : ∀ {t : Int × List (Int × Int)}, t ∈ (v.place i n tv).tabs → t ∈ v.tabs ∨ t = (i, rows ++ [(n, v.made)]) := fun {t} ht => by
    rcases upAt_mem (show t ∈ upAt v.tabs i (· ++ [(n, v.made)]) from ht) with ⟨_, z⟩ | ⟨x, hx, rfl⟩
    · exact .inl z
    · have := lk_of_mem h.ndp hx
      rw [hl] at this
      cases this
      exact .inr rfl
  have old : ∀ {k : Int}, k ∈ v.ths.map (·.1) → k ∈ (v.place i n tv).ths.map (·.1) := fun {k} hk => by
    show k ∈ (v.ths ++ [(v.made, tv)]).map (·.1)
    rw [List.map_append]
    exact List.mem_append_left _ hk
  have nm : v.made ∉ v.ths.map (·.1) := fun z => by
    obtain ⟨t, ht, e⟩ := List.mem_map.mp z
    have := h.rs t ht
    omega
  refine ⟨h.p, h.n, ?_, fun t ht => ?_, fun t ht => ?_, fun t ht r hr => ?_, fun t ht r hr => ?_, ?_, fun t ht => ?_, fun t ht => ?_, fun t ht es row e => ?_⟩
  · show ((upAt v.tabs i (· ++ [(n, v.made)])).map (·.1)).Nodup
    rw [upAt_keys]
    exact h.ndp
  · rcases one ht with z | z
    · exact h.rp t z
    · subst z
      exact h.rp (i, rows) mem
  · rcases one ht with z | z
    · exact h.ndn t z
    · subst z
      show ((rows ++ [(n, v.made)]).map (·.1)).Nodup
      rw [List.map_append]
      exact nd_snoc (h.ndn (i, rows) mem) hn.2.2
  · rcases one ht with z | z
    · exact h.rn t z r hr
    · subst z
      rcases List.mem_append.mp hr with y | y
      · exact h.rn (i, rows) mem r y
      · cases List.mem_singleton.mp y
        exact ⟨hn.1, hn.2.1⟩
  · rcases one ht with z | z
    · exact old (h.th t z r hr)
    · subst z
      rcases List.mem_append.mp hr with y | y
      · exact old (h.th (i, rows) mem r y)
      · cases List.mem_singleton.mp y
        show v.made ∈ (v.ths ++ [(v.made, tv)]).map (·.1)
        simp
  · show ((v.ths ++ [(v.made, tv)]).map (·.1)).Nodup
    rw [List.map_append]
    exact nd_snoc h.nds nm
  · show 0 ≤ t.1 ∧ t.1 < v.made + 1
    rcases List.mem_append.mp ht with y | y
    · have := h.rs t y
      omega
    · cases List.mem_singleton.mp y
      show 0 ≤ v.made ∧ v.made < v.made + 1
      omega
  · have up : ∀ {u : Int × List (Int × Int)}, u ∈ v.tabs → ∃ u' ∈ (v.place i n tv).tabs, ∀ r ∈ u.2, r ∈ u'.2 := fun {u} hu => by
      refine ⟨_, List.mem_map.mpr ⟨u, hu, rfl⟩, fun r hr => ?_⟩
      show r ∈ (if u.1 = i then (u.1, u.2 ++ [(n, v.made)]) else u).2
      split
      · exact List.mem_append_left _ hr
      · exact hr
    rcases List.mem_append.mp ht with y | y
    · obtain ⟨u, hu, r, hr, e⟩ := h.held t y
      obtain ⟨u', hu', k⟩ := up hu
      exact ⟨u', hu', r, k r hr, e⟩
    · cases List.mem_singleton.mp y
      refine ⟨(i, rows ++ [(n, v.made)]), List.mem_map.mpr ⟨(i, rows), mem, if_pos rfl⟩, (n, v.made), List.mem_append_right _ (List.mem_singleton.mpr rfl), rfl⟩
  · have ext : ∀ {k : Int} {x : Tv}, lk v.ths k = some x → lk (v.ths ++ [(v.made, tv)]) k = some x := fun {k x} hk => by rw [lk_app, hk]; rfl
    rcases List.mem_append.mp ht with y | y
    · obtain ⟨h1, h2, h3, h4, h5, h6⟩ := h.ok t y es row e
      exact ⟨h1, h2, h3, h4, fun x hx => (h5 x hx).imp fun u ⟨f, q⟩ => ⟨f, ext q⟩, h6⟩
    · cases List.mem_singleton.mp y
      have e' : tv = .set es row := e
      subst e'
      obtain ⟨rfl, rfl⟩ := hf
      exact ⟨List.nodup_nil, List.nodup_nil, List.nodup_nil, fun x hx => (nomatch hx), fun x hx => (nomatch hx), Nat.zero_le _⟩
theorem WF.fork {v : Sv} (h : WF v) {i c : Int} {rows : List (Int × Int)} (hl : lk v.tabs i = some rows) (hc : 0 ≤ c ∧ c < v.P ∧ c ∉ v.tabs.map (·.1)) : WF (v.fork c rows) := by
  have mem : (i, rows) ∈ v.tabs := lk_mem hl
  have one : ∀ {t : Int × List (Int × Int)}, t ∈ v.tabs ++ [(c, rows)] → t ∈ v.tabs ∨ t = (c, rows) := fun {t} ht => by simpa using ht
  refine ⟨h.p, h.n, ?_, fun t ht => ?_, fun t ht => ?_, fun t ht r hr => ?_, fun t ht r hr => ?_, h.nds, h.rs, fun t ht => ?_, h.ok⟩
  · show ((v.tabs ++ [(c, rows)]).map (·.1)).Nodup
    rw [List.map_append]
    exact nd_snoc h.ndp hc.2.2
  · rcases one ht with z | z
    · exact h.rp t z
    · subst z
      exact ⟨hc.1, hc.2.1⟩
  · rcases one ht with z | z
    · exact h.ndn t z
    · subst z
      exact h.ndn (i, rows) mem
  · rcases one ht with z | z
    · exact h.rn t z r hr
    · subst z
      exact h.rn (i, rows) mem r hr
  · rcases one ht with z | z
    · exact h.th t z r hr
    · subst z
      exact h.th (i, rows) mem r hr
  · obtain ⟨u, hu, q⟩ := h.held t ht
    exact ⟨u, List.mem_append_left _ hu, q⟩

end Wn
namespace Wn
open PySem PySem.Spec PyProof.Rows L2 LamX He
/-! ### a dict made by a walk -/
/-! ### data that is new -/
/-- what stands in H' and not in H -/
def frs (H H' : Hp) : Hp := fun a => match H a with
  | none => H' a
  | some _ => none
def off (D : Addr) (H : Hp) : Hp := fun a => if a = D then none else H a
theorem off_le {D : Addr} {H : Hp} : Same (off D H) H := fun b o h => by
  unfold off at h
  split at h
  · cases h
  · exact h
theorem frs_new {H H' : Hp} {p : Addr} (h : H p = none) : frs H H' p = H' p := by
  unfold frs
  rw [h]
theorem off_ne {D p : Addr} {H : Hp} (h : p ≠ D) : off D H p = H p := if_neg h
theorem frs_mono {H H1 H2 : Hp} (e : Same H1 H2) : Same (frs H H1) (frs H H2) := fun b o h => by
  unfold frs at h ⊢
  cases q : H b with
  | none => rw [q] at h; exact e b o h
  | some _ => rw [q] at h; cases h
theorem off_mono {D : Addr} {H1 H2 : Hp} (e : Same H1 H2) : Same (off D H1) (off D H2) := fun b o h => by
  unfold off at h ⊢
  split at h
  · cases h
  · rw [if_neg (by assumption)]; exact e b o h
theorem off_upd {D : Addr} {H : Hp} {o : HO} : off D (upd H D o) = off D H := by
  funext b
  unfold off
  split
  · rfl
  · rw [upd_ne (by assumption)]
/-- a list that is being made at D: what is in it is new, and not D -/
structure Gro (K : PySem.W.Frag) (H1 : Hp) (D : Addr) (H' : Hp) (ds : List PyData) : Prop where
  new : H1 D = none
  same : Same H1 H'
  has : ∃ xs, H' D = some (.lst xs) ∧ DpAll K (frs H1 (off D H')) xs ds
section
variable {K : PySem.W.Frag} {H1 H' H4 : Hp} {D : Addr} {ds : List PyData} {d : PyData} {y : V}
theorem Gro.start (h : H1 D = none) : Gro K H1 D (upd H1 D (.lst [])) [] := ⟨h, fun b o e => by rw [upd_ne (ne_of_none e h)]; exact e, [], upd_same, .nil⟩
theorem Gro.add (g : Gro K H1 D H' ds) (e : Same H' H4) (hy : Dp K (frs H1 (off D H4)) y d) : ∃ xs, H4 D = some (.lst xs) ∧ xs.length = ds.length ∧ Gro K H1 D (upd H4 D (.lst (xs ++ [y]))) (ds ++ [d]) := by
  obtain ⟨xs, h1, h2⟩ := g.has
  refine ⟨xs, e _ _ h1, dpLen h2, g.new, fun b o q => by rw [upd_ne (ne_of_none q g.new)]; exact e _ _ (g.same _ _ q), _, upd_same, ?_⟩
  rw [off_upd]
  exact dpApp (DpAll.same (frs_mono (off_mono e)) _ _ h2) (.cons hy .nil)
theorem Gro.fin (g : Gro K H1 D H' ds) : Dp K (frs H1 H') (.ref D) (.list ds) := by
  obtain ⟨xs, h1, h2⟩ := g.has
  exact .lst (SqL.of (by rw [frs_new g.new]; exact h1)) (DpAll.same (frs_mono off_le) _ _ h2)
theorem Gro.ext (g : Gro K H1 D H' ds) (e : Same H' H4) : Gro K H1 D H4 ds := by
  obtain ⟨xs, h1, h2⟩ := g.has
  exact ⟨g.new, g.same.trans e, xs, e _ _ h1, DpAll.same (frs_mono (off_mono e)) _ _ h2⟩
/-- a new tuple of data, made while D grows -/
theorem Gro.tup (g : Gro K H1 D H' ds) {p : Addr} {vs : List V} {es : List PyData} (e : Same H' H4) (hp : H4 p = none) (h : DpAll K (frs H1 (off D (upd H4 p (.tup vs)))) vs es) : Dp K (frs H1 (off D (upd H4 p (.tup vs)))) (.ref p) (.tuple es) := by
  obtain ⟨xs, h1, _⟩ := g.has
  have ne : p ≠ D := fun z => by
    subst z
    rw [e _ _ h1] at hp
    cases hp
  refine .tup (SqT.of ?_) h
  rw [frs_new ((g.same.trans e).free hp), off_ne ne, upd_same]
end
theorem DpAll.get {K : PySem.W.Frag} {H : Hp} : ∀ {xs : List V} {ds : List PyData} {i : Nat} {d : PyData}, DpAll K H xs ds → ds[i]? = some d → ∃ v, xs[i]? = some v ∧ Dp K H v d
  | _, _, 0, _, .cons h _, e => by
    cases e
    exact ⟨_, rfl, h⟩
  | _, _, i + 1, _, .cons _ t, e => DpAll.get (i := i) t e
/-! ### a property of one of two classes -/
end Wn
namespace Wn
open PySem PySem.Spec PyProof.Rows L2 LamX He
/-! ### calls in the body of a try: the wish looks at the slots -/
section
variable {X : Cx} {CX : CXT} {k : Nat} {f C : Addr} {fd : FuncData} {ps ks : List Str} {sp : Sp} {dvs : List V} {ds : List Value} {E : L2.St → XK} {x m : Str} {p pos apos : Pos} {e o : Expr} {es : List Expr} {kws : List Keyword} {ta : TE} {t tk : TA} {g : List Value → List Value → List Value} {gV : List V → List V → List V}
end
end Wn
namespace Wn
open PySem PySem.Spec PyProof.Rows L2 LamX He
/-! ### list(range(..)) -/
def rngV (lo : Int) (n : Nat) : List V := (List.range n).map fun k => .int (lo + (k : Nat))
section
variable {X : Cx} {a b : Expr} {ta : TA} {p p2 pos pos2 : Pos}
end
end Wn
namespace Wn
open PySem PySem.Spec PyProof.Rows L2 LamX He
/-! ### len(o), o an instance of an own class -/
end Wn
/-! match on a tuple by its length -/
namespace Wn
open PySem PySem.Spec PyProof.Rows L2 LamX He
section
variable {X : Cx}
end
end Wn
namespace Wn
open PySem PySem.Spec PyProof.Rows L2 LamX He
/-! ### one thing of a system is another -/
section
variable {α : Type} {f : α → List Addr} {n : Int} {x y : α}
end
section
variable {K : PySem.W.Frag} {H H' : Hp} {s : Sy} {n : Int} {t : Th} {tg : Tg}
end
end Wn
namespace Wn
open PySem PySem.Spec PyProof.Rows L2 LamX He
/-! ### the things of a system changed, their kinds kept -/
/-! ### pending -/
def RowOk (es : List Ev) (row : List Int) : Prop := row.Nodup ∧ ∀ x ∈ row, ∃ e ∈ es, e.lab = x ∧ e.arm = true
theorem nodup_le : ∀ {l m : List Int}, l.Nodup → (∀ x ∈ l, x ∈ m) → l.length ≤ m.length
  | [], _, _, _ => Nat.zero_le _
  | a :: l, m, nd, h => by
    obtain ⟨n1, n2⟩ := List.nodup_cons.mp nd
    have hm := h a List.mem_cons_self
    have k := nodup_le (m := m.erase a) n2 fun x hx => (List.mem_erase_of_ne (show x ≠ a from fun z => n1 (z ▸ hx))).mpr (h x (List.mem_cons_of_mem _ hx))
    rw [List.length_erase_of_mem hm] at k
    have := List.length_pos_of_mem hm
    rw [List.length_cons]
    omega
theorem RowOk.len {es : List Ev} {row : List Int} (h : RowOk es row) : row.length ≤ es.length := by
  have := nodup_le (m := es.map (·.lab)) h.1 fun x hx => by
    obtain ⟨e, he, q, _⟩ := h.2 x hx
    exact List.mem_map.mpr ⟨e, he, q⟩
  rw [List.length_map] at this
  exact this
theorem SetOk.row {v : Sv} {es : List Ev} {row : List Int} (h : SetOk v es row) : RowOk es row := ⟨h.2.2.1, h.2.2.2.1⟩
end Wn
/-! the law's level: values, objects by places, what they stand for in the heap -/
namespace Wn
open PySem PySem.Spec PyProof.Rows L2 LamX He

/-- a place within a system -/
inductive Pth where
  | tabs | tab (p : Int) | ths | th (ser : Int) | ents (ser : Int) | ent (ser : Int) (i : Nat) | row (ser : Int)
  deriving DecidableEq
inductive Val where
  | non | bl (b : Bool) | int (i : Int) | str (x : Str) | tup (vs : List Val) | loc (n : Nat)
  /-- what stands within the system at n, as it is at its k-th state -/
  | vw (n k : Nat) (p : Pth)
inductive Ob where
  | lst (vs : List Val)
  | dct (kvs : List (Key × Val))
  | ro (vs : List Val)
  | rod (kvs : List (Key × Val))
  | sys (v : Sv)
  /-- a system whose dict at p is walked -/
  | sysL (v : Sv) (p : Pth)
  | ins (C : Str) (fs : List (Str × Val))
  | dtt (kvs : List (List Key × Val))
  | rodt (kvs : List (List Key × Val))
structure Mu where
  nx : Nat
  ob : Nat → Option Ob
  vr : Nat → Nat
def Mu.put (μ : Mu) (n : Nat) (o : Ob) : Mu := ⟨μ.nx, fun m => if m = n then some o else μ.ob m, match o with
  | .sys _ => fun m => if m = n then μ.vr m + 1 else μ.vr m
  | _ => μ.vr⟩
def Mu.new (μ : Mu) (o : Ob) : Mu := ⟨μ.nx + 1, fun m => if m = μ.nx then some o else μ.ob m, μ.vr⟩
theorem Mu.put_vrN (μ : Mu) {n m : Nat} (o : Ob) (h : m ≠ n) : (μ.put n o).vr m = μ.vr m := by
  cases o with
  | sys v => exact if_neg h
  | _ => rfl
theorem Mu.put_nx (μ : Mu) (n : Nat) (o : Ob) : (μ.put n o).nx = μ.nx := rfl
theorem Mu.new_nx (μ : Mu) (o : Ob) : (μ.new o).nx = μ.nx + 1 := rfl
theorem Mu.put_same (μ : Mu) (n : Nat) (o : Ob) : (μ.put n o).ob n = some o := if_pos rfl
theorem Mu.put_ne (μ : Mu) {n m : Nat} (o : Ob) (h : m ≠ n) : (μ.put n o).ob m = μ.ob m := if_neg h
theorem Mu.new_same (μ : Mu) (o : Ob) : (μ.new o).ob μ.nx = some o := if_pos rfl
theorem Mu.new_ne (μ : Mu) {m : Nat} (o : Ob) (h : m ≠ μ.nx) : (μ.new o).ob m = μ.ob m := if_neg h
/-- the places' addresses, the systems' parts -/
structure Adr where
  at_ : Nat → Addr
  sy : Nat → Sy
  /-- how many states each system had -/
  ver : Nat → Nat
instance : CoeFun Adr (fun _ => Nat → Addr) := ⟨Adr.at_⟩
structure Wt where
  ad : Adr
  /-- whose dict is locked at an address -/
  own : Addr → Nat
abbrev Wt.sy (w : Wt) : Nat → Sy := w.ad.sy
def Th.row : Th → Option Addr
  | ⟨_, .set _ _ R _ _⟩ => some R
  | _ => none
def Th.lst : Th → Option Addr
  | ⟨_, .set _ L _ _ _⟩ => some L
  | _ => none
def Th.ens : Th → List En
  | ⟨_, .set _ _ _ es _⟩ => es
  | _ => []
/-- where it stands -/
def pAdr (s : Sy) : Pth → Option Addr
  | .tabs => some s.T
  | .tab p => (lk s.tabs p).map (·.ad)
  | .ths => some s.G
  | .th ser => (lk s.ths ser).map (·.ad)
  | .ents ser => (lk s.ths ser).bind (·.lst)
  | .row ser => (lk s.ths ser).bind (·.row)
  | .ent ser i => (lk s.ths ser).bind fun t => t.ens[i]?.map (·.ad)

mutual
inductive VR (K : PySem.W.Frag) (ad : Adr) (b : Nat) (H : Hp) : Val → V → Prop
  | non : VR K ad b H .non .non
  | bl (x : Bool) : VR K ad b H (.bl x) (.bl x)
  | int (i : Int) : VR K ad b H (.int i) (.int i)
  | str (x : Str) : VR K ad b H (.str x) (.str x)
  | tup {a : Addr} {vs : List Val} {us : List V} : SqT K H a us → VRs K ad b H vs us → VR K ad b H (.tup vs) (.ref a)
  | loc {n : Nat} : n < b → VR K ad b H (.loc n) (.ref (ad n))
  | vw {n k : Nat} {p : Pth} {a : Addr} : n < b → k ≤ ad.ver n → (ad.ver n = k → pAdr (ad.sy n) p = some a) → VR K ad b H (.vw n k p) (.ref a)
inductive VRs (K : PySem.W.Frag) (ad : Adr) (b : Nat) (H : Hp) : List Val → List V → Prop
  | nil : VRs K ad b H [] []
  | cons {v : Val} {vs : List Val} {u : V} {us : List V} : VR K ad b H v u → VRs K ad b H vs us → VRs K ad b H (v :: vs) (u :: us)
end
structure Grow0 (K : PySem.W.Frag) (w : Wt) (b : Nat) (H : Hp) (w' : Wt) (b' : Nat) (H' : Hp) : Prop where
  le : b ≤ b'
  ad : ∀ n, n < b → w'.ad n = w.ad n
  vr : ∀ n, n < b → w.ad.ver n ≤ w'.ad.ver n ∧ (w'.ad.ver n = w.ad.ver n → w'.ad.sy n = w.ad.sy n)
  tp : ∀ a xs, SqT K H a xs → SqT K H' a xs
structure Grow (K : PySem.W.Frag) (w : Wt) (b : Nat) (H : Hp) (w' : Wt) (b' : Nat) (H' : Hp) : Prop extends Grow0 K w b H w' b' H' where
  fz : ∀ a o u, H a = some (.frz o u) → H' a = some (.frz o u)
theorem Grow.refl {K : PySem.W.Frag} {w : Wt} {b : Nat} {H : Hp} : Grow K w b H w b H := ⟨⟨Nat.le_refl _, fun _ _ => rfl, fun _ _ => ⟨Nat.le_refl _, fun _ => rfl⟩, fun _ _ h => h⟩, fun _ _ _ h => h⟩
theorem Grow.trans {K : PySem.W.Frag} {w w1 w2 : Wt} {b b1 b2 : Nat} {H H1 H2 : Hp} (x : Grow K w b H w1 b1 H1) (y : Grow K w1 b1 H1 w2 b2 H2) : Grow K w b H w2 b2 H2 :=
  ⟨⟨Nat.le_trans x.le y.le, fun n h => (y.ad n (Nat.lt_of_lt_of_le h x.le)).trans (x.ad n h), fun n h => by
    obtain ⟨x1, x2⟩ := x.vr n h
    obtain ⟨y1, y2⟩ := y.vr n (Nat.lt_of_lt_of_le h x.le)
    exact ⟨Nat.le_trans x1 y1, fun e => by
      have e1 : w1.ad.ver n = w.ad.ver n := Nat.le_antisymm (e ▸ y1) x1
      rw [y2 (e.trans e1.symm), x2 e1]⟩, fun a xs h => y.tp a xs (x.tp a xs h)⟩, fun a o u h => y.fz a o u (x.fz a o u h)⟩
mutual
theorem VR.grow0 {K : PySem.W.Frag} {w w' : Wt} {b b' : Nat} {H H' : Hp} (g : Grow0 K w b H w' b' H') : ∀ {v : Val} {u : V}, VR K w.ad b H v u → VR K w'.ad b' H' v u
  | _, _, .non => .non
  | _, _, .bl x => .bl x
  | _, _, .int x => .int x
  | _, _, .str x => .str x
  | _, _, .tup h r => .tup (g.tp _ _ h) (VRs.grow0 g r)
  | _, _, .loc (n := n) h => by
    have z := VR.loc (K := K) (ad := w'.ad) (H := H') (Nat.lt_of_lt_of_le h g.le)
    rw [g.ad n h] at z
    exact z
  | _, _, .vw (n := n) (k := k) h hk e => by
    obtain ⟨g1, g2⟩ := g.vr n h
    refine .vw (Nat.lt_of_lt_of_le h g.le) (Nat.le_trans hk g1) fun z => ?_
    have z1 : w.ad.ver n = k := Nat.le_antisymm (z ▸ g1) hk
    rw [g2 (z.trans z1.symm)]
    exact e z1
theorem VRs.grow0 {K : PySem.W.Frag} {w w' : Wt} {b b' : Nat} {H H' : Hp} (g : Grow0 K w b H w' b' H') : ∀ {v : List Val} {u : List V}, VRs K w.ad b H v u → VRs K w'.ad b' H' v u
  | _, _, .nil => .nil
  | _, _, .cons h r => .cons (VR.grow0 g h) (VRs.grow0 g r)
end
theorem VR.grow {K : PySem.W.Frag} {w w' : Wt} {b b' : Nat} {H H' : Hp} (g : Grow K w b H w' b' H') {v : Val} {u : V} (h : VR K w.ad b H v u) : VR K w'.ad b' H' v u := h.grow0 g.toGrow0
theorem VRs.grow {K : PySem.W.Frag} {w w' : Wt} {b b' : Nat} {H H' : Hp} (g : Grow K w b H w' b' H') {v : List Val} {u : List V} (h : VRs K w.ad b H v u) : VRs K w'.ad b' H' v u := h.grow0 g.toGrow0
section
variable {K : PySem.W.Frag} {ad : Adr} {b : Nat} {H : Hp}
theorem VRs.length : ∀ {vs : List Val} {us : List V}, VRs K ad b H vs us → us.length = vs.length
  | _, _, .nil => rfl
  | _, _, .cons _ r => by simp [r.length]
theorem VRs.get : ∀ {vs : List Val} {us : List V}, VRs K ad b H vs us → ∀ (i : Nat) (v : Val), vs[i]? = some v → ∃ u, us[i]? = some u ∧ VR K ad b H v u
  | _, _, .nil, _, _, h => by simp at h
  | _, _, .cons (u := u) h r, 0, v, e => by
    simp at e
    subst e
    exact ⟨u, by simp, h⟩
  | _, _, .cons _ r, i + 1, v, e => by
    obtain ⟨u, h1, h2⟩ := r.get i v (by simpa using e)
    exact ⟨u, by simpa using h1, h2⟩
theorem VRs.app : ∀ {vs vs' : List Val} {us us' : List V}, VRs K ad b H vs us → VRs K ad b H vs' us' → VRs K ad b H (vs ++ vs') (us ++ us')
  | _, _, _, _, .nil, s => s
  | _, _, _, _, .cons h r, s => .cons h (r.app s)
theorem VRs.one {v : Val} {u : V} (h : VR K ad b H v u) : VRs K ad b H [v] [u] := .cons h .nil
theorem VRs.take : ∀ {vs : List Val} {us : List V} (n : Nat), VRs K ad b H vs us → VRs K ad b H (vs.take n) (us.take n)
  | _, _, 0, _ => by simp; exact .nil
  | _, _, n + 1, .nil => by simp; exact .nil
  | _, _, n + 1, .cons h r => .cons h (r.take n)
theorem VRs.drop : ∀ {vs : List Val} {us : List V} (n : Nat), VRs K ad b H vs us → VRs K ad b H (vs.drop n) (us.drop n)
  | _, _, 0, r => r
  | _, _, n + 1, .nil => by simp; exact .nil
  | _, _, n + 1, .cons h r => r.drop n
theorem VRs.set : ∀ {vs : List Val} {us : List V} (n : Nat) {v : Val} {u : V}, VRs K ad b H vs us → VR K ad b H v u → VRs K ad b H (vs.set n v) (us.set n u)
  | _, _, _, _, _, .nil, _ => by simp; exact .nil
  | _, _, 0, _, _, .cons h r, q => .cons q r
  | _, _, n + 1, _, _, .cons h r, q => .cons h (r.set n q)
theorem VRs.erase : ∀ {vs : List Val} {us : List V} (n : Nat), VRs K ad b H vs us → VRs K ad b H (vs.eraseIdx n) (us.eraseIdx n)
  | _, _, _, .nil => by simp; exact .nil
  | _, _, 0, .cons h r => r
  | _, _, n + 1, .cons h r => .cons h (r.erase n)
theorem VRs.ints : ∀ (l : List Int), VRs K ad b H (l.map Val.int) (l.map V.int)
  | [] => .nil
  | _ :: l => .cons (.int _) (VRs.ints l)
theorem VRs.ints_eq : ∀ {l : List Int} {us : List V}, VRs K ad b H (l.map Val.int) us → us = l.map V.int
  | [], _, .nil => rfl
  | i :: l, _, .cons h r => by
    cases h
    rw [VRs.ints_eq r]
    rfl
theorem VRs.flat : ∀ (k : Nat) {vs : List Val} {us : List V}, VRs K ad b H vs us → VRs K ad b H (List.replicate k vs).flatten (List.replicate k us).flatten
  | 0, _, _, _ => .nil
  | k + 1, vs, us, h => by
    rw [List.replicate_succ, List.replicate_succ, List.flatten_cons, List.flatten_cons]
    exact h.app (VRs.flat k h)
end
/-- a list that is never written -/
def RoL (K : PySem.W.Frag) (H : Hp) (a : Addr) (us : List V) : Prop := (∃ o, H a = some (.frz o (.lst us))) ∨ ∃ (o : Obj) (its : Array Value) (n : Nat), K.lookup a = some o ∧ o.cls = .type "list" ∧ o.dict = none ∧ o.data = .seq its n ∧ its.size ≤ sizeLine ∧ Vals us its.toList
theorem RoL.sq {K : PySem.W.Frag} {H : Hp} {a : Addr} {us : List V} (h : RoL K H a us) : SqL K H a us := by
  rcases h with h | h
  · exact .inl (.inr h)
  · exact .inr h
/-- a system one of whose dicts is walked -/
def SyL (K : PySem.W.Frag) (H : Hp) (s : Sy) (p : Pth) (f : Addr → Prop) : Prop := ∃ d o us, pAdr s p = some d ∧ f d ∧ H d = some (.frz o (.dK us)) ∧ SyAt K (upd H d (.dK us)) s
def ObR (K : PySem.W.Frag) (w : Wt) (b : Nat) (H : Hp) (n : Nat) : Ob → Prop
  | .lst vs => ∃ us, H (w.ad n) = some (.lst us) ∧ VRs K w.ad b H vs us
  | .dct kvs => ∃ us, H (w.ad n) = some (.dK us) ∧ us.map (·.1) = kvs.map (·.1) ∧ VRs K w.ad b H (kvs.map (·.2)) (us.map (·.2))
  | .ro vs => ∃ us, RoL K H (w.ad n) us ∧ VRs K w.ad b H vs us
  | .rod kvs => w.own (w.ad n) = n ∧ ∃ o us, H (w.ad n) = some (.frz o (.dK us)) ∧ us.map (·.1) = kvs.map (·.1) ∧ VRs K w.ad b H (kvs.map (·.2)) (us.map (·.2))
  | .sys v => (w.sy n).p = w.ad n ∧ SyAt K H (w.sy n) ∧ (w.sy n).v = v ∧ WF v
  | .sysL v p => (w.sy n).p = w.ad n ∧ SyL K H (w.sy n) p (fun d => w.own d = n) ∧ (w.sy n).v = v ∧ WF v
  | .ins C fs => ∃ dx us, H (w.ad n) = some (.ins (ga K C) dx us) ∧ us.map (·.1) = fs.map (·.1) ∧ VRs K w.ad b H (fs.map (·.2)) (us.map (·.2))
  | .rodt kvs => w.own (w.ad n) = n ∧ ∃ o us, H (w.ad n) = some (.frz o (.dT us)) ∧ us.map (·.1) = kvs.map (·.1) ∧ VRs K w.ad b H (kvs.map (·.2)) (us.map (·.2))
  | .dtt kvs => ∃ us, H (w.ad n) = some (.dT us) ∧ us.map (·.1) = kvs.map (·.1) ∧ VRs K w.ad b H (kvs.map (·.2)) (us.map (·.2))
def ft (w : Wt) (n : Nat) : Option Ob → List Addr
  | some (.lst _) => [w.ad n]
  | some (.dct _) => [w.ad n]
  | some (.sys _) => (w.sy n).foot
  | some (.sysL _ p) => (w.sy n).foot.filter fun a => decide (pAdr (w.sy n) p ≠ some a)
  | some (.ins _ _) => [w.ad n]
  | some (.dtt _) => [w.ad n]
  | _ => []
/-- what may be written: a list, a dict, an instance -/
def isM : HO → Bool
  | .lst _ => true
  | .dK _ => true
  | .ins _ _ _ => true
  | .dT _ => true
  | _ => false
/-- the tables of code objects of the defs that make lambdas -/
def TbK (K : PySem.W.Frag) : List (Addr × Str) := lamL.map fun x => ((cT K (x, none)).2, x ++ ".<locals>." ++ "<lambda>")
theorem tabs_keep {K : PySem.W.Frag} {H H' : Hp} {T : List (Addr × Str)} (t : Tabs T H) (k : ∀ a o, H a = some o → isM o = false → H' a = some o) : Tabs T H' := fun p hp => by
  obtain ⟨ps, h1, h2, h3⟩ := t p hp
  refine ⟨ps, k _ _ h1 rfl, h2, fun pos cv hc => ?_⟩
  obtain ⟨c, e1, e2⟩ := h3 pos cv hc
  exact ⟨c, e1, k _ _ e2 rfl⟩
structure Sim (K : PySem.W.Frag) (w : Wt) (μ : Mu) (H : Hp) : Prop where
  bd : ∀ n, μ.nx ≤ n → μ.ob n = none
  vr : ∀ n, w.ad.ver n = μ.vr n
  ok : ∀ n o, μ.ob n = some o → ObR K w μ.nx H n o
  dj : ∀ n m, n ≠ m → ∀ a ∈ ft w n (μ.ob n), a ∉ ft w m (μ.ob m)
  tb : Tabs (TbK K) H
section
variable {K : PySem.W.Frag} {w w' : Wt} {μ : Mu} {H H' : Hp}
theorem Sim.lt (S : Sim K w μ H) {n : Nat} {o : Ob} (h : μ.ob n = some o) : n < μ.nx := by
  rcases Nat.lt_or_ge n μ.nx with z | z
  · exact z
  · rw [S.bd n z] at h
    cases h
theorem foot_m {s : Sy} (S : SyAt K H s) {a : Addr} (h : a ∈ s.foot) : ∃ o, H a = some o ∧ isM o = true := by
  rcases List.mem_cons.mp h with z | z
  · subst z
    exact ⟨_, S.ob, rfl⟩
  · rcases List.mem_append.mp z with z | z
    · obtain ⟨k, q⟩ := S.dc z
      exact ⟨_, q, rfl⟩
    · rcases List.mem_append.mp z with z | z
      · obtain ⟨C, dx, fs, _, _, q⟩ := S.th' z
        exact ⟨_, q, rfl⟩
      · rcases List.mem_append.mp z with z | z
        · obtain ⟨xs, q⟩ := S.ls z
          exact ⟨_, q, rfl⟩
        · obtain ⟨dx, fs, _, _, q⟩ := S.en z
          exact ⟨_, q, rfl⟩
theorem foot_l {s : Sy} {p : Pth} {f : Addr → Prop} (S : SyL K H s p f) {a : Addr} (h : a ∈ s.foot.filter fun a => decide (pAdr s p ≠ some a)) : ∃ o, H a = some o ∧ isM o = true := by
  obtain ⟨d, o, us, h1, h2, h3, h4⟩ := S
  obtain ⟨m1, m2⟩ := List.mem_filter.mp h
  have ne : a ≠ d := fun z => of_decide_eq_true m2 (by rw [h1, z])
  obtain ⟨o', e1, e2⟩ := foot_m h4 m1
  rw [upd_ne ne] at e1
  exact ⟨o', e1, e2⟩
theorem SyL.same {s : Sy} {p : Pth} {f f' : Addr → Prop} (S : SyL K H s p f) (hf : ∀ d, (∃ o u, H d = some (.frz o u)) → f d → f' d) (k : ∀ d o u, H d = some (.frz o u) → H' d = some (.frz o u)) (e : ∀ b o, H b = some o → b ∈ (s.foot.filter fun a => decide (pAdr s p ≠ some a)) → H' b = some o) : SyL K H' s p f' := by
  obtain ⟨d, o, us, h1, h2, h3, h4⟩ := S
  refine ⟨d, o, us, h1, hf d ⟨_, _, h3⟩ h2, k _ _ _ h3, h4.same fun b u hb mb => ?_⟩
  by_cases c : b = d
  · subst c
    rw [upd_same] at hb ⊢
    exact hb
  · rw [upd_ne c] at hb ⊢
    exact e b u hb (List.mem_filter.mpr ⟨mb, decide_eq_true fun z => c (by rw [h1] at z; exact (Option.some.inj z).symm)⟩)
theorem Sim.ftm (S : Sim K w μ H) {n : Nat} {a : Addr} (h : a ∈ ft w n (μ.ob n)) : ∃ o, H a = some o ∧ isM o = true := by
  cases e : μ.ob n with
  | none => rw [e] at h; cases h
  | some o =>
    have q := S.ok n o e
    rw [e] at h
    cases o with
    | lst vs =>
      obtain ⟨us, q, _⟩ := q
      cases List.mem_singleton.mp h
      exact ⟨_, q, rfl⟩
    | dct kvs =>
      obtain ⟨us, q, _⟩ := q
      cases List.mem_singleton.mp h
      exact ⟨_, q, rfl⟩
    | ro vs => cases h
    | rod kvs => cases h
    | rodt kvs => cases h
    | sys v => exact foot_m q.2.1 h
    | sysL v p => exact foot_l q.2.1 h
    | ins C fs =>
      obtain ⟨dx, us, q, _⟩ := q
      cases List.mem_singleton.mp h
      exact ⟨_, q, rfl⟩
    | dtt kvs =>
      obtain ⟨us, q, _⟩ := q
      cases List.mem_singleton.mp h
      exact ⟨_, q, rfl⟩
theorem sqt_keep (k : ∀ a o, H a = some o → isM o = false → H' a = some o) {a : Addr} {xs : List V} (h : SqT K H a xs) : SqT K H' a xs := by
  rcases h with (h | ⟨o, h⟩) | h
  · exact .inl (.inl (k _ _ h rfl))
  · exact .inl (.inr ⟨o, k _ _ h rfl⟩)
  · exact .inr h
theorem rol_keep (k : ∀ a o, H a = some o → isM o = false → H' a = some o) {a : Addr} {xs : List V} (h : RoL K H a xs) : RoL K H' a xs := by
  rcases h with ⟨o, h⟩ | h
  · exact .inl ⟨o, k _ _ h rfl⟩
  · exact .inr h
/-- an object whose part of the heap stands as before -/
theorem ObR.keep {b b' : Nat} {n : Nat} {o : Ob} (h : ObR K w b H n o) (g : Grow K w b H w' b' H') (hn : n < b) (hs : w'.sy n = w.sy n) (ho : ∀ a, (∃ o u, H a = some (.frz o u)) → w'.own a = w.own a) (k : ∀ a o, H a = some o → isM o = false → H' a = some o) (kf : ∀ a u, a ∈ ft w n (some o) → H a = some u → H' a = some u) : ObR K w' b' H' n o := by
  have ea := g.ad n hn
  cases o with
  | lst vs =>
    obtain ⟨us, h1, h2⟩ := h
    refine ⟨us, ?_, h2.grow g⟩
    rw [ea]
    exact kf _ _ (by simp [ft]) h1
  | dct kvs =>
    obtain ⟨us, h1, h2, h3⟩ := h
    refine ⟨us, ?_, h2, h3.grow g⟩
    rw [ea]
    exact kf _ _ (by simp [ft]) h1
  | ro vs =>
    obtain ⟨us, h1, h2⟩ := h
    refine ⟨us, ?_, h2.grow g⟩
    rw [ea]
    exact rol_keep k h1
  | rod kvs =>
    obtain ⟨h0, o, us, h1, h2, h3⟩ := h
    refine ⟨?_, o, us, ?_, h2, h3.grow g⟩
    · rw [ea, ho _ ⟨_, _, h1⟩]
      exact h0
    · rw [ea]
      exact k _ _ h1 rfl
  | rodt kvs =>
    obtain ⟨h0, o, us, h1, h2, h3⟩ := h
    refine ⟨?_, o, us, ?_, h2, h3.grow g⟩
    · rw [ea, ho _ ⟨_, _, h1⟩]
      exact h0
    · rw [ea]
      exact k _ _ h1 rfl
  | sys v =>
    obtain ⟨h1, h2, h3, h4⟩ := h
    refine ⟨by rw [ea, hs]; exact h1, by rw [hs]; exact h2.same fun b o e m => kf b o m e, by rw [hs]; exact h3, h4⟩
  | sysL v p =>
    obtain ⟨h1, h2, h3, h4⟩ := h
    refine ⟨by rw [ea, hs]; exact h1, ?_, by rw [hs]; exact h3, h4⟩
    rw [hs]
    exact h2.same (fun d hd e => by rw [ho d hd]; exact e) (fun d o u e => k _ _ e rfl) fun b o e m => kf b o m e
  | ins C fs =>
    obtain ⟨dx, us, h1, h2, h3⟩ := h
    refine ⟨dx, us, ?_, h2, h3.grow g⟩
    rw [ea]
    exact kf _ _ (by simp [ft]) h1
  | dtt kvs =>
    obtain ⟨us, h1, h2, h3⟩ := h
    refine ⟨us, ?_, h2, h3.grow g⟩
    rw [ea]
    exact kf _ _ (by simp [ft]) h1
/-- the heap grows -/
theorem Sim.same (S : Sim K w μ H) (e : Same H H') : Sim K w μ H' ∧ Grow K w μ.nx H w μ.nx H' := by
  have g : Grow K w μ.nx H w μ.nx H' := ⟨⟨Nat.le_refl _, fun _ _ => rfl, fun _ _ => ⟨Nat.le_refl _, fun _ => rfl⟩, fun a xs h => sqt_keep (fun a o h _ => e a o h) h⟩, fun a o u h => e _ _ h⟩
  exact ⟨⟨S.bd, S.vr, fun n o h => (S.ok n o h).keep g (S.lt h) rfl (fun _ _ => rfl) (fun a o h _ => e a o h) (fun a u _ h => e a u h), S.dj, S.tb.ext e⟩, g⟩
/-- one object changes -/
theorem Sim.step (S : Sim K w μ H) {n : Nat} {o o' : Ob} (hn : μ.ob n = some o) {μ' : Mu} (f1 : μ'.nx = μ.nx) (f2 : μ'.ob n = some o') (f3 : ∀ m, m ≠ n → μ'.ob m = μ.ob m) (hv : ∀ m, w'.ad.ver m = μ'.vr m) (ha : ∀ m, w'.ad m = w.ad m) (hw : ∀ m, w.ad.ver m ≤ w'.ad.ver m ∧ (w'.ad.ver m = w.ad.ver m → w'.ad.sy m = w.ad.sy m)) (hs : ∀ m, m ≠ n → w'.sy m = w.sy m) (k : ∀ a u, H a = some u → a ∉ ft w n (some o) → H' a = some u) (hf : ∀ a ∈ ft w' n (some o'), a ∈ ft w n (some o) ∨ H a = none)
    (hr : Grow K w μ.nx H w' μ.nx H' → ObR K w' μ.nx H' n o') (ho : ∀ a, (∃ o u, H a = some (.frz o u)) → w'.own a = w.own a := by exact fun _ _ => rfl) : Sim K w' μ' H' ∧ Grow K w μ.nx H w' μ.nx H' := by
  have fm : ∀ a ∈ ft w n (some o), ∃ u, H a = some u ∧ isM u = true := fun a h => S.ftm (n := n) (by rw [hn]; exact h)
  have km : ∀ a u, H a = some u → isM u = false → H' a = some u := fun a u h z => k a u h fun m => by
    obtain ⟨u', h', q⟩ := fm a m
    rw [h] at h'
    cases h'
    rw [z] at q
    cases q
  have g : Grow K w μ.nx H w' μ.nx H' := ⟨⟨Nat.le_refl _, fun m _ => ha m, fun m _ => hw m, fun a xs h => sqt_keep km h⟩, fun a o u h => km _ _ h rfl⟩
  have fo : ∀ m, m ≠ n → ∀ p, ft w' m p = ft w m p := fun m hm p => by
    unfold ft
    rw [ha, hs m hm]
  have disj : ∀ m, m ≠ n → ∀ a ∈ ft w' n (some o'), a ∉ ft w m (μ.ob m) := fun m hm a h z => by
    rcases hf a h with q | q
    · exact S.dj n m (Ne.symm hm) a (by rw [hn]; exact q) z
    · obtain ⟨u, h', _⟩ := S.ftm z
      rw [q] at h'
      cases h'
  refine ⟨⟨fun m h => ?_, hv, fun m p h => ?_, fun m1 m2 hm a h1 h2 => ?_, tabs_keep (K := K) S.tb km⟩, g⟩
  · rw [f1] at h
    have : m ≠ n := fun z => by
      have := S.lt hn
      rw [z] at h
      exact absurd this (Nat.not_lt.mpr h)
    rw [f3 _ this]
    exact S.bd m h
  · rw [f1]
    by_cases e : m = n
    · subst e
      rw [f2] at h
      cases h
      exact hr g
    · rw [f3 _ e] at h
      exact (S.ok m p h).keep g (S.lt h) (hs m e) ho km fun a u m' h' => k a u h' fun z => S.dj m n e a (by rw [h]; exact m') (by rw [hn]; exact z)
  · by_cases e1 : m1 = n
    · subst e1
      rw [f2] at h1
      rw [f3 _ (Ne.symm hm), fo m2 (Ne.symm hm)] at h2
      exact disj m2 (Ne.symm hm) a h1 h2
    · by_cases e2 : m2 = n
      · subst e2
        rw [f2] at h2
        rw [f3 _ e1, fo m1 e1] at h1
        exact disj m1 e1 a h2 h1
      · rw [f3 _ e1, fo m1 e1] at h1
        rw [f3 _ e2, fo m2 e2] at h2
        exact S.dj m1 m2 hm a h1 h2
def Wt.add (w : Wt) (n : Nat) (p : Addr) (s : Sy) : Wt := ⟨⟨fun m => if m = n then p else w.ad m, fun m => if m = n then s else w.sy m, w.ad.ver⟩, w.own⟩
theorem Wt.add_ad (w : Wt) (n : Nat) (p : Addr) (s : Sy) : (w.add n p s).ad n = p := if_pos rfl
theorem Wt.add_sy (w : Wt) (n : Nat) (p : Addr) (s : Sy) : (w.add n p s).sy n = s := if_pos rfl
theorem Wt.add_ne (w : Wt) {n m : Nat} (p : Addr) (s : Sy) (h : m ≠ n) : (w.add n p s).ad m = w.ad m ∧ (w.add n p s).sy m = w.sy m := ⟨if_neg h, if_neg h⟩
/-- an object that stands in the heap is taken in -/
theorem Sim.add (S : Sim K w μ H) {p : Addr} {s : Sy} {o : Ob} (hf : ∀ a ∈ ft (w.add μ.nx p s) μ.nx (some o), ∀ m, a ∉ ft w m (μ.ob m)) (hr : Grow K w μ.nx H (w.add μ.nx p s) (μ.nx + 1) H → ObR K (w.add μ.nx p s) (μ.nx + 1) H μ.nx o) :
    Sim K (w.add μ.nx p s) (μ.new o) H ∧ Grow K w μ.nx H (w.add μ.nx p s) (μ.nx + 1) H := by
  have g : Grow K w μ.nx H (w.add μ.nx p s) (μ.nx + 1) H := ⟨⟨Nat.le_succ _, fun n h => (w.add_ne p s (Nat.ne_of_lt h)).1, fun n h => ⟨Nat.le_refl _, fun _ => (w.add_ne p s (Nat.ne_of_lt h)).2⟩, fun _ _ h => h⟩, fun _ _ _ h => h⟩
  have fo : ∀ m, m ≠ μ.nx → ∀ q, ft (w.add μ.nx p s) m q = ft w m q := fun m hm q => by
    unfold ft
    rw [(w.add_ne p s hm).1, (w.add_ne p s hm).2]
  refine ⟨⟨fun m h => ?_, fun m => S.vr m, fun m q h => ?_, fun m1 m2 hm a h1 h2 => ?_, S.tb⟩, g⟩
  · have h : μ.nx + 1 ≤ m := h
    rw [Mu.new_ne _ _ (by omega)]
    exact S.bd m (by omega)
  · by_cases e : m = μ.nx
    · subst e
      rw [Mu.new_same] at h
      cases h
      exact hr g
    · rw [Mu.new_ne _ _ e] at h
      exact (S.ok m q h).keep g (S.lt h) (w.add_ne p s e).2 (fun _ _ => rfl) (fun _ _ h _ => h) (fun _ _ _ h => h)
  · by_cases e1 : m1 = μ.nx
    · subst e1
      rw [Mu.new_same] at h1
      rw [Mu.new_ne _ _ (Ne.symm hm), fo m2 (Ne.symm hm)] at h2
      exact hf a h1 m2 h2
    · by_cases e2 : m2 = μ.nx
      · subst e2
        rw [Mu.new_same] at h2
        rw [Mu.new_ne _ _ e1, fo m1 e1] at h1
        exact hf a h2 m1 h1
      · rw [Mu.new_ne _ _ e1, fo m1 e1] at h1
        rw [Mu.new_ne _ _ e2, fo m2 e2] at h2
        exact S.dj m1 m2 hm a h1 h2
/-- a new list is laid -/
theorem Sim.newL (S : Sim K w μ H) {p : Addr} (hp : H p = none) {vs : List Val} {us : List V} (r : VRs K w.ad μ.nx H vs us) : ∃ w', Sim K w' (μ.new (.lst vs)) (upd H p (.lst us)) ∧ Grow K w μ.nx H w' (μ.nx + 1) (upd H p (.lst us)) ∧ w'.ad μ.nx = p := by
  obtain ⟨S1, g1⟩ := S.same (H' := upd H p (.lst us)) (fun b o h => by rw [upd_ne (ne_of_none h hp)]; exact h)
  obtain ⟨S2, g2⟩ := S1.add (p := p) (s := w.sy 0) (o := .lst vs) (fun a ha m z => by
    have e : a = p := by simpa [ft, Wt.add] using ha
    subst e
    obtain ⟨u, h, _⟩ := S.ftm z
    rw [hp] at h
    cases h) (fun g => ⟨us, by rw [Wt.add_ad]; exact upd_same, (r.grow g1).grow g⟩)
  exact ⟨_, S2, g1.trans g2, Wt.add_ad ..⟩
/-- a new tuple is laid -/
theorem Sim.newT (S : Sim K w μ H) {p : Addr} (hp : H p = none) {vs : List Val} {us : List V} (r : VRs K w.ad μ.nx H vs us) : Sim K w μ (upd H p (.tup us)) ∧ Grow K w μ.nx H w μ.nx (upd H p (.tup us)) ∧ VR K w.ad μ.nx (upd H p (.tup us)) (.tup vs) (.ref p) := by
  obtain ⟨S1, g1⟩ := S.same (H' := upd H p (.tup us)) (fun b o h => by rw [upd_ne (ne_of_none h hp)]; exact h)
  exact ⟨S1, g1, .tup (SqT.of upd_same) (r.grow g1)⟩
/-- a list, a dict is written -/
theorem Sim.setL (S : Sim K w μ H) {n : Nat} {vs0 vs : List Val} {us : List V} (hn : μ.ob n = some (.lst vs0)) (r : VRs K w.ad μ.nx H vs us) : Sim K w (μ.put n (.lst vs)) (upd H (w.ad n) (.lst us)) ∧ Grow K w μ.nx H w μ.nx (upd H (w.ad n) (.lst us)) := by
  refine S.step hn rfl (Mu.put_same _ _ _) (fun m h => Mu.put_ne _ _ h) S.vr (fun _ => rfl) (fun _ => ⟨Nat.le_refl _, fun _ => rfl⟩) (fun _ _ => rfl) (fun a u h m => ?_) (fun a h => .inl h) (fun g => ⟨us, upd_same, r.grow g⟩)
  rw [upd_ne (fun z => m (by simp [ft, z]))]
  exact h
theorem Sim.setD (S : Sim K w μ H) {n : Nat} {k0 kvs : List (Key × Val)} {us : List (Key × V)} (hn : μ.ob n = some (.dct k0)) (hk : us.map (·.1) = kvs.map (·.1)) (r : VRs K w.ad μ.nx H (kvs.map (·.2)) (us.map (·.2))) : Sim K w (μ.put n (.dct kvs)) (upd H (w.ad n) (.dK us)) ∧ Grow K w μ.nx H w μ.nx (upd H (w.ad n) (.dK us)) := by
  refine S.step hn rfl (Mu.put_same _ _ _) (fun m h => Mu.put_ne _ _ h) S.vr (fun _ => rfl) (fun _ => ⟨Nat.le_refl _, fun _ => rfl⟩) (fun _ _ => rfl) (fun a u h m => ?_) (fun a h => .inl h) (fun g => ⟨us, upd_same, hk, r.grow g⟩)
  rw [upd_ne (fun z => m (by simp [ft, z]))]
  exact h
/-- a new system is taken in -/
theorem Sim.newS (S : Sim K w μ H) {v : Sv} {s : Sy} (e : Same H H') (h1 : SyAt K H' s) (h2 : s.v = v) (h3 : WF v) (f : ∀ c ∈ s.foot, H c = none) : ∃ w', Sim K w' (μ.new (.sys v)) H' ∧ Grow K w μ.nx H w' (μ.nx + 1) H' ∧ w'.ad μ.nx = s.p := by
  obtain ⟨S1, g1⟩ := S.same e
  obtain ⟨S2, g2⟩ := S1.add (p := s.p) (s := s) (o := .sys v) (fun a ha m z => by
    have ha : a ∈ ((w.add μ.nx s.p s).sy μ.nx).foot := ha
    rw [Wt.add_sy] at ha
    obtain ⟨u, h, _⟩ := S.ftm z
    rw [f a ha] at h
    cases h) (fun g => by
    show ((w.add μ.nx s.p s).sy μ.nx).p = (w.add μ.nx s.p s).ad μ.nx ∧ SyAt K H' ((w.add μ.nx s.p s).sy μ.nx) ∧ ((w.add μ.nx s.p s).sy μ.nx).v = v ∧ WF v
    rw [Wt.add_sy, Wt.add_ad]
    exact ⟨rfl, h1, h2, h3⟩)
  exact ⟨_, S2, g1.trans g2, Wt.add_ad ..⟩
end
section
variable {K : PySem.W.Frag} {w w' : Wt} {μ : Mu} {H H' : Hp} {n : Nat} {kvs : List (Key × Val)} {us : List (Key × V)} {o : Obj}
end
section
variable {K : PySem.W.Frag} {w w' : Wt} {μ : Mu} {H H' : Hp} {n : Nat} {kvs : List (List Key × Val)} {us : List (List Key × V)} {o : Obj}
end
end Wn
/-! the law's level: expressions -/
namespace Wn
open PySem PySem.Spec PyProof.Rows L2 LamX He

inductive R (α : Type) where
  | ok (a : α) (μ : Mu)
  | er (c : Str) (fs : List (Str × Val)) (μ : Mu)
  | no
def R.bind {α β : Type} (r : R α) (k : α → Mu → R β) : R β := match r with
  | .ok a μ => k a μ
  | .er c fs μ => .er c fs μ
  | .no => .no
@[simp] theorem R.bind_ok {α β : Type} (a : α) (μ : Mu) (k : α → Mu → R β) : (R.ok a μ).bind k = k a μ := rfl
@[simp] theorem R.bind_no {α β : Type} (k : α → Mu → R β) : (R.no : R α).bind k = .no := rfl
@[simp] theorem R.bind_er {α β : Type} (c : Str) (fs : List (Str × Val)) (μ : Mu) (k : α → Mu → R β) : (R.er c fs μ : R α).bind k = .er c fs μ := rfl
abbrev Rho := List (Option Val)
abbrev ME := Rho → Mu → R Val
abbrev MA := Rho → Mu → R (List Val)
abbrev MT := Rho → Mu → R Bool
def EnvR (K : PySem.W.Frag) (w : Wt) (b : Nat) (H : Hp) (ρ : Rho) (σ : L2.St) : Prop := ρ.length = σ.length ∧ ∀ (i : Nat) (v : Val), ρ[i]? = some (some v) → ∃ u : V, σ[i]? = some (some u) ∧ VR K w.ad b H v u
theorem EnvR.grow {K : PySem.W.Frag} {w w' : Wt} {b b' : Nat} {H H' : Hp} {ρ : Rho} {σ : L2.St} (h : EnvR K w b H ρ σ) (g : Grow K w b H w' b' H') : EnvR K w' b' H' ρ σ :=
  ⟨h.1, fun i v e => let ⟨u, q, r⟩ := h.2 i v e; ⟨u, q, r.grow g⟩⟩
theorem EnvR.set {K : PySem.W.Frag} {w : Wt} {b : Nat} {H : Hp} {ρ : Rho} {σ : L2.St} (h : EnvR K w b H ρ σ) (i : Nat) {v : Val} {u : V} (r : VR K w.ad b H v u) : EnvR K w b H (ρ.set i (some v)) (σ.set i (some u)) := by
  refine ⟨by rw [List.length_set, List.length_set]; exact h.1, fun j x e => ?_⟩
  rw [List.getElem?_set] at e ⊢
  by_cases c : i = j
  · subst c
    by_cases d : i < ρ.length
    · rw [if_pos rfl, if_pos d] at e
      cases e
      exact ⟨u, by rw [if_pos rfl, if_pos (by rw [← h.1]; exact d)], r⟩
    · rw [if_pos rfl, if_neg d] at e
      cases e
  · rw [if_neg c] at e ⊢
    exact h.2 j x e
section
variable {K : PySem.W.Frag} {α β γ δ : Type}
abbrev Rel (α β : Type) := Wt → Nat → Hp → α → β → Prop
def relE (K : PySem.W.Frag) : Rel Val V := fun w b H v u => VR K w.ad b H v u
def relA (K : PySem.W.Frag) : Rel (List Val) (List V) := fun w b H v u => VRs K w.ad b H v u
def relT : Rel Bool Bool := fun _ _ _ v u => v = u
def Post (K : PySem.W.Frag) (rel : Rel α β) (E : XK) (w : Wt) (b : Nat) (H : Hp) (Q : β → Hp → Prop) : R α → Prop
  | .ok a μ' => ∀ w' H' u, Sim K w' μ' H' → rel w' μ'.nx H' a u → Grow K w b H w' μ'.nx H' → Q u H'
  | .er c fs μ' => ∀ w' H' d us, Sim K w' μ' H' → Grow K w b H w' μ'.nx H' → H' d = some (.xd us) → us.map (·.1) = fs.map (·.1) → VRs K w'.ad μ'.nx H' (fs.map (·.2)) (us.map (·.2)) → E (.ref (ga K c)) (some d) H'
  | .no => False
theorem Post.grow {rel : Rel α β} {E : XK} {w w1 : Wt} {b b1 : Nat} {H H1 : Hp} {Q : β → Hp → Prop} {r : R α} (h : Post K rel E w b H Q r) (g : Grow K w b H w1 b1 H1) : Post K rel E w1 b1 H1 Q r := by
  cases r with
  | ok a μ => exact fun w' H' u S r g' => h w' H' u S r (g.trans g')
  | er c fs μ => exact fun w' H' d us S g' => h w' H' d us S (g.trans g')
  | no => exact h
theorem Post.bind {rel : Rel α β} {rel' : Rel γ δ} {E : XK} {w : Wt} {b : Nat} {H : Hp} {Q : δ → Hp → Prop} {Q1 : β → Hp → Prop} {r : R α} {k : α → Mu → R γ} (h : Post K rel' E w b H Q (r.bind k))
    (f : ∀ a μ1 w1 H1 u1, Sim K w1 μ1 H1 → rel w1 μ1.nx H1 a u1 → Grow K w b H w1 μ1.nx H1 → Post K rel' E w1 μ1.nx H1 Q (k a μ1) → Q1 u1 H1) : Post K rel E w b H Q1 r := by
  cases r with
  | ok a μ1 => exact fun w1 H1 u1 S r g => f a μ1 w1 H1 u1 S r g (Post.grow h g)
  | er c fs μ => exact h
  | no => exact h.elim
def tM (K : PySem.W.Frag) (rel : Rel α β) (E : XK) (m : Rho → Mu → R α) : L2.St → Hp → (β → Hp → Prop) → Prop := fun σ H Q => ∃ w ρ μ, Sim K w μ H ∧ EnvR K w μ.nx H ρ σ ∧ Post K rel E w μ.nx H Q (m ρ μ)
end
def PM (X : Cx) (E : XK) (e : Expr) (m : ME) : Prop := PE X e (tM X.K (relE X.K) E m)
def PMA (X : Cx) (E : XK) (es : List Expr) (m : MA) : Prop := PA X es (tM X.K (relA X.K) E m)
def PMT (X : Cx) (E : XK) (e : Expr) (m : MT) : Prop := PT X e (tM X.K relT E m)
theorem PE.imp {X : Cx} {e : Expr} {t t0 : TE} (h : PE X e t) (i : ∀ σ H Q, t0 σ H Q → t σ H Q) : PE X e t0 := ⟨fun pins s σ H Q I hw => h.run pins s σ H Q I (i σ H Q hw)⟩
theorem PA.imp {X : Cx} {e : List Expr} {t t0 : TA} (h : PA X e t) (i : ∀ σ H Q, t0 σ H Q → t σ H Q) : PA X e t0 := ⟨fun pos pins s σ H Q I hw => h.run pos pins s σ H Q I (i σ H Q hw)⟩
theorem PT.imp {X : Cx} {e : Expr} {t t0 : TT} (h : PT X e t) (i : ∀ σ H Q, t0 σ H Q → t σ H Q) : PT X e t0 := ⟨fun pins s σ H Q I hw => h.run pins s σ H Q I (i σ H Q hw)⟩
theorem PW.imp {X : Cx} {e : Expr} {t t0 : TT} (h : PW X e t) (i : ∀ σ H Q, t0 σ H Q → t σ H Q) : PW X e t0 := ⟨fun e' pins s σ H Q I hw => h.run e' pins s σ H Q I (i σ H Q hw)⟩

/-! ### the words of the level -/
def mC (v : Val) : ME := fun _ μ => .ok v μ
def mV (i : Nat) : ME := fun ρ μ => match ρ[i]? with
  | some (some v) => .ok v μ
  | _ => .no
def mNil : MA := fun _ μ => .ok [] μ
def mCons (a : ME) (r : MA) : MA := fun ρ μ => (a ρ μ).bind fun x μ => (r ρ μ).bind fun xs μ => .ok (x :: xs) μ
def mTup (a : MA) : ME := fun ρ μ => (a ρ μ).bind fun xs μ => if xs.length ≤ 1000 then .ok (.tup xs) μ else .no
def mLst (a : MA) : ME := fun ρ μ => (a ρ μ).bind fun xs μ => if xs.length ≤ 1000 then .ok (.loc μ.nx) (μ.new (.lst xs)) else .no
def mOp (f : Val → Val → Mu → R Val) (a b : ME) : ME := fun ρ μ => (a ρ μ).bind fun x μ => (b ρ μ).bind fun y μ => f x y μ
def mUn (f : Val → Mu → R Val) (a : ME) : ME := fun ρ μ => (a ρ μ).bind fun x μ => f x μ
def mFn (f : List Val → Mu → R Val) (a : MA) : ME := fun ρ μ => (a ρ μ).bind fun xs μ => f xs μ
def mMt (f : Val → List Val → Mu → R Val) (o : ME) (a : MA) : ME := fun ρ μ => (o ρ μ).bind fun x μ => (a ρ μ).bind fun xs μ => f x xs μ
def boolM : Val → Mu → R Bool
  | .bl b, μ => .ok b μ
  | _, _ => .no
def mTest (m : ME) : MT := fun ρ μ => (m ρ μ).bind boolM
def mAnd (a b : MT) : MT := fun ρ μ => (a ρ μ).bind fun c μ => if c = true then b ρ μ else .ok false μ
def mOr (a b : MT) : MT := fun ρ μ => (a ρ μ).bind fun c μ => if c = true then .ok true μ else b ρ μ
def mNot (a : MT) : MT := fun ρ μ => (a ρ μ).bind fun c μ => .ok (!c) μ
def mIf (c : MT) (a b : ME) : ME := fun ρ μ => (c ρ μ).bind fun k μ => if k = true then a ρ μ else b ρ μ
/-- a test as a value -/
def mBl (m : MT) : ME := fun ρ μ => (m ρ μ).bind fun k μ => .ok (.bl k) μ

section
variable {X : Cx} {E : XK} {e a b : Expr} {es : List Expr} {ma mb : ME} {mr : MA} {pos : Pos}
theorem pm_var {i : Nat} (h : PE X e (tVar i)) : PM X E e (mV i) := PE.imp h fun σ H Q ⟨w, ρ, μ, S, EN, hp⟩ => by
  unfold mV at hp
  split at hp
  · rename_i v hv
    obtain ⟨u, h1, h2⟩ := EN.2 _ _ hv
    exact ⟨u, h1, hp w H u S h2 .refl⟩
  · exact hp.elim
theorem pm_c {v : Val} {u : V} (h : PE X e (tC u)) (r : ∀ w b H, VR X.K w b H v u) : PM X E e (mC v) := PE.imp h fun σ H Q ⟨w, ρ, μ, S, EN, hp⟩ => hp w H u S (r _ _ _) .refl
theorem pm_int {i j} : PM X E (.Constant (.int i) j pos) (mC (.int i)) := pm_c pe_int fun _ _ _ => .int _
theorem pm_bl {i j} : PM X E (.Constant (.bool i) j pos) (mC (.bl i)) := pm_c pe_bl fun _ _ _ => .bl _
theorem pm_non {j} : PM X E (.Constant .none j pos) (mC .non) := pm_c pe_non fun _ _ _ => .non
theorem pm_str {x j} : PM X E (.Constant (.str x) j pos) (mC (.str x)) := pm_c pe_str fun _ _ _ => .str _
theorem pma_nil : PMA X E [] mNil := PA.imp pa_nil fun σ H Q ⟨w, ρ, μ, S, EN, hp⟩ => hp w H [] S .nil .refl
theorem pma_cons (ha : PM X E e ma) (hr : PMA X E es mr) (hs : starEach (e :: es) X.env = (false, eval e X.env) :: starEach es X.env := by rfl) : PMA X E (e :: es) (mCons ma mr) :=
  PA.imp (pa_cons ha hr hs) fun σ H Q ⟨w, ρ, μ, S, EN, hp⟩ => ⟨w, ρ, μ, S, EN, Post.bind hp fun x μ1 w1 H1 u1 S1 r1 g1 h1 => ⟨w1, ρ, μ1, S1, EN.grow g1, Post.bind h1 fun xs μ2 w2 H2 u2 S2 r2 g2 h2 => h2 w2 H2 _ S2 (.cons (VR.grow g2 r1) r2) .refl⟩⟩
theorem lim1000 {n : Nat} (h : n ≤ 1000) : n ≤ sizeLine := Nat.le_trans h (by decide)
theorem lim6 {n : Nat} (h : n ≤ 1000000) : n < sizeLine := Nat.lt_of_le_of_lt h (by decide)
theorem pm_tup {x1} (h : PMA X E es mr) : PM X E (.Tuple es x1 pos) (mTup mr) :=
  PE.imp (pe_tup h) fun σ H Q ⟨w, ρ, μ, S, EN, hp⟩ => ⟨w, ρ, μ, S, EN, Post.bind hp fun xs μ1 w1 H1 u1 S1 r1 g1 h1 => by
    split at h1
    · rename_i hz
      refine ⟨by rw [VRs.length r1]; exact lim1000 hz, fun p np => ?_⟩
      obtain ⟨S2, g2, v2⟩ := S1.newT np r1
      exact h1 w1 _ _ S2 v2 g2
    · exact h1.elim⟩
theorem pm_lst (h : PMA X E es mr) : PM X E (.List es pos) (mLst mr) :=
  PE.imp (pe_lst h) fun σ H Q ⟨w, ρ, μ, S, EN, hp⟩ => ⟨w, ρ, μ, S, EN, Post.bind hp fun xs μ1 w1 H1 u1 S1 r1 g1 h1 => by
    split at h1
    · rename_i hz
      refine ⟨by rw [VRs.length r1]; exact lim1000 hz, fun p np => ?_⟩
      obtain ⟨w2, S2, g2, e2⟩ := S1.newL np r1
      exact h1 w2 _ _ S2 (by rw [← e2]; exact VR.loc (Nat.lt_succ_self _)) g2
    · exact h1.elim⟩
/-- an operator by values -/
def Prim2 (K : PySem.W.Frag) (r : R2) (f : Val → Val → Mu → R Val) : Prop := ∀ (E : XK) (w : Wt) (μ : Mu) (H : Hp) (x y : Val) (u v : V) (Q : VK), Sim K w μ H → VR K w.ad μ.nx H x u → VR K w.ad μ.nx H y v → Post K (relE K) E w μ.nx H Q (f x y μ) → r u v H Q
def PrimA (K : PySem.W.Frag) (r : List V → Hp → VK → Prop) (f : List Val → Mu → R Val) : Prop := ∀ (E : XK) (w : Wt) (μ : Mu) (H : Hp) (xs : List Val) (us : List V) (Q : VK), Sim K w μ H → VRs K w.ad μ.nx H xs us → Post K (relE K) E w μ.nx H Q (f xs μ) → r us H Q
structure BinP (X : Cx) (op : Operator) (f : Val → Val → Mu → R Val) : Prop where
  ex : ∃ r, OpR X (binaryOp op) r ∧ Prim2 X.K r f
structure CmpP (X : Cx) (op : CmpOp) (f : Val → Val → Mu → R Val) : Prop where
  ex : ∃ r, OpR X (compareOp op) r ∧ Prim2 X.K r f
theorem pm_bin {op : Operator} {f : Val → Val → Mu → R Val} (h : BinP X op f) (ha : PM X E a ma) (hb : PM X E b mb) : PM X E (.BinOp a op b pos) (mOp f ma mb) := by
  obtain ⟨r, ho, hf⟩ := h.ex
  exact PE.imp (pe_op ho ha hb) fun σ H Q ⟨w, ρ, μ, S, EN, hp⟩ => ⟨w, ρ, μ, S, EN, Post.bind hp fun x μ1 w1 H1 u1 S1 r1 g1 h1 => ⟨w1, ρ, μ1, S1, EN.grow g1, Post.bind h1 fun y μ2 w2 H2 u2 S2 r2 g2 h2 => hf E w2 μ2 H2 x y u1 u2 Q S2 (VR.grow g2 r1) r2 h2⟩⟩
theorem pm_cmp {op : CmpOp} {f : Val → Val → Mu → R Val} (h : CmpP X op f) (ha : PM X E a ma) (hb : PM X E b mb) (hm : behindInMarks op b = false := by first | exact nomark _ | rfl) : PM X E (.Compare a [op] [b] pos) (mOp f ma mb) := by
  obtain ⟨r, ho, hf⟩ := h.ex
  exact PE.imp (pe_cmpR ho ha hb hm) fun σ H Q ⟨w, ρ, μ, S, EN, hp⟩ => ⟨w, ρ, μ, S, EN, Post.bind hp fun x μ1 w1 H1 u1 S1 r1 g1 h1 => ⟨w1, ρ, μ1, S1, EN.grow g1, Post.bind h1 fun y μ2 w2 H2 u2 S2 r2 g2 h2 => hf E w2 μ2 H2 x y u1 u2 Q S2 (VR.grow g2 r1) r2 h2⟩⟩
theorem post_test {K : PySem.W.Frag} {w : Wt} {n : Nat} {H : Hp} {Q : Bool → Hp → Prop} {r : R Val} (h : Post K relT E w n H Q (r.bind boolM)) : Post K (relE K) E w n H (fun x H' => ∃ k, x = .bl k ∧ Q k H') r :=
  Post.bind h fun x μ1 w1 H1 u1 S1 r1 g1 h1 => by
    cases x with
    | bl k =>
      cases r1
      exact ⟨k, rfl, h1 w1 H1 k S1 rfl .refl⟩
    | _ => exact h1.elim
theorem pmt_cmp {op : CmpOp} {f : Val → Val → Mu → R Val} (h : CmpP X op f) (ha : PM X E a ma) (hb : PM X E b mb) (hm : behindInMarks op b = false := by first | exact nomark _ | rfl) : PMT X E (.Compare a [op] [b] pos) (mTest (mOp f ma mb)) := by
  obtain ⟨r, ho, hf⟩ := h.ex
  refine PT.imp (pt_cmpR ho ha hb hm) fun σ H Q ⟨w, ρ, μ, S, EN, hp⟩ => ?_
  have hp2 := post_test hp
  exact ⟨w, ρ, μ, S, EN, Post.bind hp2 fun x μ1 w1 H1 u1 S1 r1 g1 h1 => ⟨w1, ρ, μ1, S1, EN.grow g1, Post.bind h1 fun y μ2 w2 H2 u2 S2 r2 g2 h2 => hf E w2 μ2 H2 x y u1 u2 _ S2 (VR.grow g2 r1) r2 h2⟩⟩
theorem pmt_val (ha : PM X E a ma) (he : ∀ whole, isTrue a X.env whole = (do let v ← whole; standAt a.pos; holding [v] (truthy v)) := by intro _; rfl) : PMT X E a (mTest ma) :=
  PT.imp (pt_val ha he) fun σ H Q ⟨w, ρ, μ, S, EN, hp⟩ => ⟨w, ρ, μ, S, EN, post_test hp⟩
variable {ta tb : MT} {rest : List Expr}
def PMW (X : Cx) (E : XK) (e : Expr) (m : MT) : Prop := PW X e (tM X.K relT E m)
theorem PMW.t (h : PMW X E e ta) : PMT X E e ta := PW.pt h
theorem pmw_or1 (ha : PMT X E a ta) : PMW X E (.BoolOp .Or [a] pos) ta := pw_or1 ha
theorem pmw_or (ha : PMT X E a ta) (hb : PMW X E (.BoolOp .Or (b :: rest) pos) tb) : PMW X E (.BoolOp .Or (a :: b :: rest) pos) (mOr ta tb) :=
  PW.imp (pw_or ha hb) fun σ H Q ⟨w, ρ, μ, S, EN, hp⟩ => ⟨w, ρ, μ, S, EN, Post.bind hp fun x μ1 w1 H1 u1 S1 r1 g1 h1 => by
    cases r1
    cases x with
    | true => exact iteT (h1 w1 H1 true S1 rfl .refl)
    | false => exact iteF ⟨w1, ρ, μ1, S1, EN.grow g1, h1⟩⟩
theorem pmt_not (ha : PMT X E a ta) : PMT X E (.UnaryOp .Not a pos) (mNot ta) :=
  PT.imp (pt_not ha) fun σ H Q ⟨w, ρ, μ, S, EN, hp⟩ => ⟨w, ρ, μ, S, EN, Post.bind hp fun x μ1 w1 H1 u1 S1 r1 g1 h1 => by
    cases r1
    exact h1 w1 H1 _ S1 rfl .refl⟩
theorem pm_ifExp {c : Expr} (hc : PMT X E c ta) (ha : PM X E a ma) (hb : PM X E b mb) : PM X E (.IfExp c a b pos) (mIf ta ma mb) :=
  PE.imp (pe_ifExp hc ha hb) fun σ H Q ⟨w, ρ, μ, S, EN, hp⟩ => ⟨w, ρ, μ, S, EN, Post.bind hp fun x μ1 w1 H1 u1 S1 r1 g1 h1 => by
    cases r1
    cases x with
    | true => exact iteT ⟨w1, ρ, μ1, S1, EN.grow g1, h1⟩
    | false => exact iteF ⟨w1, ρ, μ1, S1, EN.grow g1, h1⟩⟩
/-- x and y, x or y, not x of truths, as values -/
def mAndV (a b : ME) : ME := fun ρ μ => (a ρ μ).bind fun x μ => (boolM x μ).bind fun c μ => if c = true then b ρ μ else .ok (.bl false) μ
def mOrV (a b : ME) : ME := fun ρ μ => (a ρ μ).bind fun x μ => (boolM x μ).bind fun c μ => if c = true then .ok (.bl true) μ else b ρ μ
def mNotV (a : ME) : ME := fun ρ μ => (a ρ μ).bind fun x μ => (boolM x μ).bind fun c μ => .ok (.bl (!c)) μ
theorem pm_one {op} (h : PM X E a ma) : PM X E (.BoolOp op [a] pos) ma := pe_one h
/-- calls by values -/
theorem pm_callB {id : String} {x : Str} {r : List V → Hp → VK → Prop} {f : List Val → Mu → R Val} {p : Pos} (hc : CallR X (.builtin id) r) (hf : PrimA X.K r f) (hg : Gl X x) (hm : X.mg x = none) (hv : bootBuiltins x = some (.builtin id)) (ha : PMA X E (e :: es) mr) (hn : x ≠ "__name__" := by decide) (hdb : (x == ("__debug__" : Str)) = false := by decide)
    (he : starEach (e :: es) X.env = (false, eval e X.env) :: starEach es X.env := by rfl) (hpl : (backTo pos (starEach es X.env)).any (·.1) = false := by rfl) : PM X E (.Call (.Name x p) (e :: es) [] pos) (mFn f mr) :=
  PE.imp (pe_callB hc hg hm hv ha hn hdb he hpl) fun σ H Q ⟨w, ρ, μ, S, EN, hp⟩ => ⟨w, ρ, μ, S, EN, Post.bind hp fun xs μ1 w1 H1 u1 S1 r1 g1 h1 => hf E w1 μ1 H1 xs u1 Q S1 r1 h1⟩
theorem pm_callTy {T : String} {x : Str} {r : List V → Hp → VK → Prop} {f : List Val → Mu → R Val} {p : Pos} (hc : CallR X (.type T) r) (hf : PrimA X.K r f) (hg : Gl X x) (hm : X.mg x = none) (hv : bootBuiltins x = some (.type T)) (ha : PMA X E (e :: es) mr) (hn : x ≠ "__name__" := by decide) (hdb : (x == ("__debug__" : Str)) = false := by decide)
    (he : starEach (e :: es) X.env = (false, eval e X.env) :: starEach es X.env := by rfl) (hpl : (backTo pos (starEach es X.env)).any (·.1) = false := by rfl) : PM X E (.Call (.Name x p) (e :: es) [] pos) (mFn f mr) :=
  PE.imp (pe_callTy hc hg hm hv ha hn hdb he hpl) fun σ H Q ⟨w, ρ, μ, S, EN, hp⟩ => ⟨w, ρ, μ, S, EN, Post.bind hp fun xs μ1 w1 H1 u1 S1 r1 g1 h1 => hf E w1 μ1 H1 xs u1 Q S1 r1 h1⟩
end
end Wn
/-! the law's level: operators by values -/
namespace Wn
open PySem PySem.Spec PyProof.Rows L2 LamX He

/-! ### arithmetic -/
instance (i j : Int) : Decidable (CMul i j) := by unfold CMul; infer_instance
instance (i j : Int) : Decidable (CDiv i j) := by unfold CDiv; infer_instance
instance (i j : Int) : Decidable (CPow i j) := by unfold CPow; infer_instance
def addM : Val → Val → Mu → R Val
  | .int i, .int j, μ => .ok (.int (i + j)) μ
  | .str a, .str b, μ => if a.length + b.length ≤ 1000000 then .ok (.str (a ++ b)) μ else .no
  | .tup a, .tup b, μ => if a ≠ [] ∧ a.length + b.length ≤ 1000000 then .ok (.tup (a ++ b)) μ else .no
  | .loc n, .loc m, μ => match μ.ob n, μ.ob m with
    | some (.lst a), some (.lst b) => if a.length + b.length ≤ 1000000 then .ok (.loc μ.nx) (μ.new (.lst (a ++ b))) else .no
    | _, _ => .no
  | _, _, _ => .no
def subM : Val → Val → Mu → R Val
  | .int i, .int j, μ => .ok (.int (i - j)) μ
  | _, _, _ => .no
def mulM : Val → Val → Mu → R Val
  | .int i, .int j, μ => if CMul i j then .ok (.int (i * j)) μ else .no
  | .loc n, .int k, μ => match μ.ob n with
    | some (.lst a) => if 0 ≤ k ∧ k ≤ 1000 ∧ a.length ≤ 1000 then .ok (.loc μ.nx) (μ.new (.lst (List.replicate k.toNat a).flatten)) else .no
    | _ => .no
  | _, _, _ => .no
def modM : Val → Val → Mu → R Val
  | .int i, .int j, μ => if 0 < j then .ok (.int (i % j)) μ else .no
  | _, _, _ => .no
def fdivM : Val → Val → Mu → R Val
  | .int i, .int j, μ => if CDiv i j then .ok (.int (i / j)) μ else .no
  | _, _, _ => .no
def powM : Val → Val → Mu → R Val
  | .int i, .int j, μ => if CPow i j then .ok (.int (i ^ j.toNat)) μ else .no
  | _, _, _ => .no
section
variable {X : Cx}
theorem vr_tup {K : PySem.W.Frag} {ad : Adr} {b : Nat} {H : Hp} {vs : List Val} {u : V} (h : VR K ad b H (.tup vs) u) : ∃ a us, u = .ref a ∧ SqT K H a us ∧ VRs K ad b H vs us := by
  cases h with
  | tup h r => exact ⟨_, _, rfl, h, r⟩
theorem b_add : BinP X .Add addM := by
  refine ⟨_, (op_add.or (op_add_str.or (op_cat.or op_catT))), ?_⟩
  intro E w μ H x y u v Q S hx hy hp
  unfold addM at hp
  split at hp
  · cases hx; cases hy
    exact .inl ⟨_, _, rfl, rfl, hp w H _ S (.int _) .refl⟩
  · cases hx; cases hy
    split at hp
    · rename_i hz
      exact .inr (.inl ⟨_, _, rfl, rfl, Nat.le_of_lt (lim6 hz), hp w H _ S (.str _) .refl⟩)
    · exact hp.elim
  · obtain ⟨a, us, rfl, ha, ra⟩ := vr_tup hx
    obtain ⟨b, vs, rfl, hb, rb⟩ := vr_tup hy
    split at hp
    · rename_i hz
      refine .inr (.inr (.inr ⟨a, b, us, vs, rfl, rfl, ha, hb, fun z => ?_, ?_, fun z => ?_, fun _ p np => ?_⟩))
      · have := ra.length
        rw [z] at this
        exact hz.1 (List.length_eq_zero_iff.mp this.symm)
      · rw [ra.length, rb.length]
        exact Nat.le_of_lt (lim6 hz.2)
      · subst z
        cases rb
        refine hp w H _ S ?_ .refl
        rw [List.append_nil]
        exact .tup ha ra
      · obtain ⟨S2, g2, v2⟩ := S.newT np (ra.app rb)
        exact hp w _ _ S2 v2 g2
    · exact hp.elim
  · cases hx with
    | loc hn =>
      cases hy with
      | loc hm =>
        split at hp
        · rename_i a b ha hb
          split at hp
          · rename_i hz
            obtain ⟨us, h1, r1⟩ := S.ok _ _ ha
            obtain ⟨vs, h2, r2⟩ := S.ok _ _ hb
            refine .inr (.inr (.inl ⟨_, _, us, vs, rfl, rfl, h1, h2, by rw [r1.length, r2.length]; exact Nat.le_of_lt (lim6 hz), fun p np => ?_⟩))
            obtain ⟨w2, S2, g2, e2⟩ := S.newL np (r1.app r2)
            exact hp w2 _ _ S2 (by rw [← e2]; exact VR.loc (Nat.lt_succ_self _)) g2
          · exact hp.elim
        · exact hp.elim
  · exact hp.elim
theorem b_mul : BinP X .Mult mulM := by
  refine ⟨_, op_mul.or op_rep, ?_⟩
  intro E w μ H x y u v Q S hx hy hp
  unfold mulM at hp
  split at hp
  · cases hx; cases hy
    split at hp
    · rename_i hz
      exact .inl ⟨_, _, rfl, rfl, hz, hp w H _ S (.int _) .refl⟩
    · exact hp.elim
  · cases hx with
    | loc hn =>
      cases hy
      split at hp
      · rename_i a ha
        split at hp
        · rename_i hz
          obtain ⟨us, h1, r1⟩ := S.ok _ _ ha
          refine .inr ⟨_, _, us, rfl, rfl, h1, by omega, by omega, ?_, fun p np => ?_⟩
          · rw [r1.length]
            refine Nat.le_trans (Nat.mul_le_mul hz.2.2 (show _ ≤ 1000 by omega)) (by decide)
          · obtain ⟨w2, S2, g2, e2⟩ := S.newL np (VRs.flat _ r1)
            exact hp w2 _ _ S2 (by rw [← e2]; exact VR.loc (Nat.lt_succ_self _)) g2
        · exact hp.elim
      · exact hp.elim
  · exact hp.elim
theorem b_mod : BinP X .Mod modM := by
  refine ⟨_, op_mod, ?_⟩
  intro E w μ H x y u v Q S hx hy hp
  unfold modM at hp
  split at hp
  · cases hx; cases hy
    split at hp
    · rename_i hz
      exact ⟨_, _, rfl, rfl, hz, hp w H _ S (.int _) .refl⟩
    · exact hp.elim
  · exact hp.elim
theorem b_fdiv : BinP X .FloorDiv fdivM := by
  refine ⟨_, op_fdiv, ?_⟩
  intro E w μ H x y u v Q S hx hy hp
  unfold fdivM at hp
  split at hp
  · cases hx; cases hy
    split at hp
    · rename_i hz
      exact ⟨_, _, rfl, rfl, hz, hp w H _ S (.int _) .refl⟩
    · exact hp.elim
  · exact hp.elim
theorem b_pow : BinP X .Pow powM := by
  refine ⟨_, op_pow, ?_⟩
  intro E w μ H x y u v Q S hx hy hp
  unfold powM at hp
  split at hp
  · cases hx; cases hy
    split at hp
    · rename_i hz
      exact ⟨_, _, rfl, rfl, hz, hp w H _ S (.int _) .refl⟩
    · exact hp.elim
  · exact hp.elim
/-! ### comparisons -/
def cmpI (f : Int → Int → Bool) : Val → Val → Mu → R Val
  | .int i, .int j, μ => .ok (.bl (f i j)) μ
  | _, _, _ => .no
def ltM (x y : Val) (μ : Mu) : R Val := cmpI (fun i j => decide (i < j)) x y μ
def leM (x y : Val) (μ : Mu) : R Val := cmpI (fun i j => decide (i ≤ j)) x y μ
def gtM (x y : Val) (μ : Mu) : R Val := cmpI (fun i j => decide (j < i)) x y μ
def geM (x y : Val) (μ : Mu) : R Val := cmpI (fun i j => decide (j ≤ i)) x y μ
theorem prim_cmpI {K : PySem.W.Frag} (f : Int → Int → Bool) : Prim2 K (rI0 fun i j => .bl (f i j)) (cmpI f) := by
  intro E w μ H x y u v Q S hx hy hp
  unfold cmpI at hp
  split at hp
  · cases hx; cases hy
    exact ⟨_, _, rfl, rfl, hp w H _ S (.bl _) .refl⟩
  · exact hp.elim
theorem c_lt : CmpP X .Lt ltM := ⟨_, op_lt, prim_cmpI _⟩
theorem c_le : CmpP X .LtE leM := ⟨_, op_le, prim_cmpI _⟩
theorem c_gt : CmpP X .Gt gtM := ⟨_, op_gt, prim_cmpI _⟩
theorem c_ge : CmpP X .GtE geM := ⟨_, op_ge, prim_cmpI _⟩
def isNon : Val → Bool
  | .non => true
  | _ => false
def isM' : Val → Val → Mu → R Val
  | x, .non, μ => .ok (.bl (isNon x)) μ
  | _, _, _ => .no
def isntM : Val → Val → Mu → R Val
  | x, .non, μ => .ok (.bl (!isNon x)) μ
  | _, _, _ => .no
theorem isNon_eq {K : PySem.W.Frag} {ad : Adr} {b : Nat} {H : Hp} {x : Val} {u : V} (h : VR K ad b H x u) : decide (u = .non) = isNon x := by
  cases h <;> rfl
theorem c_is : CmpP X .Is isM' := by
  refine ⟨_, op_isN, ?_⟩
  intro E w μ H x y u v Q S hx hy hp
  unfold isM' at hp
  split at hp
  · cases hy
    refine ⟨rfl, ?_⟩
    rw [isNon_eq hx]
    exact hp w H _ S (.bl _) .refl
  · exact hp.elim
/-! ### data -/
def allO {α : Type} : List (Option α) → Option (List α)
  | [] => some []
  | none :: _ => none
  | some a :: r => match allO r with
    | none => none
    | some l => some (a :: l)
def scaD : Val → Option PyData
  | .non => some .none
  | .bl b => some (.bool b)
  | .int i => some (.int i)
  | .str x => if PyData.strOk x = true then some (.str x) else none
  | _ => none
def seqOf (μ : Mu) (n : Nat) : Option (List Val) := match μ.ob n with
  | some (.lst vs) => some vs
  | some (.ro vs) => some vs
  | _ => none
def toD : Nat → Mu → Val → Option PyData
  | 0, _, v => scaD v
  | k + 1, μ, .tup vs => (allO (vs.map (toD k μ))).map .tuple
  | k + 1, μ, .loc n => match seqOf μ n with
    | none => none
    | some vs => (allO (vs.map (toD k μ))).map .list
  | _ + 1, _, v => scaD v
end
theorem seqOf_sq {K : PySem.W.Frag} {w : Wt} {μ : Mu} {H : Hp} (S : Sim K w μ H) {n : Nat} {vs : List Val} (h : seqOf μ n = some vs) : ∃ us, SqL K H (w.ad n) us ∧ VRs K w.ad μ.nx H vs us := by
  unfold seqOf at h
  split at h
  · rename_i vs' e
    cases h
    obtain ⟨us, h1, h2⟩ := S.ok _ _ e
    exact ⟨us, SqL.of h1, h2⟩
  · rename_i vs' e
    cases h
    obtain ⟨us, h1, h2⟩ := S.ok _ _ e
    exact ⟨us, h1.sq, h2⟩
  · cases h
theorem scaD_dp {K : PySem.W.Frag} {ad : Adr} {b : Nat} {H : Hp} {v : Val} {u : V} {d : PyData} (h : scaD v = some d) (r : VR K ad b H v u) : Dp K H u d ∧ d.canLay0 = true ∧ d.depth ≤ 1 := by
  unfold scaD at h
  split at h
  · cases h; cases r; exact ⟨.non, rfl, by simp [PyData.depth]⟩
  · cases h; cases r; exact ⟨.bl _, rfl, by simp [PyData.depth]⟩
  · cases h; cases r; exact ⟨.int _, rfl, by simp [PyData.depth]⟩
  · split at h
    · cases h; cases r
      refine ⟨.str _, ?_, by simp [PyData.depth]⟩
      rw [PyData.canLay0]
      assumption
    · cases h
  · cases h
theorem allD {K : PySem.W.Frag} {ad : Adr} {b : Nat} {H : Hp} {f : Val → Option PyData} {k : Nat} (hf : ∀ v u d, f v = some d → VR K ad b H v u → Dp K H u d ∧ d.canLay0 = true ∧ d.depth ≤ k) : ∀ {vs : List Val} {us : List V} {ds : List PyData}, allO (vs.map f) = some ds → VRs K ad b H vs us → DpAll K H us ds ∧ PyData.canLayAll0 ds = true ∧ PyData.depthAll ds ≤ k
  | [], _, ds, h, r => by
    cases r
    cases h
    exact ⟨.nil, rfl, by simp [PyData.depthAll]⟩
  | v :: vs, _, ds, h, r => by
    cases r with
    | cons r1 r2 =>
      rw [List.map_cons] at h
      cases e : f v with
      | none => rw [e, allO] at h; cases h
      | some d =>
        rw [e, allO] at h
        split at h
        · cases h
        · rename_i l hl
          cases h
          obtain ⟨a1, a2, a3⟩ := hf _ _ _ e r1
          obtain ⟨b1, b2, b3⟩ := allD hf hl r2
          refine ⟨.cons a1 b1, ?_, ?_⟩
          · rw [PyData.canLayAll0, a2, b2]
            rfl
          · rw [PyData.depthAll]
            omega
theorem toD_dp {K : PySem.W.Frag} {w : Wt} {μ : Mu} {H : Hp} (S : Sim K w μ H) : ∀ (k : Nat) (v : Val) (u : V) (d : PyData), toD k μ v = some d → VR K w.ad μ.nx H v u → Dp K H u d ∧ d.canLay0 = true ∧ d.depth ≤ k + 1
  | 0, v, u, d, h, r => scaD_dp h r
  | k + 1, .tup vs, u, d, h, r => by
    rw [toD] at h
    obtain ⟨ds, h1, h2⟩ := Option.map_eq_some_iff.mp h
    subst h2
    obtain ⟨a, us, rfl, ha, ra⟩ := vr_tup r
    obtain ⟨b1, b2, b3⟩ := allD (fun v u d => toD_dp S k v u d) h1 ra
    refine ⟨.tup ha b1, by rw [PyData.canLay0]; exact b2, ?_⟩
    rw [PyData.depth]
    omega
  | k + 1, .loc n, u, d, h, r => by
    rw [toD] at h
    split at h
    · cases h
    · rename_i vs e
      obtain ⟨ds, h1, h2⟩ := Option.map_eq_some_iff.mp h
      subst h2
      obtain ⟨us, ha, ra⟩ := seqOf_sq S e
      obtain ⟨b1, b2, b3⟩ := allD (fun v u d => toD_dp S k v u d) h1 ra
      cases r
      refine ⟨.lst ha b1, by rw [PyData.canLay0]; exact b2, ?_⟩
      rw [PyData.depth]
      omega
  | k + 1, .non, u, d, h, r => by have := scaD_dp h r; exact ⟨this.1, this.2.1, by omega⟩
  | k + 1, .bl _, u, d, h, r => by have := scaD_dp h r; exact ⟨this.1, this.2.1, by omega⟩
  | k + 1, .int _, u, d, h, r => by have := scaD_dp h r; exact ⟨this.1, this.2.1, by omega⟩
  | k + 1, .str _, u, d, h, r => by have := scaD_dp h r; exact ⟨this.1, this.2.1, by omega⟩
def datM (μ : Mu) (v : Val) : Option PyData := toD 8 μ v
theorem datM_dp {K : PySem.W.Frag} {w : Wt} {μ : Mu} {H : Hp} (S : Sim K w μ H) {v : Val} {u : V} {d : PyData} (h : datM μ v = some d) (r : VR K w.ad μ.nx H v u) : Dp K H u d ∧ SeqAt.shaped d = true := by
  obtain ⟨h1, h2, h3⟩ := toD_dp S 8 v u d h r
  exact ⟨h1, Bool.and_eq_true_iff.mpr ⟨h2, decide_eq_true (by omega)⟩⟩
def eqM (x y : Val) (μ : Mu) : R Val := match datM μ x, datM μ y with
  | some d, some e => .ok (.bl (PyData.eqv d e)) μ
  | _, _ => .no
def neM (x y : Val) (μ : Mu) : R Val := match datM μ x, datM μ y with
  | some d, some e => .ok (.bl (!PyData.eqv d e)) μ
  | _, _ => .no
def keyOf : Val → Option Key
  | .int i => some (.inl i)
  | .str x => some (.inr x)
  | _ => none
def kGet (kvs : List (Key × Val)) (k : Key) : Option Val := (kvs.find? fun p => decide (p.1 = k)).map (·.2)
def kPut (kvs : List (Key × Val)) (k : Key) (v : Val) : List (Key × Val) := if (kvs.any fun p => decide (p.1 = k)) then kvs.map fun p => if p.1 = k then (p.1, v) else p else kvs ++ [(k, v)]
def kDrop (kvs : List (Key × Val)) (k : Key) : List (Key × Val) := kvs.filter fun p => decide (p.1 ≠ k)
def dctOf (μ : Mu) (n : Nat) : Option (List (Key × Val)) := match μ.ob n with
  | some (.dct kvs) => some kvs
  | some (.rod kvs) => some kvs
  | _ => none
section
variable {X : Cx}
theorem c_eq (hu : X.A.units + 64 < cLine) : CmpP X .Eq eqM := by
  refine ⟨_, op_eqD hu, ?_⟩
  intro E w μ H x y u v Q S hx hy hp
  unfold eqM at hp
  split at hp
  · rename_i d e h1 h2
    obtain ⟨a1, a2⟩ := datM_dp S h1 hx
    obtain ⟨b1, b2⟩ := datM_dp S h2 hy
    exact ⟨d, e, a1, b1, a2, b2, hp w H _ S (.bl _) .refl⟩
  · exact hp.elim
theorem c_ne (hu : X.A.units + 64 < cLine) : CmpP X .NotEq neM := by
  refine ⟨_, op_neD hu, ?_⟩
  intro E w μ H x y u v Q S hx hy hp
  unfold neM at hp
  split at hp
  · rename_i d e h1 h2
    obtain ⟨a1, a2⟩ := datM_dp S h1 hx
    obtain ⟨b1, b2⟩ := datM_dp S h2 hy
    exact ⟨d, e, a1, b1, a2, b2, hp w H _ S (.bl _) .refl⟩
  · exact hp.elim
end
section
variable {K : PySem.W.Frag} {ad : Adr} {b : Nat} {H : Hp}
end
section
variable {X : Cx}
end
end Wn
/-! the law's level: subscripts, calls of builtins, statements, loops, defs -/
namespace Wn
open PySem PySem.Spec PyProof.Rows L2 LamX He

/-! ### subscripts -/
section
variable {K : PySem.W.Frag} {ad : Adr} {b : Nat} {H : Hp}
theorem atI_rel {vs : List Val} {us : List V} {i : Int} {v : Val} (r : VRs K ad b H vs us) (h : atI vs i = some v) : ∃ u, atI us i = some u ∧ VR K ad b H v u := by
  unfold atI at h ⊢
  rw [r.length]
  cases e : ixN vs.length i with
  | none => rw [e] at h; cases h
  | some j =>
    rw [e] at h
    exact r.get j v h
end
def getM : Val → Val → Mu → R Val
  | .tup vs, .int i, μ => match atI vs i with
    | some v => .ok v μ
    | none => .no
  | .loc n, .int i, μ => match seqOf μ n with
    | some vs => match atI vs i with
      | some v => .ok v μ
      | none => .no
    | none => .no
  | _, _, _ => .no
def dgetM : Val → Val → Mu → R Val
  | .loc n, y, μ => match dctOf μ n, keyOf y with
    | some kvs, some k => match kGet kvs k with
      | some v => .ok v μ
      | none => .no
    | _, _ => .no
  | _, _, _ => .no
def cutG {α : Type} (xs : List α) (lo hi : Option Int) : List α := (xs.drop (HT.sIx xs.length 0 lo)).take (HT.sIx xs.length xs.length hi - HT.sIx xs.length 0 lo)
abbrev MO := Rho → Mu → R (Option Int)
def mP0 : MO := fun _ μ => .ok none μ
def mP (m : ME) : MO := fun ρ μ => (m ρ μ).bind fun x μ => match x with
  | .int i => .ok (some i) μ
  | _ => .no
def slM (x : Val) (lo hi : Option Int) (μ : Mu) : R Val := match x with
  | .tup vs => if HT.sIx vs.length 0 lo = 0 ∧ HT.sIx vs.length vs.length hi = vs.length then .no else .ok (.tup (cutG vs lo hi)) μ
  | .loc n => match seqOf μ n with
    | some vs => .ok (.loc μ.nx) (μ.new (.lst (cutG vs lo hi)))
    | none => .no
  | _ => .no
def mSl (e : ME) (lo hi : MO) : ME := fun ρ μ => (e ρ μ).bind fun x μ => (lo ρ μ).bind fun l μ => (hi ρ μ).bind fun h μ => slM x l h μ
def relO : Rel (Option Int) (Option Int) := fun _ _ _ v u => v = u
def PMO (X : Cx) (E : XK) (o : Option Expr) (m : MO) : Prop := PO X o (tM X.K relO E m)
theorem cut_rel {K : PySem.W.Frag} {ad : Adr} {b : Nat} {H : Hp} {vs : List Val} {us : List V} (lo hi : Option Int) (r : VRs K ad b H vs us) : VRs K ad b H (cutG vs lo hi) (cutV us lo hi) := by
  unfold cutG cutV
  rw [r.length]
  exact (r.drop _).take _
section
variable {X : Cx} {E : XK} {e a b o : Expr} {es : List Expr} {ma mb me mo : ME} {mr : MA} {pos apos cpos : Pos}
theorem pm_ix (ha : PM X E a ma) (hb : PM X E b mb) (hs : PlainIx b := by exact fun _ _ => rfl) : PM X E (.Subscript a b pos) (mOp getM ma mb) :=
  PE.imp (pe_ix (ix_list.or ix_tup) ha hb hs) fun σ H Q ⟨w, ρ, μ, S, EN, hp⟩ => ⟨w, ρ, μ, S, EN, Post.bind hp fun x μ1 w1 H1 u1 S1 r1 g1 h1 => ⟨w1, ρ, μ1, S1, EN.grow g1, Post.bind h1 fun y μ2 w2 H2 u2 S2 r2 g2 h2 => by
    have r1 := VR.grow g2 r1
    unfold getM at h2
    split at h2
    · cases r2
      obtain ⟨p, us, rfl, hq, rq⟩ := vr_tup r1
      split at h2
      · rename_i v hv
        obtain ⟨u, e1, e2⟩ := atI_rel rq hv
        exact .inr ⟨p, us, _, u, rfl, rfl, hq, e1, h2 w2 H2 u S2 e2 .refl⟩
      · exact h2.elim
    · cases r2
      cases r1
      split at h2
      · rename_i vs hs
        obtain ⟨us, hq, rq⟩ := seqOf_sq S2 hs
        split at h2
        · rename_i v hv
          obtain ⟨u, e1, e2⟩ := atI_rel rq hv
          exact .inl ⟨_, us, _, u, rfl, rfl, hq, e1, h2 w2 H2 u S2 e2 .refl⟩
        · exact h2.elim
      · exact h2.elim
    · exact h2.elim⟩⟩
theorem pmo_none : PMO X E none mP0 := ⟨fun pins s σ H Q I ⟨w, ρ, μ, S, EN, hp⟩ => po_none.run pins s σ H Q I (hp w H none S rfl .refl)⟩
theorem pmo_some (h : PM X E e me) : PMO X E (some e) (mP me) := ⟨fun pins s σ H Q I ⟨w, ρ, μ, S, EN, hp⟩ => (po_some h).run pins s σ H Q I ⟨w, ρ, μ, S, EN, Post.bind hp fun x μ1 w1 H1 u1 S1 r1 g1 h1 => by
  cases x with
  | int i =>
    cases r1
    exact ⟨i, rfl, h1 w1 H1 _ S1 rfl .refl⟩
  | _ => exact h1.elim⟩⟩
theorem pm_slice {lo hi : Option Expr} {ml mh : MO} {p2 : Pos} (he : PM X E e me) (hl : PMO X E lo ml) (hh : PMO X E hi mh) : PM X E (.Subscript e (.Slice lo hi none p2) pos) (mSl me ml mh) :=
  PE.imp (pe_slice (sl_list.or sl_tup) he hl hh) fun σ H Q ⟨w, ρ, μ, S, EN, hp⟩ => ⟨w, ρ, μ, S, EN, Post.bind hp fun x μ1 w1 H1 u1 S1 r1 g1 h1 => ⟨w1, ρ, μ1, S1, EN.grow g1, Post.bind h1 fun l μ2 w2 H2 u2 S2 r2 g2 h2 => ⟨w2, ρ, μ2, S2, (EN.grow g1).grow g2, Post.bind h2 fun h μ3 w3 H3 u3 S3 r3 g3 h3 => by
    cases r2; cases r3
    have r1 := VR.grow g3 (VR.grow g2 r1)
    unfold slM at h3
    split at h3
    · obtain ⟨p, us, rfl, hq, rq⟩ := vr_tup r1
      split at h3
      · exact h3.elim
      · rename_i hc
        refine .inr ⟨p, us, rfl, hq, by rw [rq.length]; exact hc, fun q nq => ?_⟩
        obtain ⟨S4, g4, v4⟩ := S3.newT nq (cut_rel l h rq)
        exact h3 w3 _ _ S4 v4 g4
    · cases r1
      split at h3
      · rename_i vs hs
        obtain ⟨us, hq, rq⟩ := seqOf_sq S3 hs
        refine .inl ⟨_, us, rfl, hq, fun q nq => ?_⟩
        obtain ⟨w4, S4, g4, e4⟩ := S3.newL nq (cut_rel l h rq)
        exact h3 w4 _ _ S4 (by rw [← e4]; exact VR.loc (Nat.lt_succ_self _)) g4
      · exact h3.elim
    · exact h3.elim⟩⟩⟩
end
/-! ### builtins -/
def lenM : List Val → Mu → R Val
  | [.tup vs], μ => .ok (.int vs.length) μ
  | [.str x], μ => if x.length ≤ 1000000 then .ok (.int x.length) μ else .no
  | [.loc n], μ => match seqOf μ n with
    | some vs => .ok (.int vs.length) μ
    | none => .no
  | _, _ => .no
def listM : List Val → Mu → R Val
  | [.tup vs], μ => .ok (.loc μ.nx) (μ.new (.lst vs))
  | [.loc n], μ => match seqOf μ n with
    | some vs => .ok (.loc μ.nx) (μ.new (.lst vs))
    | none => .no
  | _, _ => .no
def tupleM : List Val → Mu → R Val
  | [.tup vs], μ => .ok (.tup vs) μ
  | [.loc n], μ => match seqOf μ n with
    | some vs => .ok (.tup vs) μ
    | none => .no
  | _, _ => .no
def minM : List Val → Mu → R Val
  | [.int i, .int j], μ => .ok (.int (if j < i then j else i)) μ
  | _, _ => .no
def maxM : List Val → Mu → R Val
  | [.int i, .int j], μ => .ok (.int (if j > i then j else i)) μ
  | _, _ => .no
def absM : List Val → Mu → R Val
  | [.int i], μ => .ok (.int (if i < 0 then -i else i)) μ
  | _, _ => .no
def intM : List Val → Mu → R Val
  | [.int i], μ => .ok (.int i) μ
  | _, _ => .no
def intsOf : List Val → Option (List Int)
  | [] => some []
  | .int i :: r => match intsOf r with
    | some l => some (i :: l)
    | none => none
  | _ :: _ => none
def sortedM : List Val → Mu → R Val
  | [.loc n], μ => match seqOf μ n with
    | some vs => match intsOf vs with
      | some l => .ok (.loc μ.nx) (μ.new (.lst ((srtI l).map Val.int)))
      | none => .no
    | none => .no
  | _, _ => .no
section
variable {X : Cx} {K : PySem.W.Frag}
theorem p_len : PrimA K (fun xs H Q => ∃ x n, xs = [x] ∧ LenV K x H n ∧ Q (.int n) H) lenM := by
  intro E w μ H xs us Q S r hp
  unfold lenM at hp
  split at hp
  · cases r with
    | cons r1 r2 =>
      cases r2
      obtain ⟨a, vs, rfl, hq, rq⟩ := vr_tup r1
      exact ⟨_, _, rfl, .inr ⟨vs, hq, rfl⟩, by rw [rq.length]; exact hp w H _ S (.int _) .refl⟩
  · cases r with
    | cons r1 r2 =>
      cases r2
      cases r1
      split at hp
      · rename_i hz
        exact ⟨_, _, rfl, ⟨Nat.le_of_lt (lim6 hz), rfl⟩, hp w H _ S (.int _) .refl⟩
      · exact hp.elim
  · cases r with
    | cons r1 r2 =>
      cases r2
      cases r1
      split at hp
      · rename_i vs hs
        obtain ⟨us, hq, rq⟩ := seqOf_sq S hs
        exact ⟨_, _, rfl, .inl ⟨us, hq, rfl⟩, by rw [rq.length]; exact hp w H _ S (.int _) .refl⟩
      · exact hp.elim
  · exact hp.elim
theorem p_tuple : PrimA K (fun xs H Q => ∃ p ys, xs = [.ref p] ∧ ((SqL K H p ys ∧ ∀ l, H l = none → Q (.ref l) (upd H l (.tup ys))) ∨ (SqT K H p ys ∧ Q (.ref p) H))) tupleM := by
  intro E w μ H xs us Q S r hp
  unfold tupleM at hp
  split at hp
  · cases r with
    | cons r1 r2 =>
      cases r2
      obtain ⟨a, vs, rfl, hq, rq⟩ := vr_tup r1
      exact ⟨_, _, rfl, .inr ⟨hq, hp w H _ S (.tup hq rq) .refl⟩⟩
  · cases r with
    | cons r1 r2 =>
      cases r2
      cases r1
      split at hp
      · rename_i vs hs
        obtain ⟨us, hq, rq⟩ := seqOf_sq S hs
        refine ⟨_, _, rfl, .inl ⟨hq, fun l nl => ?_⟩⟩
        obtain ⟨S4, g4, v4⟩ := S.newT nl rq
        exact hp w _ _ S4 v4 g4
      · exact hp.elim
  · exact hp.elim
theorem p_min : PrimA K (fun xs H Q => ∃ i j, xs = [.int i, .int j] ∧ Q (.int (if j < i then j else i)) H) minM := by
  intro E w μ H xs us Q S r hp
  unfold minM at hp
  split at hp
  · cases r with
    | cons r1 r2 =>
      cases r2 with
      | cons r3 r4 =>
        cases r4; cases r1; cases r3
        exact ⟨_, _, rfl, hp w H _ S (.int _) .refl⟩
  · exact hp.elim
theorem p_max : PrimA K (fun xs H Q => ∃ i j, xs = [.int i, .int j] ∧ Q (.int (if j > i then j else i)) H) maxM := by
  intro E w μ H xs us Q S r hp
  unfold maxM at hp
  split at hp
  · cases r with
    | cons r1 r2 =>
      cases r2 with
      | cons r3 r4 =>
        cases r4; cases r1; cases r3
        exact ⟨_, _, rfl, hp w H _ S (.int _) .refl⟩
  · exact hp.elim
theorem p_abs : PrimA K (fun xs H Q => ∃ i, xs = [.int i] ∧ Q (.int (if i < 0 then -i else i)) H) absM := by
  intro E w μ H xs us Q S r hp
  unfold absM at hp
  split at hp
  · cases r with
    | cons r1 r2 =>
      cases r2; cases r1
      exact ⟨_, rfl, hp w H _ S (.int _) .refl⟩
  · exact hp.elim
theorem p_int : PrimA K (fun xs H Q => (∃ i, xs = [.int i] ∧ Q (.int i) H) ∨ ∃ k, xs = [.bl k] ∧ Q (.int (if k then 1 else 0)) H) intM := by
  intro E w μ H xs us Q S r hp
  unfold intM at hp
  split at hp
  · cases r with
    | cons r1 r2 =>
      cases r2; cases r1
      exact .inl ⟨_, rfl, hp w H _ S (.int _) .refl⟩
  · exact hp.elim
end
/-! ### methods of lists -/
def lstOf (x : Val) (μ : Mu) : Option (Nat × List Val) := match x with
  | .loc n => match μ.ob n with
    | some (.lst vs) => some (n, vs)
    | _ => none
  | _ => none
def mBm (f : Val → List Val → Mu → R Val) (o : ME) (a : MA) : ME := fun ρ μ => (o ρ μ).bind fun x μ => match lstOf x μ with
  | none => .no
  | some _ => (a ρ μ).bind fun xs μ => f x xs μ
def appM (x : Val) (xs : List Val) (μ : Mu) : R Val := match lstOf x μ, xs with
  | some (n, vs), [v] => if vs.length ≤ 1000000 then .ok .non (μ.put n (.lst (vs ++ [v]))) else .no
  | _, _ => .no
def popM (x : Val) (xs : List Val) (μ : Mu) : R Val := match lstOf x μ, xs with
  | some (n, vs), [.int i] => if vs.length ≤ 1000000 then match ixN vs.length i with
    | some k => match vs[k]? with
      | some v => .ok v (μ.put n (.lst (vs.eraseIdx k)))
      | none => .no
    | none => .no
    else .no
  | _, _ => .no
def extM (x : Val) (xs : List Val) (μ : Mu) : R Val := match lstOf x μ, xs with
  | some (n, vs), [y] => match lstOf y μ with
    | some (_, zs) => if vs.length + zs.length ≤ 1000000 then .ok .non (μ.put n (.lst (vs ++ zs))) else .no
    | none => .no
  | _, _ => .no
theorem lstOf_eq {x : Val} {μ : Mu} {n : Nat} {vs : List Val} (h : lstOf x μ = some (n, vs)) : x = .loc n ∧ μ.ob n = some (.lst vs) := by
  unfold lstOf at h
  split at h
  · split at h
    · rename_i e
      cases h
      exact ⟨rfl, e⟩
    · cases h
  · cases h
section
variable {X : Cx} {E : XK} {e o : Expr} {es : List Expr} {mo : ME} {mr : MA} {apos cpos : Pos} {name : Str} {id : String} {r : V → List V → Hp → VK → Prop} {f : Val → List Val → Mu → R Val}
def PrimM (K : PySem.W.Frag) (r : V → List V → Hp → VK → Prop) (f : Val → List Val → Mu → R Val) : Prop := ∀ (E : XK) (w : Wt) (μ : Mu) (H : Hp) (x : Val) (u : V) (xs : List Val) (us : List V) (Q : VK), Sim K w μ H → VR K w.ad μ.nx H x u → VRs K w.ad μ.nx H xs us → Post K (relE K) E w μ.nx H Q (f x xs μ) → r u us H Q
theorem pm_bmL (slot : Slot "list" name id) (hty : typeOf (.builtin id) = pure (.type "method_descriptor")) (hm : MtR X id r) (hf : PrimM X.K r f) (ho : PM X E o mo) (ha : PMA X E (e :: es) mr)
    (hbase : attributeBase o name X.env (eval o X.env) = eval o X.env := by rfl)
    (hfew : ((backTo cpos (starEach (e :: es) X.env)).all (fun x => !x.1) && (backToKw cpos (keywordEach [] X.env)).all (fun x => x.1.isSome)
      && decide ((e :: es).length + ([] : List Keyword).length + (if ([] : List Keyword).isEmpty then 0 else 1) < 30)) = true := by rfl)
    (hline : (apos.endLine == cpos.line) = true := by rfl) (hs : starEach (e :: es) X.env = (false, eval e X.env) :: starEach es X.env := by rfl) (hplain : (backTo cpos (starEach es X.env)).any (·.1) = false := by rfl) :
    PM X E (.Call (.Attribute o name apos) (e :: es) [] cpos) (mBm f mo mr) :=
  PE.imp (pe_bm PySem.F.plainAttrs_list slot hty hm ho ha hbase hfew hline hs hplain) fun σ H Q ⟨w, ρ, μ, S, EN, hp⟩ => ⟨w, ρ, μ, S, EN, Post.bind hp fun x μ1 w1 H1 u1 S1 r1 g1 h1 => by
    split at h1
    · exact h1.elim
    · rename_i p hl
      obtain ⟨rfl, hob⟩ := lstOf_eq (n := p.1) (vs := p.2) hl
      obtain ⟨us, q1, q2⟩ := S1.ok _ _ hob
      have tyv : tyV X.K "list" u1 H1 := by
        cases r1
        exact .inl ⟨rfl, us, SqL.of q1⟩
      exact ⟨tyv, w1, ρ, μ1, S1, EN.grow g1, Post.bind h1 fun xs μ2 w2 H2 u2 S2 r2 g2 h2 => hf E w2 μ2 H2 _ u1 xs u2 Q S2 (VR.grow g2 r1) r2 h2⟩⟩
theorem p_append {K : PySem.W.Frag} : PrimM K rAppend appM := by
  intro E w μ H x u xs us Q S hx hr hp
  unfold appM at hp
  split at hp
  · rename_i n vs v hl
    obtain ⟨rfl, hob⟩ := lstOf_eq hl
    split at hp
    · rename_i hz
      cases hx
      cases hr with
      | cons r1 r2 =>
        cases r2
        obtain ⟨us, q1, q2⟩ := S.ok _ _ hob
        refine ⟨_, us, _, rfl, rfl, q1, by rw [q2.length]; exact lim6 hz, ?_⟩
        obtain ⟨S2, g2⟩ := S.setL hob (q2.app (VRs.one r1))
        exact hp w _ _ S2 .non g2
    · exact hp.elim
  · exact hp.elim
end
end Wn
/-! the law's level: statements, loops, defs -/
namespace Wn
open PySem PySem.Spec PyProof.Rows L2 LamX He

inductive Fl where
  | nx (ρ : Rho) | rt (v : Val) | bk (ρ : Rho) | ct (ρ : Rho)
abbrev MS := Rho → Mu → R Fl
def PostS (K : PySem.W.Frag) (E : XK) (w : Wt) (b : Nat) (H : Hp) (D : Ends) : R Fl → Prop
  | .ok (.nx ρ') μ' => ∀ w' H' σ', Sim K w' μ' H' → EnvR K w' μ'.nx H' ρ' σ' → Grow K w b H w' μ'.nx H' → D.nx σ' H'
  | .ok (.rt v) μ' => ∀ w' H' u, Sim K w' μ' H' → VR K w'.ad μ'.nx H' v u → Grow K w b H w' μ'.nx H' → D.rt u H'
  | .ok (.bk ρ') μ' => ∀ w' H' σ', Sim K w' μ' H' → EnvR K w' μ'.nx H' ρ' σ' → Grow K w b H w' μ'.nx H' → D.bk σ' H'
  | .ok (.ct ρ') μ' => ∀ w' H' σ', Sim K w' μ' H' → EnvR K w' μ'.nx H' ρ' σ' → Grow K w b H w' μ'.nx H' → D.ct σ' H'
  | .er c fs μ' => ∀ w' H' d us, Sim K w' μ' H' → Grow K w b H w' μ'.nx H' → H' d = some (.xd us) → us.map (·.1) = fs.map (·.1) → VRs K w'.ad μ'.nx H' (fs.map (·.2)) (us.map (·.2)) → E (.ref (ga K c)) (some d) H'
  | .no => False
section
variable {K : PySem.W.Frag} {E : XK}
theorem PostS.grow {w w1 : Wt} {b b1 : Nat} {H H1 : Hp} {D : Ends} {r : R Fl} (h : PostS K E w b H D r) (g : Grow K w b H w1 b1 H1) : PostS K E w1 b1 H1 D r := by
  cases r with
  | ok a μ =>
    cases a with
    | nx ρ => exact fun w' H' σ' S r g' => h w' H' σ' S r (g.trans g')
    | rt v => exact fun w' H' σ' S r g' => h w' H' σ' S r (g.trans g')
    | bk ρ => exact fun w' H' σ' S r g' => h w' H' σ' S r (g.trans g')
    | ct ρ => exact fun w' H' σ' S r g' => h w' H' σ' S r (g.trans g')
  | er c fs μ => exact fun w' H' d us S g' => h w' H' d us S (g.trans g')
  | no => exact h
/-- an expression first -/
theorem PostS.bind {α β : Type} {rel : Rel α β} {w : Wt} {b : Nat} {H : Hp} {D : Ends} {Q1 : β → Hp → Prop} {r : R α} {k : α → Mu → R Fl} (h : PostS K E w b H D (r.bind k))
    (f : ∀ a μ1 w1 H1 u1, Sim K w1 μ1 H1 → rel w1 μ1.nx H1 a u1 → Grow K w b H w1 μ1.nx H1 → PostS K E w1 μ1.nx H1 D (k a μ1) → Q1 u1 H1) : Post K rel E w b H Q1 r := by
  cases r with
  | ok a μ1 => exact fun w1 H1 u1 S r g => f a μ1 w1 H1 u1 S r g (PostS.grow h g)
  | er c fs μ => exact h
  | no => exact h.elim
end
def tS (K : PySem.W.Frag) (E : XK) (m : MS) : TS := fun D σ H => ∃ w ρ μ, Sim K w μ H ∧ EnvR K w μ.nx H ρ σ ∧ PostS K E w μ.nx H D (m ρ μ)
def PMS (X : Cx) (E : XK) (st : Stmt) (m : MS) : Prop := PS X st (tS X.K E m)
def PMSs (X : Cx) (E : XK) (st : List Stmt) (m : MS) : Prop := PSs X st (tS X.K E m)
theorem PS.imp {X : Cx} {st : Stmt} {t t0 : TS} (h : PS X st t) (i : ∀ D σ H, t0 D σ H → t D σ H) : PS X st t0 := ⟨fun pins s σ H D I hw => h.run pins s σ H D I (i D σ H hw)⟩
theorem PSs.imp {X : Cx} {st : List Stmt} {t t0 : TS} (h : PSs X st t) (i : ∀ D σ H, t0 D σ H → t D σ H) : PSs X st t0 := ⟨fun pins s σ H D I hw => h.run pins s σ H D I (i D σ H hw)⟩

/-! ### the words -/
def sNil : MS := fun ρ μ => .ok (.nx ρ) μ
def sThen (r : R Fl) (k : Rho → Mu → R Fl) : R Fl := match r with
  | .ok (.nx ρ) μ => k ρ μ
  | r => r
@[simp] theorem sThen_nx (ρ : Rho) (μ : Mu) (k : Rho → Mu → R Fl) : sThen (.ok (.nx ρ) μ) k = k ρ μ := rfl
@[simp] theorem sThen_rt (v : Val) (μ : Mu) (k : Rho → Mu → R Fl) : sThen (.ok (.rt v) μ) k = .ok (.rt v) μ := rfl
@[simp] theorem sThen_bk (v : Rho) (μ : Mu) (k : Rho → Mu → R Fl) : sThen (.ok (.bk v) μ) k = .ok (.bk v) μ := rfl
@[simp] theorem sThen_ct (v : Rho) (μ : Mu) (k : Rho → Mu → R Fl) : sThen (.ok (.ct v) μ) k = .ok (.ct v) μ := rfl
def sSeq (a b : MS) : MS := fun ρ μ => sThen (a ρ μ) b
def sSet (i : Nat) (m : ME) : MS := fun ρ μ => (m ρ μ).bind fun v μ => .ok (.nx (ρ.set i (some v))) μ
def sExpr (m : ME) : MS := fun ρ μ => (m ρ μ).bind fun _ μ => .ok (.nx ρ) μ
def sRet (m : ME) : MS := fun ρ μ => (m ρ μ).bind fun v μ => .ok (.rt v) μ
def sRetN : MS := fun _ μ => .ok (.rt .non) μ
def sIf (c : MT) (a b : MS) : MS := fun ρ μ => (c ρ μ).bind fun k μ => if k = true then a ρ μ else b ρ μ
def sBrk : MS := fun ρ μ => .ok (.bk ρ) μ
def sCnt : MS := fun ρ μ => .ok (.ct ρ) μ
def sPar (i j : Nat) (m : MA) : MS := fun ρ μ => (m ρ μ).bind fun vs μ => match vs with
  | [v, w] => .ok (.nx ((ρ.set i (some v)).set j (some w))) μ
  | _ => .no
def sPar3 (i j k : Nat) (m : MA) : MS := fun ρ μ => (m ρ μ).bind fun vs μ => match vs with
  | [u, v, w] => .ok (.nx (((ρ.set i (some u)).set j (some v)).set k (some w))) μ
  | _ => .no
/-- targets: a name, names in a tuple -/
def unp : List Nat → List Val → Rho → Option Rho
  | [], [], ρ => some ρ
  | i :: is, v :: vs, ρ => unp is vs (ρ.set i (some v))
  | _, _, _ => none
def tgN (i : Nat) (v : Val) (ρ : Rho) : Option Rho := some (ρ.set i (some v))
def tgT (is : List Nat) (v : Val) (ρ : Rho) : Option Rho := match v with
  | .tup vs => unp is vs ρ
  | _ => none
def sAsg (g : Val → Rho → Option Rho) (m : ME) : MS := fun ρ μ => (m ρ μ).bind fun v μ => match g v ρ with
  | some ρ' => .ok (.nx ρ') μ
  | none => .no
def stoM : Val → Val → Val → Mu → R Unit
  | .loc n, .int i, v, μ => match μ.ob n with
    | some (.lst vs) => match ixN vs.length i with
      | some j => .ok () (μ.put n (.lst (vs.set j v)))
      | none => .no
    | _ => .no
  | _, _, _, _ => .no
def dstoM : Val → Val → Val → Mu → R Unit
  | .loc n, y, v, μ => match μ.ob n, keyOf y with
    | some (.dct kvs), some k => if kvs.length ≤ 1000000 then .ok () (μ.put n (.dct (kPut kvs k v))) else .no
    | _, _ => .no
  | _, _, _, _ => .no
def sSto (f : Val → Val → Val → Mu → R Unit) (o i v : ME) : MS := fun ρ μ => (v ρ μ).bind fun v μ => (o ρ μ).bind fun o μ => (i ρ μ).bind fun i μ => (f o i v μ).bind fun _ μ => .ok (.nx ρ) μ
section
variable {X : Cx} {E : XK} {e c o : Expr} {es : List Expr} {st : Stmt} {sts a b : List Stmt} {m mo mi mv : ME} {ms mt : MS} {mc : MT} {mr : MA} {pos : Pos}
theorem pmss_nil : PMSs X E [] sNil := PSs.imp pss_nil fun D σ H ⟨w, ρ, μ, S, EN, hp⟩ => hp w H σ S EN .refl
theorem post_then {K : PySem.W.Frag} {w : Wt} {b : Nat} {H : Hp} {D : Ends} {r : R Fl} {k : MS} (h : PostS K E w b H D (sThen r k)) : PostS K E w b H { D with nx := tS K E k D } r := by
  cases r with
  | ok a μ =>
    cases a with
    | nx ρ => exact fun w' H' σ' S EN g => ⟨w', ρ, μ, S, EN, PostS.grow h g⟩
    | _ => exact h
  | er c fs μ => exact h
  | no => exact h
theorem pmss_cons (h1 : PMS X E st ms) (h2 : PMSs X E sts mt) : PMSs X E (st :: sts) (sSeq ms mt) :=
  PSs.imp (pss_cons h1 h2) fun D σ H ⟨w, ρ, μ, S, EN, hp⟩ => ⟨w, ρ, μ, S, EN, post_then hp⟩
theorem pmss_one (h1 : PMS X E st ms) : PMSs X E [st] ms := pss_one h1
theorem pms_expr (he : PM X E e m) (hs : swapsWith e none pos.line X.env = pure false := by rfl) : PMS X E (.Expr e pos) (sExpr m) :=
  PS.imp (ps_expr he hs) fun D σ H ⟨w, ρ, μ, S, EN, hp⟩ => ⟨w, ρ, μ, S, EN, PostS.bind hp fun x μ1 w1 H1 u1 S1 r1 g1 h1 => h1 w1 H1 σ S1 (EN.grow g1) .refl⟩
theorem pms_ret (he : PM X E e m) : PMS X E (.Return (some e) pos) (sRet m) :=
  PS.imp (ps_ret he) fun D σ H ⟨w, ρ, μ, S, EN, hp⟩ => ⟨w, ρ, μ, S, EN, PostS.bind hp fun x μ1 w1 H1 u1 S1 r1 g1 h1 => h1 w1 H1 u1 S1 r1 .refl⟩
theorem pms_if (hc : PMT X E c mc) (ha : PMSs X E a ms) (hb : PMSs X E b mt) : PMS X E (.If c a b pos) (sIf mc ms mt) :=
  PS.imp (ps_if hc ha hb) fun D σ H ⟨w, ρ, μ, S, EN, hp⟩ => ⟨w, ρ, μ, S, EN, PostS.bind hp fun x μ1 w1 H1 u1 S1 r1 g1 h1 => by
    cases r1
    cases x with
    | true => exact iteT ⟨w1, ρ, μ1, S1, EN.grow g1, h1⟩
    | false => exact iteF ⟨w1, ρ, μ1, S1, EN.grow g1, h1⟩⟩
theorem pms_set {i : Nat} {x : Str} {pos' : Pos} (hN : X.N.Nodup) (hi : X.N[i]? = some x) (hx : Loc X.env.scope x) (he : PM X E e m) (hs : swapsWith e (some (.Name x pos')) pos.line X.env = pure false := by rfl) (hf : X.fn x = true ∨ X.env.scope.names.lookup x = some .local := by first | exact .inl rfl | exact .inr rfl | assumption) :
    PMS X E (.Assign [.Name x pos'] e pos) (sSet i m) :=
  PS.imp (ps_set hN hi hx he hs hf) fun D σ H ⟨w, ρ, μ, S, EN, hp⟩ => ⟨w, ρ, μ, S, EN, PostS.bind hp fun x μ1 w1 H1 u1 S1 r1 g1 h1 => h1 w1 H1 _ S1 ((EN.grow g1).set i r1) .refl⟩
theorem pms_par {i j : Nat} {x y : Str} {a b : Expr} {px py pt : Pos} {kt k2 pt2} (hc : X.calm = true) (hN : X.N.Nodup) (hi : X.N[i]? = some x) (hj : X.N[j]? = some y) (hij : i ≠ j)
    (hx : X.env.scope.names.lookup x = some .local) (hy : X.env.scope.names.lookup y = some .local) (ha : PMA X E [a, b] mr)
    (hw : swappedStores [.Tuple [.Name x px, .Name y py] kt pt] (.Tuple [a, b] k2 pt2) X.env = pure (some [x, y]))
    (hs : swapsWithSole [.Tuple [.Name x px, .Name y py] kt pt] (.Tuple [a, b] k2 pt2) pos.line X.env = pure false := by rfl) :
    PMS X E (.Assign [.Tuple [.Name x px, .Name y py] kt pt] (.Tuple [a, b] k2 pt2) pos) (sPar i j mr) :=
  PS.imp (ps_par hc hN hi hj hij hx hy ha hw hs) fun D σ H ⟨w, ρ, μ, S, EN, hp⟩ => ⟨w, ρ, μ, S, EN, PostS.bind hp fun vs μ1 w1 H1 us S1 r1 g1 h1 => by
    split at h1
    · cases r1 with
      | cons ra rr =>
        cases rr with
        | cons rb rr =>
          cases rr
          exact ⟨_, _, rfl, h1 w1 H1 _ S1 (((EN.grow g1).set i ra).set j rb) .refl⟩
    · exact h1.elim⟩
/-! ### targets -/
theorem wipe_in {σ : L2.St} {i : Nat} : ∀ {vs : List Nat}, i ∈ vs → (wipe σ vs)[i]? = (σ[i]?).map fun _ => none
  | [], h => by cases h
  | v :: vs, h => by
    unfold wipe
    by_cases c : v = i
    · subst c
      rw [List.getElem?_set, if_pos rfl, wipe_length]
      by_cases d : v < σ.length
      · rw [if_pos d, List.getElem?_eq_getElem d]
        rfl
      · rw [if_neg d, List.getElem?_eq_none (by omega)]
        rfl
    · rw [List.getElem?_set_ne c]
      rcases List.mem_cons.mp h with z | z
      · exact (c z.symm).elim
      · exact wipe_in z
theorem wipe_set {σ : L2.St} {i : Nat} {x : Option V} {vs : List Nat} (h : i ∈ vs) : wipe (σ.set i x) vs = wipe σ vs := by
  apply List.ext_getElem?
  intro j
  by_cases c : j ∈ vs
  · rw [wipe_in c, wipe_in c, List.getElem?_set]
    by_cases d : i = j
    · subst d
      rw [if_pos rfl]
      by_cases l : i < σ.length
      · rw [if_pos l, List.getElem?_eq_getElem l]
        rfl
      · rw [if_neg l, List.getElem?_eq_none (by omega)]
    · rw [if_neg d]
  · have ne : i ≠ j := fun z => c (by rw [← z]; exact h)
    rw [wipe_out c, wipe_out c, List.getElem?_set_ne ne]
def Wiped (is : List Nat) (σ σ' : L2.St) : Prop := ∀ vs : List Nat, (∀ i ∈ is, i ∈ vs) → wipe σ' vs = wipe σ vs
def tG (K : PySem.W.Frag) (is : List Nat) (g : Val → Rho → Option Rho) : TG := fun x σ H Q => ∃ w ρ b v ρ', EnvR K w b H ρ σ ∧ VR K w.ad b H v x ∧ g v ρ = some ρ' ∧ ∀ σ', EnvR K w b H ρ' σ' → Wiped is σ σ' → Q σ' H
def PMG (X : Cx) (tg : Expr) (is : List Nat) (g : Val → Rho → Option Rho) : Prop := PG X tg (tG X.K is g)
def tGs (K : PySem.W.Frag) (is : List Nat) : TGs := fun xs σ H Q => ∃ w ρ b vs ρ', EnvR K w b H ρ σ ∧ VRs K w.ad b H vs xs ∧ unp is vs ρ = some ρ' ∧ ∀ σ', EnvR K w b H ρ' σ' → Wiped is σ σ' → Q σ' H
theorem PG.imp {tg : Expr} {t t0 : TG} (h : PG X tg t) (i : ∀ x σ H Q, t0 x σ H Q → t x σ H Q) : PG X tg t0 := ⟨fun pins s σ H v u Q I r hw => h.run pins s σ H v u Q I r (i v σ H Q hw)⟩
theorem PGs.imp {tg : List Expr} {t t0 : TGs} (h : PGs X tg t) (i : ∀ x σ H Q, t0 x σ H Q → t x σ H Q) : PGs X tg t0 := ⟨fun pins s σ H v u Q I r hw => h.run pins s σ H v u Q I r (i v σ H Q hw)⟩
theorem pmg_name {i : Nat} {x : Str} (hN : X.N.Nodup) (hi : X.N[i]? = some x) (hx : Loc X.env.scope x) (hf : X.fn x = true ∨ X.env.scope.names.lookup x = some .local := by first | exact .inl rfl | exact .inr rfl | assumption) : PMG X (.Name x pos) [i] (tgN i) :=
  PG.imp (pg_name hN hi hx hf) fun x σ H Q ⟨w, ρ, b, v, ρ', EN, r, h1, h2⟩ => by
    cases h1
    exact h2 _ (EN.set i r) fun vs hv => wipe_set (hv i (by simp))
def PMGs (X : Cx) (ts : List Expr) (is : List Nat) : Prop := PGs X ts (tGs X.K is)
theorem pmgs_nil : PMGs X [] [] := PGs.imp pgs_nil fun x σ H Q ⟨w, ρ, b, vs, ρ', EN, r, h1, h2⟩ => by
  cases vs with
  | nil =>
    cases r
    cases h1
    exact ⟨rfl, h2 _ EN fun _ _ => rfl⟩
  | cons v vs => cases h1
theorem pmgs_cons {i : Nat} {x : Str} {is : List Nat} {ts : List Expr} {px : Pos} (hN : X.N.Nodup) (hi : X.N[i]? = some x) (hx : Loc X.env.scope x) (h2 : PMGs X ts is) (hf : X.fn x = true ∨ X.env.scope.names.lookup x = some .local := by first | exact .inl rfl | exact .inr rfl | assumption)
    (ha : (assignEach (.Name x px :: ts) X.env).map (·.2) = assign (.Name x px) X.env :: (assignEach ts X.env).map (·.2) := by rfl) : PMGs X (.Name x px :: ts) (i :: is) :=
  PGs.imp (pgs_cons (pg_name (i := i) hN hi hx hf) h2 ha) fun xs σ H Q ⟨w, ρ, b, vs, ρ', EN, r, h1, h3⟩ => by
    cases vs with
    | nil => cases h1
    | cons v vs =>
      cases r with
      | cons r1 r2 => exact ⟨_, _, rfl, w, _, b, vs, ρ', EN.set i r1, r2, h1, fun σ' EN' hw => h3 σ' EN' fun l hl => (hw l fun j hj => hl j (List.mem_cons_of_mem _ hj)).trans (wipe_set (hl i List.mem_cons_self))⟩
theorem unp_len : ∀ {is : List Nat} {vs : List Val} {ρ ρ' : Rho}, unp is vs ρ = some ρ' → vs.length = is.length
  | [], [], _, _, _ => rfl
  | i :: is, v :: vs, ρ, ρ', h => by simp [unp_len (is := is) (vs := vs) h]
  | [], _ :: _, _, _, h => by cases h
  | _ :: _, [], _, _, h => by cases h
theorem pmg_tup {ts : List Expr} {is : List Nat} {k : Nat} {n : Nat} (hc : X.calm = true) (h : PMGs X ts is) (hl : is.length = n := by rfl)
    (hn : (assignEach ts X.env).length = n := by rfl) (hst : (assignEach ts X.env).findIdx? (·.1) = none := by rfl) : PMG X (.Tuple ts k pos) is (tgT is) :=
  PG.imp (pg_tup hc h hn hst) fun x σ H Q ⟨w, ρ, b, v, ρ', EN, r, h1, h2⟩ => by
    cases v with
    | tup vs =>
      obtain ⟨a, us, rfl, hq, rq⟩ := vr_tup r
      exact ⟨a, us, rfl, hq, by rw [rq.length, unp_len (is := is) h1]; exact hl, w, ρ, b, vs, ρ', EN, rq, h1, h2⟩
    | _ => cases h1
/-! ### stores -/
theorem pms_sto {o i : Expr} {pos' : Pos} (hv : PM X E e mv) (ho : PM X E o mo) (hi : PM X E i mi) (hs : swapsWithSole [.Subscript o i pos'] e pos.line X.env = pure false := by rfl) (hw : swappedStores [.Subscript o i pos'] e X.env = pure none := by rfl)
    (h1 : (assignEach [.Subscript o i pos'] X.env).map (·.2) = [assign (.Subscript o i pos') X.env] := by rfl)
    (ha : ∀ v, assign (.Subscript o i pos') X.env v = (do
      let ov ← holding [v] (eval o X.env)
      let iv ← holding [v, ov] (eval i X.env)
      standAt pos'
      holding [v, ov, iv] (setItem ov iv v)
      release [v, ov, iv] []) := by intro _; rfl) : PMS X E (.Assign [.Subscript o i pos'] e pos) (sSto stoM mo mi mv) :=
  PS.imp (ps_asg hv (pg_sub ho hi set_list ha) hs hw h1) fun D σ H ⟨w, ρ, μ, S, EN, hp⟩ => ⟨w, ρ, μ, S, EN, PostS.bind hp fun v μ1 w1 H1 uv S1 rv g1 h1 => ⟨w1, ρ, μ1, S1, EN.grow g1, PostS.bind h1 fun o μ2 w2 H2 uo S2 ro g2 h2 => ⟨w2, ρ, μ2, S2, (EN.grow g1).grow g2, PostS.bind h2 fun i μ3 w3 H3 ui S3 ri g3 h3 => by
    have rv := VR.grow g3 (VR.grow g2 rv)
    have ro := VR.grow g3 ro
    have EN3 := ((EN.grow g1).grow g2).grow g3
    unfold stoM at h3
    split at h3
    · cases ri
      cases ro
      split at h3
      · rename_i vs hn
        split at h3
        · rename_i j hj
          obtain ⟨us, q1, q2⟩ := S3.ok _ _ hn
          obtain ⟨S4, g4⟩ := S3.setL hn (q2.set j rv)
          exact ⟨_, us, _, j, rfl, rfl, q1, by rw [q2.length]; exact hj, h3 w3 _ σ S4 (EN3.grow g4) g4⟩
        · exact h3.elim
      · exact h3.elim
    · exact h3.elim⟩⟩⟩
end
section
variable {K : PySem.W.Frag} {ad : Adr} {b : Nat} {H : Hp}
end
section
variable {X : Cx} {E : XK} {e c o : Expr} {es : List Expr} {st : Stmt} {sts a b : List Stmt} {m mo mi mv : ME} {ms mt : MS} {mc : MT} {mr : MA} {pos : Pos}
end
end Wn
/-! the law's level: loops, defs -/
namespace Wn
open PySem PySem.Spec PyProof.Rows L2 LamX He

/-! ### what is walked -/
inductive Wk where
  | seq (v : Val) | rng (lo : Int) (n : Nat) | enm (n : Nat) | zip (n m : Nat) | key (n : Nat) | fn (f : Mu → Option (List Val))
def keyV : Key → Val
  | .inl i => .int i
  | .inr x => .str x
def rngM (lo : Int) (n : Nat) : List Val := (List.range n).map fun (k : Nat) => .int (lo + (k : Int))
def enmM (vs : List Val) : List Val := vs.zipIdx.map fun p => .tup [.int (p.2 : Nat), p.1]
def zipM (vs ws : List Val) : List Val := (vs.zip ws).map fun p => .tup [p.1, p.2]
def Wk.items : Wk → Mu → Option (List Val)
  | .seq (.tup vs), _ => some vs
  | .seq (.loc n), μ => seqOf μ n
  | .seq _, _ => none
  | .rng lo n, _ => some (rngM lo n)
  | .enm n, μ => (seqOf μ n).map enmM
  | .zip n m, μ => match seqOf μ n, seqOf μ m with
    | some vs, some ws => some (zipM vs ws)
    | _, _ => none
  | .key n, μ => match μ.ob n with
    | some (.rod kvs) => some (kvs.map fun p => keyV p.1)
    | _ => none
  | .fn f, μ => f μ
abbrev MI := Rho → Mu → R Wk
def relI (K : PySem.W.Frag) : Rel Wk It := fun w b H k J => ∀ w' μ' H', Grow K w b H w' μ'.nx H' → Sim K w' μ' H' → ∀ vs, k.items μ' = some vs → ∀ i : Nat, (vs[i]? = none → J.stop i H') ∧
  ∀ v, vs[i]? = some v → J.go i H' ∧ ∀ x H2, J.yld i H' x H2 → ∃ w2, Sim K w2 μ' H2 ∧ VR K w2.ad μ'.nx H2 v x ∧ Grow K w' μ'.nx H' w2 μ'.nx H2
def PMI (X : Cx) (E : XK) (tg iter : Expr) (m : MI) : Prop := PI X tg iter (tM X.K (relI X.K) E m)
theorem PI.imp {X : Cx} {tg iter : Expr} {t t0 : TI} (h : PI X tg iter t) (i : ∀ σ H R, t0 σ H R → t σ H R) : PI X tg iter t0 := ⟨fun pins s σ H R I hw => h.run pins s σ H R I (i σ H R hw)⟩
def iSeq (m : ME) : MI := fun ρ μ => (m ρ μ).bind fun v μ => match (Wk.seq v).items μ with
  | some _ => .ok (.seq v) μ
  | none => .no
def iRng1 (m : MA) : MI := fun ρ μ => (m ρ μ).bind fun vs μ => match vs with
  | [.int j] => if j ≤ 1000000 ∧ -1000000 ≤ j then .ok (.rng 0 j.toNat) μ else .no
  | _ => .no
def iRng2 (m : MA) : MI := fun ρ μ => (m ρ μ).bind fun vs μ => match vs with
  | [.int i, .int j] => if (j ≤ 1000000 ∧ -1000000 ≤ j) ∧ i ≤ 1000000 ∧ -1000000 ≤ i then .ok (.rng i (j - i).toNat) μ else .no
  | _ => .no
def iEnm (m : MA) : MI := fun ρ μ => (m ρ μ).bind fun vs μ => match vs with
  | [.loc n] => match seqOf μ n with
    | some _ => .ok (.enm n) μ
    | none => .no
  | _ => .no
theorem rngM_get (lo : Int) (n i : Nat) : (rngM lo n)[i]? = if i < n then some (.int (lo + i)) else none := by
  unfold rngM
  rw [List.getElem?_map]
  by_cases c : i < n
  · rw [if_pos c, List.getElem?_range c]
    rfl
  · rw [if_neg c, List.getElem?_eq_none (by rw [List.length_range]; omega)]
    rfl
theorem enmM_get (vs : List Val) (i : Nat) : (enmM vs)[i]? = (vs[i]?).map fun v => .tup [.int (i : Nat), v] := by
  unfold enmM
  rw [List.getElem?_map, List.getElem?_zipIdx]
  cases vs[i]? with
  | none => rfl
  | some v => simp
section
variable {X : Cx} {E : XK} {e tg iter a : Expr} {m n : ME} {pos p : Pos}
theorem relI_seq {K : PySem.W.Frag} {w : Wt} {b : Nat} {H : Hp} {k : Nat} (hk : k < b) : relI K w b H (.seq (.loc k)) (Itl K (w.ad k)) := by
  intro w' μ' H' g S vs hv i
  obtain ⟨us, q1, q2⟩ := seqOf_sq S (show seqOf μ' k = some vs from hv)
  rw [g.ad k hk] at q1
  refine ⟨fun h => ⟨us, q1, ?_⟩, fun v h => ?_⟩
  · rw [q2.length]
    exact List.getElem?_eq_none_iff.mp h
  · obtain ⟨u, e1, e2⟩ := q2.get i v h
    refine ⟨⟨us, u, q1, e1⟩, fun x H2 y => ?_⟩
    obtain ⟨rfl, y⟩ := y
    have := y us q1
    rw [e1] at this
    cases this
    exact ⟨w', S, e2, .refl⟩
theorem relI_tup {K : PySem.W.Frag} {w : Wt} {b : Nat} {H : Hp} {p : Addr} {vs0 : List Val} {us : List V} (hq : SqT K H p us) (r : VRs K w.ad b H vs0 us) : relI K w b H (.seq (.tup vs0)) (Itt K p) := by
  intro w' μ' H' g S vs hv i
  have hv : some vs0 = some vs := hv
  cases hv
  have q1 := g.tp _ _ hq
  have q2 := r.grow g
  refine ⟨fun h => ⟨us, q1, ?_⟩, fun v h => ?_⟩
  · rw [q2.length]
    exact List.getElem?_eq_none_iff.mp h
  · obtain ⟨u, e1, e2⟩ := q2.get i v h
    refine ⟨⟨us, u, q1, e1⟩, fun x H2 y => ?_⟩
    obtain ⟨rfl, y⟩ := y
    have := y us q1
    rw [e1] at this
    cases this
    exact ⟨w', S, e2, .refl⟩
theorem relI_rng {K : PySem.W.Frag} {w : Wt} {b : Nat} {H : Hp} {lo : Int} {n : Nat} : relI K w b H (.rng lo n) (Itr lo n) := by
  intro w' μ' H' g S vs hv i
  have hv : some (rngM lo n) = some vs := hv
  cases hv
  rw [rngM_get]
  refine ⟨fun h => ?_, fun v h => ?_⟩
  · split at h
    · cases h
    · rename_i c
      exact Nat.le_of_not_lt c
  · split at h
    · rename_i c
      cases h
      refine ⟨c, fun x H2 y => ?_⟩
      obtain ⟨rfl, rfl⟩ := y
      exact ⟨w', S, .int _, .refl⟩
    · cases h
theorem relI_enm {K : PySem.W.Frag} {w : Wt} {b : Nat} {H : Hp} {k : Nat} (hk : k < b) : relI K w b H (.enm k) (Ite K (w.ad k)) := by
  intro w' μ' H' g S vs hv i
  obtain ⟨vs0, h0, h1⟩ := Option.map_eq_some_iff.mp (show (seqOf μ' k).map enmM = some vs from hv)
  subst h1
  obtain ⟨us, q1, q2⟩ := seqOf_sq S h0
  rw [g.ad k hk] at q1
  rw [enmM_get]
  refine ⟨fun h => ⟨us, q1, ?_⟩, fun v h => ?_⟩
  · rw [q2.length]
    exact List.getElem?_eq_none_iff.mp (Option.map_eq_none_iff.mp h)
  · obtain ⟨v0, h2, h3⟩ := Option.map_eq_some_iff.mp h
    subst h3
    obtain ⟨u, e1, e2⟩ := q2.get i v0 h2
    refine ⟨⟨us, u, q1, e1⟩, fun x H2 y => ?_⟩
    obtain ⟨T, x', rfl, hT, rfl, hx⟩ := y
    have := hx us q1
    rw [e1] at this
    cases this
    obtain ⟨S4, g4, v4⟩ := S.newT hT (VRs.cons (.int (i : Nat)) (VRs.one e2))
    exact ⟨w', S4, v4, g4⟩
theorem pi_seq {l : Expr} {tl : TE} (hl : PE X l tl) : PI X tg l (fun σ H R => tl σ H fun x H1 => (∃ a, x = .ref a ∧ (∃ xs, SqL X.K H1 a xs) ∧ R (Itl X.K a) H1) ∨ ∃ a, x = .ref a ∧ (∃ xs, SqT X.K H1 a xs) ∧ R (Itt X.K a) H1) := by
  refine ⟨fun pins s σ H R I h => ?_⟩
  refine thn (hl.run pins s σ H _ I h) fun v s1 ⟨x, H1, I1, r1, q1⟩ => ?_
  rcases q1 with ⟨a, e, ⟨xs, hq⟩, q⟩ | ⟨a, e, ⟨xs, hq⟩, q⟩
  · subst e
    cases r1
    obtain ⟨its, rv, p, hz⟩ := I1.list hq
    refine wpAny_pyIter_list p.isList ?_
    refine ⟨s1.heap.objs.size, [s1.heap.objs.size], _, _, H1, rfl, I1.kept (t' := s1.toks) fun b o e => Heap.get?_push_of_some _ e, turn_list a _, ⟨_, Heap.get?_push_size _ rfl, rfl, rfl⟩, fun b hb => ?_, q⟩
    have e : b = s1.heap.objs.size := by simpa using hb
    subst e
    exact I1.fpOk (Nat.le_refl _) (I1.hok.fresh (Nat.le_refl _))
  · subst e
    cases r1
    obtain ⟨its, rv, p, hz⟩ := I1.tuple hq
    refine wpAny_pyIter_tuple (show s1.heap.IsTuple a its.toArray from p) ?_
    refine ⟨s1.heap.objs.size, [s1.heap.objs.size], _, _, H1, rfl, I1.kept (t' := s1.toks) fun b o e => Heap.get?_push_of_some _ e, turn_tuple a _, ⟨_, Heap.get?_push_size _ rfl, rfl, rfl⟩, fun b hb => ?_, q⟩
    have e : b = s1.heap.objs.size := by simpa using hb
    subst e
    exact I1.fpOk (Nat.le_refl _) (I1.hok.fresh (Nat.le_refl _))
theorem pmi_seq (h : PM X E e m) : PMI X E tg e (iSeq m) :=
  PI.imp (pi_seq h) fun σ H R ⟨w, ρ, μ, S, EN, hp⟩ => ⟨w, ρ, μ, S, EN, Post.bind hp fun x μ1 w1 H1 u1 S1 r1 g1 h1 => by
    split at h1
    · rename_i vs hv
      cases x with
      | loc k =>
        cases r1 with
        | loc hk =>
          obtain ⟨us, q1, q2⟩ := seqOf_sq S1 (show seqOf μ1 k = some vs from hv)
          exact .inl ⟨_, rfl, ⟨us, q1⟩, h1 w1 H1 _ S1 (relI_seq hk) .refl⟩
      | tup vs0 =>
        obtain ⟨a, us, rfl, hq, rq⟩ := vr_tup r1
        exact .inr ⟨_, rfl, ⟨us, hq⟩, h1 w1 H1 _ S1 (relI_tup hq rq) .refl⟩
      | non => cases hv
      | bl _ => cases hv
      | int _ => cases hv
      | str _ => cases hv
      | vw _ _ _ => cases hv
    · exact h1.elim⟩
theorem pmi_rng1 {mr : MA} (hg : Gl X "range") (hm : X.mg "range" = none) (h : PMA X E [a] mr) (hs : starEach [a] X.env = [(false, eval a X.env)] := by rfl) : PMI X E tg (.Call (.Name "range" p) [a] [] pos) (iRng1 mr) :=
  PI.imp (pi_range1 hg hm h hs) fun σ H R ⟨w, ρ, μ, S, EN, hp⟩ => ⟨w, ρ, μ, S, EN, Post.bind hp fun x μ1 w1 H1 u1 S1 r1 g1 h1 => by
    split at h1
    · cases r1 with
      | cons r1 r2 =>
        cases r2; cases r1
        split at h1
        · rename_i hz
          exact ⟨_, rfl, by omega, by omega, h1 w1 H1 _ S1 relI_rng .refl⟩
        · exact h1.elim
    · exact h1.elim⟩
theorem pmi_enm {mr : MA} {elts : List Expr} {kk : Nat} {tpos : Pos} (hg : Gl X "enumerate") (hm : X.mg "enumerate" = none) (h : PMA X E [e] mr) (hs : starEach [e] X.env = [(false, eval e X.env)] := by rfl) : PMI X E (.Tuple elts kk tpos) (.Call (.Name "enumerate" p) [e] [] pos) (iEnm mr) :=
  PI.imp (pi_enum hg hm h hs) fun σ H R ⟨w, ρ, μ, S, EN, hp⟩ => ⟨w, ρ, μ, S, EN, Post.bind hp fun x μ1 w1 H1 u1 S1 r1 g1 h1 => by
    split at h1
    · rename_i k
      cases r1 with
      | cons r1 r2 =>
        cases r2
        cases r1 with
        | loc hk =>
          split at h1
          · rename_i vs hv
            obtain ⟨us, q1, q2⟩ := seqOf_sq S1 hv
            exact ⟨_, us, rfl, q1, h1 w1 H1 _ S1 (relI_enm hk) .refl⟩
          · exact h1.elim
    · exact h1.elim⟩
end
/-! ### for -/
def forM' (get : Mu → Option (List Val)) (g : Val → Rho → Option Rho) (body : MS) : Nat → Nat → Rho → Mu → R Fl
  | 0, _, _, _ => .no
  | f + 1, i, ρ, μ => match get μ with
    | none => .no
    | some vs => match vs[i]? with
      | none => .ok (.nx ρ) μ
      | some v => match g v ρ with
        | none => .no
        | some ρ1 => match body ρ1 μ with
          | .ok (.nx ρ2) μ2 => forM' get g body f (i + 1) ρ2 μ2
          | .ok (.ct ρ2) μ2 => forM' get g body f (i + 1) ρ2 μ2
          | .ok (.bk ρ2) μ2 => .ok (.nx ρ2) μ2
          | r => r
def sFor (it : MI) (g : Val → Rho → Option Rho) (body : MS) : MS := fun ρ μ => (it ρ μ).bind fun k μ => match k.items μ with
  | none => .no
  | some vs => forM' k.items g body (vs.length + 1) 0 ρ μ
section
variable {X : Cx} {E : XK} {e tg iter c : Expr} {body : List Stmt} {mi : MI} {is : List Nat} {g : Val → Rho → Option Rho} {mb : MS} {mc : MT} {pos : Pos}
theorem pms_for (hp : PassesOwn (model X.prog X.w) X.A X.env X.xe) (hc : X.calm = true) (hi : PMI X E tg iter mi) (hg : PMG X tg is g) (hb : PMSs X E body mb)
    (hs : ∀ x, foldedSetIterable iter X.env x = pure x := by intro _; rfl) : PMS X E (.For tg iter body [] pos) (sFor mi g mb) :=
  PS.imp (ps_for hp hc hi hg hb hs) fun D σ H ⟨w, ρ, μ, S, EN, hp⟩ => ⟨w, ρ, μ, S, EN, PostS.bind hp fun k μ1 w1 H1 J S1 r1 g1 h1 => by
    split at h1
    · exact h1.elim
    · rename_i vs0 hv0
      refine ⟨fun i f σ' H' => ∃ w' ρ' μ', Sim X.K w' μ' H' ∧ EnvR X.K w' μ'.nx H' ρ' σ' ∧ Grow X.K w1 μ1.nx H1 w' μ'.nx H' ∧ PostS X.K E w' μ'.nx H' D (forM' k.items g mb f i ρ' μ'), ⟨_, w1, ρ, μ1, S1, EN.grow g1, .refl, h1⟩, ?_⟩
      rintro i f σ' H' ⟨w', ρ', μ', S', EN', g', h'⟩
      cases f with
      | zero => exact h'.elim
      | succ f =>
        rw [forM'] at h'
        split at h'
        · exact h'.elim
        · rename_i vs hv
          obtain ⟨q1, q2⟩ := r1 w' μ' H' g' S' vs hv i
          split at h'
          · rename_i hn
            exact .inl ⟨q1 hn, h' w' H' σ' S' EN' .refl⟩
          · rename_i v hn
            obtain ⟨go, yl⟩ := q2 v hn
            refine .inr ⟨go, fun σ2 H2 => ∃ w2 ρ2 μ2, Sim X.K w2 μ2 H2 ∧ EnvR X.K w2 μ2.nx H2 ρ2 σ2 ∧ Grow X.K w1 μ1.nx H1 w2 μ2.nx H2 ∧ PostS X.K E w2 μ2.nx H2 D (forM' k.items g mb f (i + 1) ρ2 μ2), fun σ2 H2 q => ⟨f, Nat.lt_succ_self _, q⟩, fun x H2 y => ?_⟩
            obtain ⟨w2, S2, v2, g2⟩ := yl x H2 y
            split at h'
            · exact h'.elim
            · rename_i ρ1 hg1
              refine ⟨w2, ρ', μ'.nx, v, ρ1, EN'.grow g2, v2, hg1, fun σ3 EN3 _ => ⟨w2, ρ1, μ', S2, EN3, ?_⟩⟩
              have h' := PostS.grow (b1 := μ'.nx) (H1 := H2) (w1 := w2) h' g2
              cases hb2 : mb ρ1 μ' with
              | no => rw [hb2] at h'; exact h'
              | er c fs μ3 => rw [hb2] at h'; exact h'
              | ok a μ3 =>
                cases a with
                | nx ρ3 =>
                  rw [hb2] at h'
                  exact fun w4 H4 σ4 S4 EN4 g4 => ⟨w4, ρ3, μ3, S4, EN4, (g'.trans g2).trans g4, PostS.grow h' g4⟩
                | ct ρ3 =>
                  rw [hb2] at h'
                  exact fun w4 H4 σ4 S4 EN4 g4 => ⟨w4, ρ3, μ3, S4, EN4, (g'.trans g2).trans g4, PostS.grow h' g4⟩
                | bk ρ3 =>
                  rw [hb2] at h'
                  exact h'
                | rt v3 =>
                  rw [hb2] at h'
                  exact h'⟩
end
/-! ### for x in d: the dict is locked meanwhile -/
end Wn
/-! the law's level: comprehensions, defs -/
namespace Wn
open PySem PySem.Spec PyProof.Rows L2 LamX He

def E0' : XK := fun _ _ _ => False
def R.cut {α : Type} : R α → R α
  | .er _ _ _ => .no
  | r => r
@[simp] theorem R.cut_ok {α : Type} (a : α) (μ : Mu) : (R.ok a μ).cut = .ok a μ := rfl
@[simp] theorem R.cut_no {α : Type} : (R.no : R α).cut = .no := rfl
def wipeV (ρ : Rho) : List Nat → Rho
  | [] => ρ
  | v :: vs => (wipeV ρ vs).set v none
theorem EnvR.wipe {K : PySem.W.Frag} {w : Wt} {b : Nat} {H : Hp} {ρ : Rho} {σ : L2.St} (h : EnvR K w b H ρ σ) : ∀ vs : List Nat, EnvR K w b H (wipeV ρ vs) (L2.wipe σ vs)
  | [] => h
  | v :: vs => by
    have ih := h.wipe vs
    unfold wipeV L2.wipe
    refine ⟨by rw [List.length_set, List.length_set]; exact ih.1, fun i x e => ?_⟩
    by_cases c : v = i
    · subst c
      rw [List.getElem?_set, if_pos rfl] at e
      split at e
      · cases e
      · cases e
    · rw [List.getElem?_set_ne c] at e ⊢
      exact ih.2 i x e
theorem wipe_wipe (σ : L2.St) (vs : List Nat) : L2.wipe (L2.wipe σ vs) vs = L2.wipe σ vs := by
  apply List.ext_getElem?
  intro j
  by_cases c : j ∈ vs
  · rw [wipe_in c, wipe_in c]
    cases σ[j]? <;> rfl
  · rw [wipe_out c]
def mYes : MT := fun _ μ => .ok true μ
def lcM (get : Mu → Option (List Val)) (g : Val → Rho → Option Rho) (c : MT) (elt : ME) (D : Nat) (ρ : Rho) : Nat → Nat → Mu → R Unit
  | 0, _, _ => .no
  | f + 1, i, μ => match get μ with
    | none => .no
    | some vs => match vs[i]? with
      | none => .ok () μ
      | some v => match g v ρ with
        | none => .no
        | some ρ1 => (c ρ1 μ).cut.bind fun k μ => if k = true then (elt ρ1 μ).cut.bind fun y μ => match μ.ob D with
              | some (.lst acc) => if acc.length ≤ 1000000 then lcM get g c elt D ρ f (i + 1) (μ.put D (.lst (acc ++ [y]))) else .no
              | _ => .no
            else lcM get g c elt D ρ f (i + 1) μ
def mLc (it : MI) (own : List Nat) (g : Val → Rho → Option Rho) (c : MT) (elt : ME) : ME := fun ρ μ => (it ρ μ).bind fun k μ => match k.items μ with
  | none => .no
  | some vs => (lcM k.items g c elt μ.nx (wipeV ρ own) (vs.length + 1) 0 (μ.new (.lst []))).bind fun _ μ' => .ok (.loc μ.nx) μ'
theorem Post.cut {K : PySem.W.Frag} {α β γ δ : Type} {rel : Rel α β} {rel' : Rel γ δ} {E : XK} {w : Wt} {b : Nat} {H : Hp} {Q : δ → Hp → Prop} {Q1 : β → Hp → Prop} {r : R α} {k : α → Mu → R γ} (h : Post K rel' E w b H Q (r.cut.bind k))
    (f : ∀ a μ1 w1 H1 u1, Sim K w1 μ1 H1 → rel w1 μ1.nx H1 a u1 → Grow K w b H w1 μ1.nx H1 → Post K rel' E w1 μ1.nx H1 Q (k a μ1) → Q1 u1 H1) : Post K rel E0' w b H Q1 r := by
  cases r with
  | ok a μ1 => exact fun w1 H1 u1 S r g => f a μ1 w1 H1 u1 S r g (Post.grow h g)
  | er c fs μ => exact h.elim
  | no => exact h.elim
def PMTs (X : Cx) (ifs : List Expr) (m : MT) : Prop := PTs X ifs (tM X.K relT E0' m)
theorem PTs.imp {X : Cx} {e : List Expr} {t t0 : TT} (h : PTs X e t) (i : ∀ σ H Q, t0 σ H Q → t σ H Q) : PTs X e t0 := ⟨fun pins s σ H Q I hw => h.run pins s σ H Q I (i σ H Q hw)⟩
section
variable {X : Cx} {E : XK}
theorem pmts_nil : PMTs X [] mYes := PTs.imp pts_nil fun σ H Q ⟨w, ρ, μ, S, EN, hp⟩ => hp w H true S rfl .refl
theorem lc_sim {K : PySem.W.Frag} {σ : L2.St} {is own : List Nat} {g : Val → Rho → Option Rho} {mc : MT} {me : ME} {k : Wk} {J : It} {w1 : Wt} {μ1 : Mu} {H1 : Hp} {ρ : Rho} {Q : VK} {vs0 : List Val} (S1 : Sim K w1 μ1 H1) (EN1 : EnvR K w1 μ1.nx H1 ρ σ) (r1 : relI K w1 μ1.nx H1 k J) (hsub : ∀ i ∈ is, i ∈ own)
    (h1 : Post K (relE K) E w1 μ1.nx H1 Q ((lcM k.items g mc me μ1.nx (wipeV ρ own) (vs0.length + 1) 0 (μ1.new (.lst []))).bind fun _ μ' => .ok (.loc μ1.nx) μ')) (D : Addr) (hD : H1 D = none) :
    ∃ W : Nat → Nat → Hp → Prop, (∃ m, W 0 m (upd H1 D (.lst []))) ∧ ∀ i m H, W i m H →
      (J.stop i H ∧ Q (.ref D) H) ∨ (J.go i H ∧ ∃ Nx : Hp → Prop, (∀ H', Nx H' → ∃ m', m' < m ∧ W (i + 1) m' H') ∧ ∀ x H', J.yld i H x H' → tG K is g x (L2.wipe σ own) H' fun σ2 H2 => L2.wipe σ2 own = L2.wipe σ own ∧ tM K relT E0' mc σ2 H2 fun b H3 =>
        if b = true then tM K (relE K) E0' me σ2 H3 fun y H4 => ∃ acc, H4 D = some (.lst acc) ∧ acc.length < sizeLine ∧ Nx (upd H4 D (.lst (acc ++ [y]))) else Nx H3) := by
  obtain ⟨w2, S2, g2, e2⟩ := S1.newL hD (vs := []) (us := []) .nil
  have hnx : μ1.nx < μ1.nx + 1 := Nat.lt_succ_self _
  refine ⟨fun i f H' => ∃ w' μ', Sim K w' μ' H' ∧ Grow K w2 (μ1.nx + 1) (upd H1 D (.lst [])) w' μ'.nx H' ∧ Post K (relE K) E w' μ'.nx H' Q ((lcM k.items g mc me μ1.nx (wipeV ρ own) f i μ').bind fun _ μ' => .ok (.loc μ1.nx) μ'), ⟨_, w2, μ1.new (.lst []), S2, .refl, Post.grow h1 g2⟩, ?_⟩
  rintro i f H' ⟨w', μ', S', g', h'⟩
  have eD : w'.ad μ1.nx = D := (g'.ad _ hnx).trans e2
  have gg := g2.trans g'
  cases f with
  | zero => exact h'.elim
  | succ f =>
    rw [lcM] at h'
    split at h'
    · exact h'.elim
    · rename_i vs hv
      obtain ⟨q1, q2⟩ := r1 w' μ' H' gg S' vs hv i
      split at h'
      · rename_i hn
        refine .inl ⟨q1 hn, h' w' H' _ S' ?_ .refl⟩
        have := VR.loc (K := K) (ad := w'.ad) (H := H') (Nat.lt_of_lt_of_le hnx g'.le)
        rw [eD] at this
        exact this
      · rename_i v hn
        obtain ⟨go, yl⟩ := q2 v hn
        refine .inr ⟨go, fun H2 => ∃ w2' μ2, Sim K w2' μ2 H2 ∧ Grow K w2 (μ1.nx + 1) (upd H1 D (.lst [])) w2' μ2.nx H2 ∧ Post K (relE K) E w2' μ2.nx H2 Q ((lcM k.items g mc me μ1.nx (wipeV ρ own) f (i + 1) μ2).bind fun _ μ' => .ok (.loc μ1.nx) μ'), fun H2 q => ⟨f, Nat.lt_succ_self _, q⟩, fun x H2 y => ?_⟩
        obtain ⟨w3, S3, v3, g3⟩ := yl x H2 y
        split at h'
        · exact h'.elim
        · rename_i ρ1 hg1
          refine ⟨w3, wipeV ρ own, μ'.nx, v, ρ1, ((EN1.grow gg).grow g3).wipe own, v3, hg1, fun σ3 EN3 hw => ⟨?_, w3, ρ1, μ', S3, EN3, ?_⟩⟩
          · have z := hw own hsub
            rw [z]
            exact wipe_wipe σ own
          · have h4 := Post.grow (b1 := μ'.nx) (H1 := H2) (w1 := w3) h' g3
            have h4 : Post K (relE K) E w3 μ'.nx H2 Q ((mc ρ1 μ').cut.bind fun a μ => ((if a = true then (me ρ1 μ).cut.bind fun y μ => match μ.ob μ1.nx with
                | some (.lst acc) => if acc.length ≤ 1000000 then lcM k.items g mc me μ1.nx (wipeV ρ own) f (i + 1) (μ.put μ1.nx (.lst (acc ++ [y]))) else .no
                | _ => .no
              else lcM k.items g mc me μ1.nx (wipeV ρ own) f (i + 1) μ).bind fun _ μ' => .ok (.loc μ1.nx) μ')) := by
              cases hmc : (mc ρ1 μ').cut with
              | ok a μ => rw [hmc] at h4; exact h4
              | er c fs μ => rw [hmc] at h4; exact h4
              | no => rw [hmc] at h4; exact h4
            refine Post.cut h4 fun c μ4 w4 H4 u4 S4 r4 g4 h5 => ?_
            cases r4
            cases c with
            | false => exact iteF ⟨w4, μ4, S4, (g'.trans g3).trans g4, h5⟩
            | true =>
              refine iteT ⟨w4, ρ1, μ4, S4, EN3.grow g4, ?_⟩
              rw [if_pos rfl] at h5
              have h5 : Post K (relE K) E w4 μ4.nx H4 Q ((me ρ1 μ4).cut.bind fun y μ => ((match μ.ob μ1.nx with
                | some (.lst acc) => if acc.length ≤ 1000000 then lcM k.items g mc me μ1.nx (wipeV ρ own) f (i + 1) (μ.put μ1.nx (.lst (acc ++ [y]))) else .no
                | _ => .no).bind fun _ μ' => .ok (.loc μ1.nx) μ')) := by
                cases hmc : (me ρ1 μ4).cut with
                | ok a μ => rw [hmc] at h5; exact h5
                | er c fs μ => rw [hmc] at h5; exact h5
                | no => rw [hmc] at h5; exact h5
              refine Post.cut h5 fun y μ5 w5 H5 u5 S5 r5 g5 h6 => ?_
              split at h6
              · rename_i acc hacc
                split at h6
                · rename_i hz
                  obtain ⟨us, q3, q4⟩ := S5.ok _ _ hacc
                  have g5' := ((g'.trans g3).trans g4).trans g5
                  have eD5 : w5.ad μ1.nx = D := (g5'.ad _ hnx).trans e2
                  obtain ⟨S6, g6⟩ := S5.setL hacc (q4.app (VRs.one r5))
                  rw [eD5] at q3 S6 g6
                  exact ⟨us, q3, by rw [q4.length]; exact lim6 hz, w5, _, S6, g5'.trans g6, Post.grow h6 g6⟩
                · exact h6.elim
              · exact h6.elim
theorem pm_lc {elt tg iter : Expr} {ifs : List Expr} {scope : Scope} {own : List (Str × Nat)} {pos : Pos} {mi : MI} {is : List Nat} {g : Val → Rho → Option Rho} {mc : MT} {me : ME} (hc : X.calm = true) (hN : X.N.Nodup) (hi : PMI X E tg iter mi) (ok : BlkOk X.N X.env.scope scope own)
    (hg : ∀ (s : Shared) (H : Hp) (C : Addr) (cl : List (Str × Addr)) (fp : List Addr), PMG (X.blk s H scope (compEnvC scope cl C X.env) fp) tg is g) (ht : ∀ (s : Shared) (H : Hp) (C : Addr) (cl : List (Str × Addr)) (fp : List Addr), PMTs (X.blk s H scope (compEnvC scope cl C X.env) fp) ifs mc)
    (he : ∀ (s : Shared) (H : Hp) (C : Addr) (cl : List (Str × Addr)) (fp : List Addr), PM (X.blk s H scope (compEnvC scope cl C X.env) fp) E0' elt me) (hsub : ∀ i ∈ is, i ∈ own.map (·.2) := by decide) (hs : ∀ x, foldedSetIterable iter X.env x = pure x := by intro _; rfl) :
    PM X E (.ListComp elt [⟨tg, iter, ifs, 0⟩] scope pos) (mLc mi (own.map (·.2)) g mc me) :=
  PE.imp (pe_lc (g := tG X.K is g) (tt := tM X.K relT E0' mc) (te := tM X.K (relE X.K) E0' me) hc hN hi ok hg ht he hs) fun σ H Q ⟨w, ρ, μ, S, EN, hp⟩ => ⟨w, ρ, μ, S, EN, Post.bind hp fun k μ1 w1 H1 J S1 r1 g1 h1 => by
    split at h1
    · exact h1.elim
    · exact fun D hD => lc_sim S1 (EN.grow g1) r1 hsub h1 D hD⟩
theorem pms_setLc {i : Nat} {y : Str} {py : Pos} {elt tg iter : Expr} {ifs : List Expr} {scope : Scope} {own : List (Str × Nat)} {pos spos : Pos} {mi : MI} {is : List Nat} {g : Val → Rho → Option Rho} {mc : MT} {me : ME} (hc : X.calm = true) (hN : X.N.Nodup) (hy : X.N[i]? = some y) (hyl : X.env.scope.names.lookup y = some .local)
    (hsw : swapsWith (.ListComp elt [⟨tg, iter, ifs, 0⟩] scope pos) (some (.Name y py)) spos.line X.env = pure true) (hi : PMI X E tg iter mi) (ok : BlkOk X.N X.env.scope scope own)
    (hg : ∀ (s : Shared) (H : Hp) (C : Addr) (cl : List (Str × Addr)) (fp : List Addr), PMG (X.blk s H scope (compEnvC scope cl C X.env) fp) tg is g) (ht : ∀ (s : Shared) (H : Hp) (C : Addr) (cl : List (Str × Addr)) (fp : List Addr), PMTs (X.blk s H scope (compEnvC scope cl C X.env) fp) ifs mc)
    (he : ∀ (s : Shared) (H : Hp) (C : Addr) (cl : List (Str × Addr)) (fp : List Addr), PM (X.blk s H scope (compEnvC scope cl C X.env) fp) E0' elt me) (hsub : ∀ i ∈ is, i ∈ own.map (·.2) := by decide) (hs : ∀ x, foldedSetIterable iter X.env x = pure x := by intro _; rfl) :
    PMS X E (.Assign [.Name y py] (.ListComp elt [⟨tg, iter, ifs, 0⟩] scope pos) spos) (sSet i (mLc mi (own.map (·.2)) g mc me)) :=
  PS.imp (ps_setLc (g := tG X.K is g) (tt := tM X.K relT E0' mc) (te := tM X.K (relE X.K) E0' me) hc hN hy hyl hsw hi ok hg ht he hs) fun D σ H ⟨w, ρ, μ, S, EN, hp⟩ => by
    have hp2 : Post X.K (relE X.K) E w μ.nx H (fun u H1 => D.nx (σ.set i (some u)) H1) (mLc mi (own.map (·.2)) g mc me ρ μ) := PostS.bind hp fun x μ1 w1 H1 u1 S1 r1 g1 h1 => h1 w1 H1 _ S1 ((EN.grow g1).set i r1) .refl
    exact ⟨w, ρ, μ, S, EN, Post.bind hp2 fun k μ1 w1 H1 J S1 r1 g1 h1 => by
      split at h1
      · exact h1.elim
      · exact fun D hD => lc_sim S1 (EN.grow g1) r1 hsub h1 D hD⟩
/-- list(range(..)) -/
def mListR1 (m : MA) : ME := fun ρ μ => (m ρ μ).bind fun vs μ => match vs with
  | [.int j] => if j ≤ 1000000 ∧ -1000000 ≤ j then .ok (.loc μ.nx) (μ.new (.lst (rngM 0 j.toNat))) else .no
  | _ => .no
theorem VRs.rng {K : PySem.W.Frag} {ad : Adr} {b : Nat} {H : Hp} (lo : Int) (n : Nat) : VRs K ad b H (rngM lo n) (rngV lo n) := by
  unfold rngM rngV
  induction (List.range n) with
  | nil => exact .nil
  | cons a l ih => exact .cons (.int _) ih
end
/-! ### defs -/
def startV (N : Nat) (vs : List Val) : Rho := vs.map some ++ List.replicate (N - vs.length) none
def runM (n N : Nat) (m : MS) (args : List Val) (μ : Mu) : R Val := if args.length = n then match m (startV N args) μ with
    | .ok (.nx _) μ' => .ok .non μ'
    | .ok (.rt v) μ' => .ok v μ'
    | .ok _ _ => .no
    | .er c fs μ' => .er c fs μ'
    | .no => .no
  else .no
def spM (K : PySem.W.Frag) (n : Nat) (d : List Val → Mu → R Val) : Sp := fun vs H Q E => vs.length = n ∧ ∃ w μ args, Sim K w μ H ∧ VRs K w.ad μ.nx H args vs ∧ Post K (relE K) E0' w μ.nx H Q (d args μ)
theorem EnvR.start {K : PySem.W.Frag} {w : Wt} {b : Nat} {H : Hp} {N : List Str} {vs : List V} {args : List Val} (r : VRs K w.ad b H args vs) : EnvR K w b H (startV N.length args) (L2.start N vs) := by
  have hl := r.length
  unfold startV L2.start
  refine ⟨by simp [hl], fun i v e => ?_⟩
  by_cases c : i < args.length
  · rw [List.getElem?_append_left (by simpa using c), List.getElem?_map] at e
    obtain ⟨v', h1, h2⟩ := Option.map_eq_some_iff.mp e
    cases h2
    obtain ⟨u, h3, h4⟩ := r.get i v h1
    refine ⟨u, ?_, h4⟩
    rw [List.getElem?_append_left (by rw [List.length_map]; omega), List.getElem?_map, h3]
    rfl
  · rw [List.getElem?_append_right (by simpa using c), List.getElem?_replicate] at e
    split at e
    · cases e
    · cases e
section
variable {P : Program} {w : World} {K : PySem.W.Frag} {mg : Str → Option Value} {base : Heap} {x qual : Str} {params : Arguments} {body : List Stmt} {scope : Scope} {dvs : List V} {kws : List (Str × V)} {f : Addr} {fd : FuncData}
/-- a def of the law -/
theorem okM {N ps : List Str} {k n N' : Nat} {m : MS} (F : FunD K x qual params body scope dvs kws f fd) (Sc : FnScope N ps scope) (hn : n = ps.length) (hN : N' = N.length)
    (hbody : ∀ (cdv : Value) (A : Around) (outer : List Env) (s : Shared) (H : Hp), A.guards = some [] → Room k (A.deeper (envOfC qual scope s.heap.objs.size f cdv)) → PMSs (cxOf CX0 P w K mg base N qual scope f cdv A outer s H E0').nox E0' body m) :
    FnG P w K mg base CX0 (k + 1) f fd ps (spM K n (runM n N' m)) := by
  subst hn hN
  refine okG F Sc (fun vs H Q E h => h.1) (fun cdv A outer s H vs Q E hg hr h => ?_)
  obtain ⟨hl, w', μ, args, S, r, hp⟩ := h
  refine ⟨_, PSs.nox (hbody cdv A outer s H hg hr), w', startV N.length args, μ, S, EnvR.start r, ?_⟩
  unfold runM at hp
  rw [if_pos (by rw [← r.length]; exact hl)] at hp
  show PostS K E0' w' μ.nx H _ (m (startV N.length args) μ)
  cases hm : m (startV N.length args) μ with
  | no => rw [hm] at hp; exact hp
  | er c fs μ1 => rw [hm] at hp; exact hp
  | ok a μ1 =>
    rw [hm] at hp
    cases a with
    | nx ρ => exact fun w1 H1 σ1 S1 EN1 g1 => hp w1 H1 _ S1 .non g1
    | rt v => exact fun w1 H1 u S1 r1 g1 => hp w1 H1 u S1 r1 g1
    | bk ρ => exact hp.elim
    | ct ρ => exact hp.elim
end
section
variable {X : Cx} {E : XK} {k n : Nat} {f : Addr} {fd : FuncData} {ps : List Str} {d : List Val → Mu → R Val} {x : Str} {p pos : Pos} {e : Expr} {es : List Expr} {mr : MA}
/-- a def of the law that is called, with as many arguments as it has -/
def mCall (n : Nat) (d : List Val → Mu → R Val) (m : MA) : ME := fun ρ μ => (m ρ μ).bind fun xs μ => if xs.length = n then (d xs μ).cut else .no
theorem pm_call (F : FnG X.prog X.w X.K X.mg X.base CX0 k f fd ps (spM X.K n d)) (hgd : X.A.guards = some []) (hr : Room k X.A) (hg : Gl X x) (hm : X.mg x = some (.ref f)) (hk : PySem.W.keepIn X.K (.ref f) = true) (hb : Binds X.K fd ps [])
    (ha : PMA X E (e :: es) mr) (hdb : (x == ("__debug__" : Str)) = false := by decide) (he : starEach (e :: es) X.env = (false, eval e X.env) :: starEach es X.env := by rfl) (hpl : (backTo pos (starEach es X.env)).any (·.1) = false := by rfl) :
    PM X E (.Call (.Name x p) (e :: es) [] pos) (mCall n d mr) :=
  PE.imp (pe_callG F hgd hr hg hm hk hb .nil (E := E0') (pass0) ha hdb he hpl) fun σ H Q ⟨w, ρ, μ, S, EN, hp⟩ => ⟨w, ρ, μ, S, EN, Post.bind hp fun xs μ1 w1 H1 us S1 r1 g1 h1 => by
    split at h1
    · rename_i hl
      rw [List.append_nil]
      refine ⟨r1.length.trans hl, w1, μ1, xs, S1, r1, ?_⟩
      cases hd : d xs μ1 with
      | no => rw [hd] at h1; exact h1
      | er c fs μ2 => rw [hd] at h1; exact h1.elim
      | ok a μ2 => rw [hd] at h1; exact h1
    · exact h1.elim⟩
end
end Wn
/-! the law's level: methods of systems -/
namespace Wn
open PySem PySem.Spec PyProof.Rows L2 LamX He

/-! ### o.m(e, .., k = v, ..) -/
section
variable {X : Cx} {CX : CXT} {k n : Nat} {f C : Addr} {fd : FuncData} {ps ks : List Str} {sp : Sp} {E : XK} {x m : Str} {p pos apos : Pos} {o e : Expr} {es : List Expr} {kws : List Keyword} {ta : TE} {t tk : TA} {g : List Value → List Value → List Value} {gV : List V → List V → List V}
end
/-! ### methods of systems -/
def sysOf (x : Val) (μ : Mu) : Option (Nat × Sv) := match x with
  | .loc n => match μ.ob n with
    | some (.sys v) => some (n, v)
    | _ => none
  | _ => none
abbrev MSy := Nat → Sv → List Val → Mu → R Val
def onSys (f : MSy) (x : Val) (xs : List Val) (μ : Mu) : R Val := match sysOf x μ with
  | some p => f p.1 p.2 xs μ
  | none => .no
def mMeth (f : MSy) (ds : List Val) (o : ME) (a : MA) : ME := fun ρ μ => (o ρ μ).bind fun x μ => match sysOf x μ with
  | none => .no
  | some _ => (a ρ μ).bind fun xs μ => onSys f x (xs ++ ds) μ
def mMethK (f : MSy) (n l : Nat) (g : List Val → List Val → List Val) (o : ME) (a b : MA) : ME := fun ρ μ => (o ρ μ).bind fun x μ => match sysOf x μ with
  | none => .no
  | some _ => (a ρ μ).bind fun xs μ => (b ρ μ).bind fun zs μ => if xs.length = n ∧ zs.length = l then onSys f x (g xs zs) μ else .no
def PMK (X : Cx) (E : XK) (kws : List Keyword) (m : MA) : Prop := PK X kws (tM X.K (relA X.K) E m)
theorem PK.imp {X : Cx} {e : List Keyword} {t t0 : TA} (h : PK X e t) (i : ∀ σ H Q, t0 σ H Q → t σ H Q) : PK X e t0 := ⟨fun pos pins s σ H Q I hw => h.run pos pins s σ H Q I (i σ H Q hw)⟩
section
variable {X : Cx} {E : XK} {k n : Nat} {f : Addr} {fd : FuncData} {ps ks : List Str} {sp : Sp} {m : Str} {p pos apos kpos : Pos} {o e : Expr} {es : List Expr} {kws : List Keyword} {mo me : ME} {mr mk : MA} {fm : MSy} {dvs : List V} {ds : List Value} {dM : List Val}
theorem pmk_nil : PMK X E [] mNil := PK.imp pk_nil fun σ H Q ⟨w, ρ, μ, S, EN, hp⟩ => hp w H [] S .nil .refl
theorem pmk_cons {nm} (ha : PM X E e me) (hr : PMK X E kws mr) : PMK X E (⟨nm, e, kpos⟩ :: kws) (mCons me mr) :=
  PK.imp (pk_cons ha hr) fun σ H Q ⟨w, ρ, μ, S, EN, hp⟩ => ⟨w, ρ, μ, S, EN, Post.bind hp fun x μ1 w1 H1 u1 S1 r1 g1 h1 => ⟨w1, ρ, μ1, S1, EN.grow g1, Post.bind h1 fun xs μ2 w2 H2 u2 S2 r2 g2 h2 => h2 w2 H2 _ S2 (.cons (VR.grow g2 r1) r2) .refl⟩⟩
/-- a new system -/
def mMake (f : List Val → Mu → R Val) (a : MA) : ME := fun ρ μ => (a ρ μ).bind fun xs μ => f xs μ
end
/-! ### errors that are raised, new data -/
end Wn
/-! the law's level: small things -/
namespace Wn
open PySem PySem.Spec PyProof.Rows L2 LamX He
theorem _root_.L2.Room.units1 {k : Nat} {A : Around} (r : Room k A) : A.units + 65 < cLine := by have := r.un; omega
def negM : Val → Mu → R Val
  | .int i, μ => .ok (.int (-i)) μ
  | _, _ => .no
end Wn
/-! the law's level: frames -/
namespace Wn
open PySem PySem.Spec PyProof.Rows L2 LamX He
/-- all objects but those of S stand -/
structure Kee (S : List Nat) (μ μ' : Mu) : Prop where
  le : μ.nx ≤ μ'.nx
  ob : ∀ n, n < μ.nx → n ∉ S → μ'.ob n = μ.ob n
  vr : ∀ n, n < μ.nx → n ∉ S → μ'.vr n = μ.vr n
theorem Kee.refl (S : List Nat) (μ : Mu) : Kee S μ μ := ⟨Nat.le_refl _, fun _ _ _ => rfl, fun _ _ _ => rfl⟩
theorem Kee.trans {S : List Nat} {μ μ1 μ2 : Mu} (a : Kee S μ μ1) (b : Kee S μ1 μ2) : Kee S μ μ2 := ⟨Nat.le_trans a.le b.le, fun n h q => (b.ob n (Nat.lt_of_lt_of_le h a.le) q).trans (a.ob n h q), fun n h q => (b.vr n (Nat.lt_of_lt_of_le h a.le) q).trans (a.vr n h q)⟩
theorem Kee.mono {S S' : List Nat} {μ μ' : Mu} (a : Kee S μ μ') (h : ∀ n ∈ S, n ∈ S') : Kee S' μ μ' := ⟨a.le, fun n l q => a.ob n l fun z => q (h n z), fun n l q => a.vr n l fun z => q (h n z)⟩
theorem Kee.put {S : List Nat} {μ : Mu} {n : Nat} {o : Ob} (h : n ∈ S) : Kee S μ (μ.put n o) := ⟨Nat.le_refl _, fun m _ q => Mu.put_ne _ _ fun z => q (z ▸ h), fun m _ q => Mu.put_vrN _ _ fun z => q (z ▸ h)⟩
theorem Kee.new {S : List Nat} {μ : Mu} {o : Ob} : Kee S μ (μ.new o) := ⟨Nat.le_succ _, fun m l _ => Mu.new_ne _ _ (Nat.ne_of_lt l), fun _ _ _ => rfl⟩
theorem Kee.lt {S : List Nat} {μ μ' : Mu} (a : Kee S μ μ') {n : Nat} (h : n < μ.nx) : n < μ'.nx := Nat.lt_of_lt_of_le h a.le
/-- an object that is new is not one of S -/
theorem Kee.weak {S T : List Nat} {μ μ' : Mu} (a : Kee (S ++ T) μ μ') (h : ∀ n ∈ T, μ.nx ≤ n) : Kee S μ μ' := ⟨a.le, fun n l q => a.ob n l fun z => (List.mem_append.mp z).elim q fun z => absurd l (Nat.not_lt.mpr (h n z)), fun n l q => a.vr n l fun z => (List.mem_append.mp z).elim q fun z => absurd l (Nat.not_lt.mpr (h n z))⟩
def Bag (μ : Mu) (b : Nat) : Prop := b < μ.nx ∧ ∃ c m, μ.ob b = some (.lst [.int c, .int m])
theorem Bag.keep {S : List Nat} {μ μ' : Mu} {b : Nat} (h : Bag μ b) (k : Kee S μ μ') (q : b ∉ S) : Bag μ' b := ⟨k.lt h.1, by rw [k.ob b h.1 q]; exact h.2⟩
/-! ### outcomes -/
def Goes (r : R Fl) (P : Rho → Mu → Prop) : Prop := match r with
  | .ok (.nx ρ) μ => P ρ μ
  | _ => False
def Gets {α : Type} (r : R α) (P : α → Mu → Prop) : Prop := match r with
  | .ok a μ => P a μ
  | _ => False
def Rets (r : R Fl) (P : Val → Mu → Prop) : Prop := match r with
  | .ok (.nx _) μ => P .non μ
  | .ok (.rt v) μ => P v μ
  | _ => False
theorem Goes_nx (ρ : Rho) (μ : Mu) (P : Rho → Mu → Prop) : Goes (.ok (.nx ρ) μ) P = P ρ μ := rfl
theorem Gets_ok {α : Type} (a : α) (μ : Mu) (P : α → Mu → Prop) : Gets (.ok a μ) P = P a μ := rfl
theorem Rets_nx (ρ : Rho) (μ : Mu) (P : Val → Mu → Prop) : Rets (.ok (.nx ρ) μ) P = P .non μ := rfl
theorem Rets_rt (v : Val) (μ : Mu) (P : Val → Mu → Prop) : Rets (.ok (.rt v) μ) P = P v μ := rfl
theorem Goes.mono {r : R Fl} {P Q : Rho → Mu → Prop} (h : Goes r P) (f : ∀ ρ μ, P ρ μ → Q ρ μ) : Goes r Q := by
  cases r with
  | ok a μ =>
    cases a with
    | nx ρ => exact f _ _ h
    | _ => exact h
  | _ => exact h
theorem Rets.mono {r : R Fl} {P Q : Val → Mu → Prop} (h : Rets r P) (f : ∀ v μ, P v μ → Q v μ) : Rets r Q := by
  cases r with
  | ok a μ =>
    cases a with
    | nx ρ => exact f _ _ h
    | rt v => exact f _ _ h
    | _ => exact h
  | _ => exact h
theorem Gets.mono {α : Type} {r : R α} {P Q : α → Mu → Prop} (h : Gets r P) (f : ∀ v μ, P v μ → Q v μ) : Gets r Q := by
  cases r with
  | ok a μ => exact f _ _ h
  | _ => exact h
theorem Goes.ex {r : R Fl} {P : Rho → Mu → Prop} (h : Goes r P) : ∃ ρ μ, r = .ok (.nx ρ) μ ∧ P ρ μ := by
  cases r with
  | ok a μ =>
    cases a with
    | nx ρ => exact ⟨ρ, μ, rfl, h⟩
    | _ => exact h.elim
  | _ => exact h.elim
theorem Gets.ex {α : Type} {r : R α} {P : α → Mu → Prop} (h : Gets r P) : ∃ a μ, r = .ok a μ ∧ P a μ := by
  cases r with
  | ok a μ => exact ⟨a, μ, rfl, h⟩
  | _ => exact h.elim
theorem Goes.then {r : R Fl} {k : Rho → Mu → R Fl} {P : Rho → Mu → Prop} (h : Goes r fun ρ μ => Goes (k ρ μ) P) : Goes (sThen r k) P := by
  obtain ⟨ρ, μ, rfl, h⟩ := h.ex
  exact h
theorem Rets.then {r : R Fl} {k : Rho → Mu → R Fl} {P : Val → Mu → Prop} (h : Goes r fun ρ μ => Rets (k ρ μ) P) : Rets (sThen r k) P := by
  obtain ⟨ρ, μ, rfl, h⟩ := h.ex
  exact h
theorem Goes.bind {α : Type} {r : R α} {k : α → Mu → R Fl} {P : Rho → Mu → Prop} (h : Gets r fun a μ => Goes (k a μ) P) : Goes (r.bind k) P := by
  obtain ⟨ρ, μ, rfl, h⟩ := h.ex
  exact h
theorem Rets.bind {α : Type} {r : R α} {k : α → Mu → R Fl} {P : Val → Mu → Prop} (h : Gets r fun a μ => Rets (k a μ) P) : Rets (r.bind k) P := by
  obtain ⟨ρ, μ, rfl, h⟩ := h.ex
  exact h
theorem Gets.bind {α β : Type} {r : R α} {k : α → Mu → R β} {P : β → Mu → Prop} (h : Gets r fun a μ => Gets (k a μ) P) : Gets (r.bind k) P := by
  obtain ⟨ρ, μ, rfl, h⟩ := h.ex
  exact h
/-- a def's run -/
theorem Gets.run {n N : Nat} {m : MS} {args : List Val} {μ : Mu} {P : Val → Mu → Prop} (hl : args.length = n) (h : Rets (m (startV N args) μ) P) : Gets (runM n N m args μ) P := by
  unfold runM
  rw [if_pos hl]
  cases e : m (startV N args) μ with
  | ok a μ1 =>
    rw [e] at h
    cases a with
    | nx ρ => exact h
    | rt v => exact h
    | bk _ => exact h.elim
    | ct _ => exact h.elim
  | er _ _ _ => rw [e] at h; exact h.elim
  | no => rw [e] at h; exact h.elim
/-! ### loops -/
section
variable {get : Mu → Option (List Val)} {g : Val → Rho → Option Rho} {body : MS} {P : Rho → Mu → Prop}
/-- a for whose body always goes on, by an invariant -/
theorem for_goes {vs : List Val} (I : Nat → Rho → Mu → Prop) (hget : ∀ i ρ μ, i ≤ vs.length → I i ρ μ → get μ = some vs)
    (hs : ∀ i v ρ μ, vs[i]? = some v → I i ρ μ → ∃ ρ1, g v ρ = some ρ1 ∧ Goes (body ρ1 μ) (I (i + 1))) (hd : ∀ ρ μ, I vs.length ρ μ → P ρ μ) :
    ∀ (f i : Nat) (ρ : Rho) (μ : Mu), i + f = vs.length + 1 → i ≤ vs.length → I i ρ μ → Goes (forM' get g body f i ρ μ) P
  | 0, i, ρ, μ, hf, hi, h => by omega
  | f + 1, i, ρ, μ, hf, hi, h => by
    have hg := hget i ρ μ (by omega) h
    by_cases c : i < vs.length
    · obtain ⟨ρ1, h1, h2⟩ := hs i vs[i] ρ μ (List.getElem?_eq_getElem c) h
      obtain ⟨ρ2, μ2, h3, h4⟩ := h2.ex
      have h5 := for_goes I hget hs hd f (i + 1) ρ2 μ2 (by omega) (by omega) h4
      rw [forM', hg]
      simp only [List.getElem?_eq_getElem c, h1, h3]
      exact h5
    · have e : i = vs.length := by omega
      subst e
      rw [forM', hg]
      simp only [List.getElem?_eq_none (Nat.le_refl _)]
      exact hd _ _ h
theorem sFor_goes {it : MI} {ρ : Rho} {μ μ1 : Mu} {k : Wk} {vs : List Val} (hi : it ρ μ = .ok k μ1) (hv : k.items μ1 = some vs) (I : Nat → Rho → Mu → Prop) (h0 : I 0 ρ μ1) (hget : ∀ i ρ μ, i ≤ vs.length → I i ρ μ → k.items μ = some vs)
    (hs : ∀ i v ρ μ, vs[i]? = some v → I i ρ μ → ∃ ρ1, g v ρ = some ρ1 ∧ Goes (body ρ1 μ) (I (i + 1))) (hd : ∀ ρ μ, I vs.length ρ μ → P ρ μ) : Goes (sFor it g body ρ μ) P := by
  unfold sFor
  rw [hi, R.bind_ok]
  simp only [hv]
  exact for_goes I hget hs hd _ 0 ρ μ1 (by omega) (Nat.zero_le _) h0
end
end Wn
/-! the law's level: comprehensions, plainly -/
namespace Wn
open PySem PySem.Spec PyProof.Rows L2 LamX He
section
variable {k : Wk} {g : Val → Rho → Option Rho} {c : MT} {elt : ME} {ρ : Rho} {μ : Mu} {vs : List Val} {rv : Val → Rho} {p : Val → Bool} {f : Val → Val}
end
end Wn
/-! the law's level: the script comes in -/
namespace Wn
open PySem PySem.Spec PyProof.Rows L2 LamX He
theorem law_sp {K : PySem.W.Frag} {d : List Val → Mu → R Val} (hd : ∀ (μ : Mu) (s : Nat) (ns : List Int), ns.length ≤ 63 → seqOf μ s = some (ns.map Val.int) → s < μ.nx → Gets (d [.loc s] μ) fun v _ => v = .bl true)
    (H : Hp) (a : Addr) (ns : List Int) (hl : ns.length ≤ 63) (htb : Tabs (TbK K) H) (h : SqL K H a (ns.map V.int)) : spM K 1 d [.ref a] H (fun v _ => v = .bl true) fun _ _ _ => False := by
  have fin : ∀ (w : Wt) (μ : Mu), w.ad 0 = a → μ.nx = 1 → seqOf μ 0 = some (ns.map Val.int) → Sim K w μ H → spM K 1 d [.ref a] H (fun v _ => v = .bl true) fun _ _ _ => False := fun w μ ha hn hq S => by
    refine ⟨rfl, w, μ, [.loc 0], S, VRs.one ?_, ?_⟩
    · rw [← ha]
      exact VR.loc (by omega)
    · obtain ⟨v, μ', e, rfl⟩ := (hd μ 0 ns hl hq (by omega)).ex
      rw [e]
      intro w' H' u S' r _
      cases r
      rfl
  have hns := VRs.ints (K := K) (ad := ⟨fun _ => a, fun _ => ⟨0, 0, 0, 0, 0, 0, 0, [], []⟩, fun _ => 0⟩) (b := 1) (H := H) ns
  have one : ∀ o : Ob, ObR K ⟨⟨fun _ => a, fun _ => ⟨0, 0, 0, 0, 0, 0, 0, [], []⟩, fun _ => 0⟩, fun _ => 0⟩ 1 H 0 o → Sim K ⟨⟨fun _ => a, fun _ => ⟨0, 0, 0, 0, 0, 0, 0, [], []⟩, fun _ => 0⟩, fun _ => 0⟩ ⟨1, fun n => if n = 0 then some o else none, fun _ => 0⟩ H := fun o ho => by
    refine ⟨fun n hn => if_neg (by have : 1 ≤ n := hn; omega), fun _ => rfl, fun n p hp => ?_, fun n m hnm b hb => ?_, htb⟩
    · by_cases c : n = 0
      · subst c
        have hp : (if (0 : Nat) = 0 then some o else none) = some p := hp
        rw [if_pos rfl] at hp
        cases hp
        exact ho
      · have hp : (if n = 0 then some o else none) = some p := hp
        rw [if_neg c] at hp
        cases hp
    · by_cases c : n = 0
      · have e : (if m = 0 then some o else none : Option Ob) = none := if_neg (by omega)
        show b ∉ ft _ m (if m = 0 then some o else none)
        rw [e]
        exact List.not_mem_nil
      · have hb : b ∈ ft _ n (if n = 0 then some o else none) := hb
        rw [if_neg c] at hb
        cases hb
  rcases h with (h | h) | h
  · exact fin _ ⟨1, fun n => if n = 0 then some (.lst (ns.map Val.int)) else none, fun _ => 0⟩ rfl rfl rfl (one _ ⟨_, h, hns⟩)
  · exact fin _ ⟨1, fun n => if n = 0 then some (.ro (ns.map Val.int)) else none, fun _ => 0⟩ rfl rfl rfl (one _ ⟨_, .inl h, hns⟩)
  · exact fin _ ⟨1, fun n => if n = 0 then some (.ro (ns.map Val.int)) else none, fun _ => 0⟩ rfl rfl rfl (one _ ⟨_, .inr h, hns⟩)
end Wn
/-! the law's level: list.index -/
namespace Wn
open PySem PySem.Spec PyProof.Rows L2 LamX He
def idxM (x : Val) (xs : List Val) (μ : Mu) : R Val := match datM μ x, xs with
  | some (.list ds), [y] => match datM μ y with
    | some d => match ds.findIdx? (fun z => PyData.eqv z d) with
      | some j => .ok (.int (j : Nat)) μ
      | none => .no
    | none => .no
  | _, _ => .no
/-! ### or, and, by truth -/
def truM : Val → Mu → Option Bool
  | .non, _ => some false
  | .bl b, _ => some b
  | .int i, _ => some (i != 0)
  | .str x, _ => if x.length ≤ 1000000 then some ((x.length : Int) != 0) else none
  | .tup vs, _ => some (!vs.isEmpty)
  | .loc n, μ => match seqOf μ n with
    | some vs => some (!vs.isEmpty)
    | none => none
  | _, _ => none
theorem vrs_emp {K : PySem.W.Frag} {ad : Adr} {b : Nat} {H : Hp} {vs : List Val} {us : List V} (h : VRs K ad b H vs us) : us.isEmpty = vs.isEmpty := by
  cases h <;> rfl
theorem truM_ok {K : PySem.W.Frag} {w : Wt} {μ : Mu} {H : Hp} (S : Sim K w μ H) {x : Val} {u : V} {k : Bool} (h : truM x μ = some k) (r : VR K w.ad μ.nx H x u) : TruV K u H k := by
  cases r with
  | non => cases h; rfl
  | bl b => cases h; rfl
  | int i => cases h; rfl
  | str x =>
    unfold truM at h
    simp only at h
    split at h
    · rename_i hl
      cases h
      exact ⟨Nat.le_trans hl (by decide), rfl⟩
    · cases h
  | vw _ _ _ => cases h
  | tup a b => cases h; exact .inr (.inl ⟨_, a, by rw [vrs_emp b]⟩)
  | @loc n hn =>
    unfold truM at h
    simp only at h
    split at h
    · rename_i vs e
      cases h
      obtain ⟨us, s1, s2⟩ := seqOf_sq S e
      exact .inl ⟨us, s1, by rw [vrs_emp s2]⟩
    · cases h
def mOrT (a b : ME) : ME := fun ρ μ => (a ρ μ).bind fun x μ => match truM x μ with
  | some true => .ok x μ
  | some false => b ρ μ
  | none => .no
def mAndT (a b : ME) : ME := fun ρ μ => (a ρ μ).bind fun x μ => match truM x μ with
  | some true => b ρ μ
  | some false => .ok x μ
  | none => .no
section
variable {X : Cx} {E : XK} {a b : Expr} {rest : List Expr} {pos : Pos} {ma mb : ME}
theorem pm_orT (ha : PM X E a ma) (hb : PM X E (.BoolOp .Or (b :: rest) pos) mb) : PM X E (.BoolOp .Or (a :: b :: rest) pos) (mOrT ma mb) :=
  PE.imp (pe_orT ha hb) fun σ H Q ⟨w, ρ, μ, S, EN, hp⟩ => ⟨w, ρ, μ, S, EN, Post.bind hp fun x μ1 w1 H1 u1 S1 r1 g1 h1 => by
    cases e : truM x μ1 with
    | none => rw [e] at h1; exact h1.elim
    | some c =>
      rw [e] at h1
      refine ⟨c, truM_ok S1 e r1, ?_⟩
      cases c with
      | true => exact iteT (h1 w1 H1 _ S1 r1 .refl)
      | false => exact iteF ⟨w1, ρ, μ1, S1, EN.grow g1, h1⟩⟩
theorem pm_andT (ha : PM X E a ma) (hb : PM X E (.BoolOp .And (b :: rest) pos) mb) : PM X E (.BoolOp .And (a :: b :: rest) pos) (mAndT ma mb) :=
  PE.imp (pe_andT ha hb) fun σ H Q ⟨w, ρ, μ, S, EN, hp⟩ => ⟨w, ρ, μ, S, EN, Post.bind hp fun x μ1 w1 H1 u1 S1 r1 g1 h1 => by
    cases e : truM x μ1 with
    | none => rw [e] at h1; exact h1.elim
    | some c =>
      rw [e] at h1
      refine ⟨c, truM_ok S1 e r1, ?_⟩
      cases c with
      | true => exact iteT ⟨w1, ρ, μ1, S1, EN.grow g1, h1⟩
      | false => exact iteF (h1 w1 H1 _ S1 r1 .refl)⟩
end
end Wn
/-! the law's level: methods by keywords alone -/
namespace Wn
open PySem PySem.Spec PyProof.Rows L2 LamX He
section
variable {X : Cx} {E : XK} {k n : Nat} {f : Addr} {fd : FuncData} {ps ks : List Str} {sp : Sp} {m : Str} {p pos apos kpos : Pos} {o e : Expr} {es : List Expr} {kws : List Keyword} {mo me : ME} {mr mk : MA} {fm : MSy}
end
end Wn
/-! the law's level: int of truths, list(range(a, b)), dict of pairs -/
namespace Wn
open PySem PySem.Spec PyProof.Rows L2 LamX He
def intBM : List Val → Mu → R Val
  | [.int i], μ => .ok (.int i) μ
  | [.bl k], μ => .ok (.int (if k then 1 else 0)) μ
  | _, _ => .no
@[irreducible] def okR (i : Int) : Bool := decide (-1000000 ≤ i ∧ i ≤ 1000000)
def mListR2 (m : MA) : ME := fun ρ μ => (m ρ μ).bind fun vs μ => match vs with
  | [.int i, .int j] => if okR i = true ∧ okR j = true then .ok (.loc μ.nx) (μ.new (.lst (rngM i (j - i).toNat))) else .no
  | _ => .no
section
variable {K : PySem.W.Frag}
end
section
variable {X : Cx} {E : XK}
end
end Wn
/-! the law's level: list.remove -/
namespace Wn
open PySem PySem.Spec PyProof.Rows L2 LamX He
def remLM (x : Val) (xs : List Val) (μ : Mu) : R Val := match lstOf x μ, xs with
  | some (n, vs), [.int k] => match intsOf vs with
    | some l => match l.findIdx? (fun z => decide (z = k)) with
      | some j => .ok .non (μ.put n (.lst ((l.eraseIdx j).map Val.int)))
      | none => .no
    | none => .no
  | _, _ => .no
end Wn
/-! the law's level: lambdas that are called at once, errors that are caught, repr, dicts -/
namespace Wn
open PySem PySem.Spec PyProof.Rows L2 LamX He

/-! ### a def that makes lambdas: its code object is known -/
section
variable {P : Program} {w : World} {K : PySem.W.Frag} {mg : Str → Option Value} {base : Heap} {x : Str} {params : Arguments} {body : List Stmt} {scope : Scope} {dvs : List V} {kws : List (Str × V)} {fd : FuncData}
end
/-! ### x(lambda: e), where x returns what e is, or tells the error -/
section
variable {K : PySem.W.Frag} {ad : Adr} {b : Nat} {H : Hp}
end
section
variable {X : Cx} {E : XK}
end
/-! ### repr -/
def repOk (d : PyData) : Prop := d.showable = true ∧ d.hasDict = false ∧ d.depth ≤ 100 ∧ d.shown.length ≤ sizeLine
instance (d : PyData) : Decidable (repOk d) := by unfold repOk; infer_instance
def reprM : List Val → Mu → R Val
  | [x], μ => match datM μ x with
    | some d => if repOk d then .ok (.str d.shown) μ else .no
    | none => .no
  | _, _ => .no
section
variable {K : PySem.W.Frag}
theorem p_repr : PrimA K (rRepr K) reprM := by
  intro E w μ H xs us Q S r hp
  unfold reprM at hp
  split at hp
  · cases r with
    | cons r1 r2 =>
      cases r2
      split at hp
      · rename_i d hd
        split at hp
        · rename_i ho
          obtain ⟨a1, a2⟩ := datM_dp S hd r1
          exact ⟨_, d, rfl, a1, ho.1, ho.2.1, ho.2.2.1, ho.2.2.2, hp w H _ S (.str _) .refl⟩
        · exact hp.elim
      · exact hp.elim
  · exact hp.elim
end
/-! ### dicts -/
section
variable {X : Cx} {E : XK} {K : PySem.W.Frag} {pos : Pos}
/-! ### a, b = a list -/
def sUnp (is : List Nat) (m : ME) : MS := fun ρ μ => (m ρ μ).bind fun v μ => match v with
  | .loc n => match seqOf μ n with
    | some vs => match unp is vs ρ with
      | some ρ' => .ok (.nx ρ') μ
      | none => .no
    | none => .no
  | _ => .no
theorem pms_unp {ts : List Expr} {is : List Nat} {k n : Nat} {e : Expr} {m : ME} {tpos : Pos} (hc : X.calm = true) (he : PM X E e m) (h : PMGs X ts is) (hl : is.length = n := by rfl)
    (hn : (assignEach ts X.env).length = n := by rfl) (hst : (assignEach ts X.env).findIdx? (·.1) = none := by rfl) (hs : swapsWithSole [.Tuple ts k tpos] e pos.line X.env = pure false := by rfl) (hw : swappedStores [.Tuple ts k tpos] e X.env = pure none := by rfl)
    (h1 : (assignEach [.Tuple ts k tpos] X.env).map (·.2) = [assign (.Tuple ts k tpos) X.env] := by rfl) : PMS X E (.Assign [.Tuple ts k tpos] e pos) (sUnp is m) :=
  PS.imp (ps_asg he (pg_lst (pos := tpos) (k := k) hc h hn hst) hs hw h1) fun D σ H ⟨w, ρ, μ, S, EN, hp⟩ => ⟨w, ρ, μ, S, EN, PostS.bind hp fun x μ1 w1 H1 u1 S1 r1 g1 h1 => by
    split at h1
    · rename_i n'
      split at h1
      · rename_i vs hv
        split at h1
        · rename_i ρ' hq
          obtain ⟨us, q1, q2⟩ := seqOf_sq S1 hv
          cases r1
          exact ⟨_, us, rfl, q1, by rw [q2.length, unp_len (is := is) hq]; exact hl, w1, ρ, μ1.nx, vs, ρ', EN.grow g1, q2, hq, fun σ' EN' _ => h1 w1 H1 σ' S1 EN' .refl⟩
        · exact h1.elim
      · exact h1.elim
    · exact h1.elim⟩
end
end Wn
/-! the law's level: the tables of those who make lambdas -/
namespace Wn
open PySem PySem.Spec PyProof.Rows L2 LamX He
theorem hu_repr {k : Nat} {A : Around} (r : Room k A) : A.units + 200 < cLine := by have := r.un; omega
/-! ### texts compared -/
def neSM : Val → Val → Mu → R Val
  | .str x, .str y, μ => .ok (.bl (!decide (x = y))) μ
  | _, _, _ => .no
theorem c_neS {X : Cx} : CmpP X .NotEq neSM := by
  refine ⟨_, op_ne, ?_⟩
  intro E w μ H x y u v Q S r1 r2 hp
  unfold neSM at hp
  split at hp
  · cases r1; cases r2
    rename_i x y
    refine ⟨rfl, ?_⟩
    have e : decide (V.str x = V.str y) = decide (x = y) := by
      by_cases c : x = y
      · subst c; simp
      · rw [decide_eq_false c, decide_eq_false (fun z => c (V.str.inj z))]
    rw [e]
    exact hp w H _ S (.bl _) .refl
  · exact hp.elim
/-! ### data that repr shows -/
mutual
def smD : PyData → Bool
  | .none => true
  | .bool _ => true
  | .str x => PyData.strOk x
  | .int i => decide (i.natAbs < 10 ^ 12)
  | .list xs => smDs xs
  | .tuple xs => smDs xs
  | .dict _ => false
def smDs : List PyData → Bool
  | [] => true
  | x :: xs => smD x && smDs xs
end
mutual
theorem sm_show : ∀ d : PyData, smD d = true → d.showable = true ∧ d.hasDict = false ∧ d.leavesShort 13 = true
  | .none, _ => ⟨rfl, rfl, rfl⟩
  | .bool _, _ => ⟨rfl, rfl, rfl⟩
  | .str x, h => by
    refine ⟨rfl, rfl, ?_⟩
    exact PyData.leavesShort_of_canLay0 13 (.str x) (by rw [PyData.canLay0]; exact h) rfl
  | .int i, h => by
    have h' : i.natAbs < 10 ^ 12 := of_decide_eq_true h
    refine ⟨decide_eq_true ?_, rfl, decide_eq_true ?_⟩
    · by_cases c : i.natAbs = 0
      · rw [c]; decide
      · exact (Nat.log2_lt c).mpr (Nat.lt_of_lt_of_le h' (Nat.le_trans (show 10 ^ 12 ≤ 2 ^ 40 by decide) (Nat.pow_le_pow_right (by decide) (by decide))))
    · have e := PySem.int_text_length_le10 (a := i) (k := 12) (by decide) h'
      show (Str.ofString (toString i)).length ≤ 13
      rw [PySem.ofString_length]
      exact e
  | .list xs, h => by
    obtain ⟨h1, h2, h3⟩ := sm_shows xs h
    exact ⟨h1, h2, h3⟩
  | .tuple xs, h => by
    obtain ⟨h1, h2, h3⟩ := sm_shows xs h
    exact ⟨h1, h2, h3⟩
  | .dict _, h => by cases h
theorem sm_shows : ∀ ds : List PyData, smDs ds = true → PyData.showableAll ds = true ∧ PyData.hasDictAll ds = false ∧ PyData.leavesShortAll 13 ds = true
  | [], _ => ⟨rfl, rfl, rfl⟩
  | d :: ds, h => by
    have h : (smD d && smDs ds) = true := h
    obtain ⟨a, b⟩ := Bool.and_eq_true_iff.mp h
    obtain ⟨p1, p2, p3⟩ := sm_show d a
    obtain ⟨q1, q2, q3⟩ := sm_shows ds b
    refine ⟨?_, ?_, ?_⟩
    · rw [PyData.showableAll, p1, q1]; rfl
    · rw [PyData.hasDictAll, p2, q2]; rfl
    · rw [PyData.leavesShortAll, p3, q3]; rfl
end
theorem rep_small {d : PyData} (h : smD d = true) (hd : d.depth ≤ 100) (hw : d.weight ≤ 1000000) : repOk d := by
  obtain ⟨h1, h2, h3⟩ := sm_show d h
  refine ⟨h1, h2, hd, ?_⟩
  have := PyData.shown_le 13 (by decide) d h3
  have e : sizeLine = 16777216 := by decide
  omega
end Wn
/-! the law's level: methods of dicts -/
namespace Wn
open PySem PySem.Spec PyProof.Rows L2 LamX He
def dctV (x : Val) (μ : Mu) : Option (List (Key × Val)) := match x with
  | .loc n => dctOf μ n
  | _ => none
def mDm (f : Val → Val → Mu → R Val) (o k : ME) : ME := fun ρ μ => (o ρ μ).bind fun x μ => match dctV x μ with
  | some _ => (k ρ μ).bind fun y μ => f x y μ
  | none => .no
def popDM : Val → Val → Mu → R Val
  | .loc n, y, μ => match μ.ob n, keyOf y with
    | some (.dct kvs), some k => match kGet kvs k with
      | some v => .ok v (μ.put n (.dct (kDrop kvs k)))
      | none => .no
    | _, _ => .no
  | _, _, _ => .no
def getDM : Val → Val → Mu → R Val
  | .loc n, y, μ => match dctOf μ n, keyOf y with
    | some kvs, some k => .ok ((kGet kvs k).getD .non) μ
    | _, _ => .no
  | _, _, _ => .no
section
variable {X : Cx} {E : XK} {o e : Expr} {apos cpos : Pos} {mo me : ME}
end
end Wn
/-! the law's level: dict displays -/
namespace Wn
open PySem PySem.Spec PyProof.Rows L2 LamX He
def mPrs : List (ME × ME) → Rho → Mu → R (List (Val × Val))
  | [], _, μ => .ok [] μ
  | (a, b) :: r, ρ, μ => (a ρ μ).bind fun x μ => (b ρ μ).bind fun y μ => (mPrs r ρ μ).bind fun ps μ => .ok ((x, y) :: ps) μ
def kvOf : List (Val × Val) → Option (List (Key × Val))
  | [] => some []
  | (x, y) :: r => match keyOf x, kvOf r with
    | some k, some l => some ((k, y) :: l)
    | _, _ => none
def mDisp (prs : List (ME × ME)) : ME := fun ρ μ => (mPrs prs ρ (μ.new (.dct []))).bind fun ps μ1 => match kvOf ps, μ1.ob μ.nx with
  | some kvs, some (.dct []) => if (kvs.map (·.1)).Nodup ∧ kvs.length ≤ 15 then .ok (.loc μ.nx) (μ1.put μ.nx (.dct kvs)) else .no
  | _, _ => .no
section
variable {X : Cx} {E : XK} {pos : Pos}
end
end Wn
/-! the law's level: chains of comparisons, isinstance, a dict against {}, two stores at once -/
namespace Wn
open PySem PySem.Spec PyProof.Rows L2 LamX He
section
variable {X : Cx} {E : XK} {e a b c o : Expr} {m ma mb mc mo mi mv : ME} {pos : Pos}
def mChain (f g : Val → Val → Mu → R Val) (a b c : ME) : ME := fun ρ μ => (a ρ μ).bind fun x μ => (b ρ μ).bind fun y μ => (f x y μ).bind fun z μ => match z with
  | .bl true => (c ρ μ).bind fun t μ => g y t μ
  | .bl false => .ok (.bl false) μ
  | _ => .no
theorem pmt_chain {op op' : CmpOp} {f g : Val → Val → Mu → R Val} (hf : CmpP X op f) (hg : CmpP X op' g) (ha : PM X E a ma) (hb : PM X E b mb) (hc : PM X E c mc) (hm : lastMarks [op, op'] [b, c] = false := by with_unfolding_all rfl) : PMT X E (.Compare a [op, op'] [b, c] pos) (mTest (mChain f g ma mb mc)) := by
  obtain ⟨r, ho, hf⟩ := hf.ex
  obtain ⟨r', ho', hg⟩ := hg.ex
  refine PT.imp (pt_chain ho ho' ha hb hc hm) fun σ H Q ⟨w, ρ, μ, S, EN, hp⟩ => ?_
  have hp := post_test hp
  exact ⟨w, ρ, μ, S, EN, Post.bind hp fun x μ1 w1 H1 u1 S1 r1 g1 h1 => ⟨w1, ρ, μ1, S1, EN.grow g1, Post.bind h1 fun y μ2 w2 H2 u2 S2 r2 g2 h2 =>
    hf E w2 μ2 H2 x y u1 u2 _ S2 (VR.grow g2 r1) r2 (Post.bind h2 fun z μ3 w3 H3 u3 S3 r3 g3 h3 => by
      split at h3
      · cases r3
        exact ⟨true, rfl, iteT ⟨w3, ρ, μ3, S3, ((EN.grow g1).grow g2).grow g3, Post.bind h3 fun t μ4 w4 H4 u4 S4 r4 g4 h4 => hg E w4 μ4 H4 y t u2 u4 _ S4 (VR.grow g4 (VR.grow g3 r2)) r4 h4⟩⟩
      · cases r3
        exact ⟨false, rfl, iteF (h3 w3 H3 _ S3 (.bl false) .refl)⟩
      · exact h3.elim)⟩⟩
/-- isinstance(x, int), isinstance(x, bool) -/
def isiM (bo : Bool) (x : Val) (μ : Mu) : R Val := match x with
  | .int _ => .ok (.bl (!bo)) μ
  | .bl _ => .ok (.bl true) μ
  | .non => .ok (.bl false) μ
  | .str _ => .ok (.bl false) μ
  | .tup _ => .ok (.bl false) μ
  | .loc n => match seqOf μ n with
    | some _ => .ok (.bl false) μ
    | none => .no
  | .vw _ _ _ => .no
def sDst2 (m o1 i1 o2 i2 : ME) : MS := fun ρ μ => (m ρ μ).bind fun v μ => match v with
  | .tup [a, b] => (o1 ρ μ).bind fun o μ => (i1 ρ μ).bind fun i μ => (dstoM o i a μ).bind fun _ μ => (o2 ρ μ).bind fun o μ => (i2 ρ μ).bind fun i μ => (dstoM o i b μ).bind fun _ μ => .ok (.nx ρ) μ
  | _ => .no
def neD0M : Val → Val → Mu → R Val
  | .loc n, .loc m, μ => match μ.ob n, μ.ob m with
    | some (.dct kvs), some (.dct []) => .ok (.bl (!kvs.isEmpty)) μ
    | _, _ => .no
  | _, _, _ => .no
end
end Wn
/-! any, all of a list of truths; what is never reached -/
namespace Wn
open PySem PySem.Spec PyProof.Rows L2 LamX He
theorem bls_plain : ∀ bs : List Bool, PyData.plainAll (bs.map PyData.bool) = true
  | [] => rfl
  | b :: bs => by
    rw [List.map_cons, PyData.plainAll, bls_plain bs]
    rfl
theorem bls_dp {K : PySem.W.Frag} {H : Hp} : ∀ bs : List Bool, DpAll K H (bs.map V.bl) (bs.map PyData.bool)
  | [] => .nil
  | b :: bs => .cons (.bl b) (bls_dp bs)
theorem bls_truthy (bs : List Bool) : (bs.map PyData.bool).any PyData.truthy = bs.any id ∧ (bs.map PyData.bool).all PyData.truthy = bs.all id := by
  induction bs with
  | nil => exact ⟨rfl, rfl⟩
  | cons b bs ih => exact ⟨by rw [List.map_cons, List.any_cons, List.any_cons, ih.1]; rfl, by rw [List.map_cons, List.all_cons, List.all_cons, ih.2]; rfl⟩
section
variable {X : Cx}
theorem cr_allB (hc : X.calm = true) : CallR X (.builtin "all") (fun vs H Q => ∃ (a : Addr) (bs : List Bool), vs = [V.ref a] ∧ SqL X.K H a (bs.map V.bl) ∧ Q (.bl (bs.all id)) H) := by
  intro pins s σ H vs us Q I r h
  obtain ⟨a, bs, rfl, hs, q⟩ := h
  obtain ⟨its, rv, hl, _⟩ := I.list hs
  rw [Vals.ref1 r]
  obtain ⟨as, ra⟩ := Dp.readsAll I _ _ its (bls_dp bs) rv
  refine PySem.W.all_list_data (I.ok.hd hc) hl.isList (by simpa using ra) (bls_plain bs) (fun x hx => ?_) fun h' tk hk => ?_
  · obtain ⟨b, _, rfl⟩ := List.mem_map.mp hx
    trivial
  · rw [(bls_truthy bs).2]
    exact ⟨.bl _, H, I.kept hk, rfl, q⟩
end
end Wn
/-! d.values(): x in d.values(), list(d.values()) -/
namespace VaI
open PySem PySem.Spec PyProof.Rows L2
section
variable {prog : Program} {w : World} {A : Around} {R : Result → Shared → Prop} {I : Addr} {fp wr : List Addr} {n : Nat} {P : Nat → Value → Prop} {St : Nat → Heap → Prop} {x : Value}
end
section
variable {prog : Program} {w : World} {K : Type} [DecidableEq K] {knd : KeyKind prog w K} {A : Around} {E : Value → Shared → Prop} {s : Shared} {d v : Addr} {kvs : List (K × Value)} {ep : Nat} {x : Value} {Q : Value → Shared → Prop}
end
section
variable {X : Cx} {e o : Expr} {te to : TE} {apos cpos pos : Pos}
end
section
variable {X : Cx} {apos cpos pos : Pos}
end
end VaI
/-! ### the law's level -/
namespace Wn
open PySem PySem.Spec PyProof.Rows L2 LamX He
section
variable {X : Cx} {E : XK} {e o : Expr} {apos cpos pos : Pos} {mo me : ME} {K : PySem.W.Frag}
end
/-! ### a def of the program that is given a system first -/
section
variable {X : Cx} {E : XK} {CX : CXT} {k : Nat} {f : Addr} {fd : FuncData} {ps : List Str} {sp : Sp} {x : Str} {p pos : Pos} {e : Expr} {es : List Expr} {mr : MA} {fm : MSy}
end
end Wn
/-! the law's level: what stands within a system is read -/
namespace Wn
open PySem PySem.Spec PyProof.Rows L2 LamX He

/-- the system at n, also while one of its dicts is walked -/
def svAt (μ : Mu) (n : Nat) : Option Sv := match μ.ob n with
  | some (.sys v) => some v
  | some (.sysL v _) => some v
  | _ => none
def vwAt (μ : Mu) (n k : Nat) : Option Sv := if μ.vr n = k then svAt μ n else none
theorem svAt_sysL {μ : Mu} {n : Nat} {v : Sv} {p : Pth} (h : μ.ob n = some (.sysL v p)) : svAt μ n = some v := by
  unfold svAt
  rw [h]
theorem vwAt_of {μ : Mu} {n k : Nat} {v : Sv} (h : svAt μ n = some v) (e : μ.vr n = k) : vwAt μ n k = some v := by
  unfold vwAt
  rw [if_pos e, h]
theorem vwAt_eq {μ : Mu} {n k : Nat} {v : Sv} (h : vwAt μ n k = some v) : μ.vr n = k ∧ svAt μ n = some v := by
  unfold vwAt at h
  split at h
  · rename_i e
    exact ⟨e, h⟩
  · cases h
structure SyRd (K : PySem.W.Frag) (H : Hp) (s : Sy) : Prop where
  ob : H s.p = some (.ins (ga K "System") s.dx (sysF s.P s.N s.T s.G s.made))
  tb : Rd H s.T (.dK (kv tbV s.tabs))
  tt : ∀ t ∈ s.tabs, Rd H t.2.ad (.dK (kv V.int t.2.rows))
  gb : Rd H s.G (.dK (kv thV s.ths))
  gt : ∀ t ∈ s.ths, TgAt K H t.2.ad t.2.tg
section
variable {K : PySem.W.Frag} {w : Wt} {μ : Mu} {H : Hp} {s : Sy}
theorem SyAt.rd (S : SyAt K H s) : SyRd K H s := ⟨S.ob, .inl S.tb, fun t h => .inl (S.tt t h), .inl S.gb, S.gt⟩
theorem SyL.rd {p : Pth} {f : Addr → Prop} (S : SyL K H s p f) : SyRd K H s := by
  obtain ⟨d, o, us, h1, h2, h3, h4⟩ := S
  have dk : ∀ {a ks}, upd H d (.dK us) a = some (.dK ks) → Rd H a (.dK ks) := fun {a ks} e => by
    by_cases c : a = d
    · subst c
      rw [upd_same] at e
      cases e
      exact .inr ⟨o, h3⟩
    · rw [upd_ne c] at e
      exact .inl e
  have ot : ∀ {a u}, upd H d (.dK us) a = some u → (∀ ks, u ≠ .dK ks) → H a = some u := fun {a u} e ne => by
    by_cases c : a = d
    · subst c
      rw [upd_same] at e
      exact absurd (Option.some.inj e).symm (ne us)
    · rw [upd_ne c] at e
      exact e
  refine ⟨ot h4.ob (fun _ z => by cases z), dk h4.tb, fun t ht => dk (h4.tt t ht), dk h4.gb, fun t ht => ?_⟩
  have q := h4.gt t ht
  cases e : t.2.tg with
  | src dx u f =>
    rw [e] at q
    exact ot q (fun _ z => by cases z)
  | set dx L R es row =>
    rw [e] at q
    obtain ⟨q1, q2, q3, q4⟩ := q
    exact ⟨ot q1 (fun _ z => by cases z), ot q2 (fun _ z => by cases z), ot q3 (fun _ z => by cases z), fun x hx => ot (q4 x hx) (fun _ z => by cases z)⟩
theorem Sim.rd (S : Sim K w μ H) {n : Nat} {v : Sv} (h : svAt μ n = some v) : n < μ.nx ∧ (w.sy n).p = w.ad n ∧ SyRd K H (w.sy n) ∧ (w.sy n).v = v ∧ WF v := by
  unfold svAt at h
  split at h
  · rename_i v' e
    cases h
    obtain ⟨h1, h2, h3, h4⟩ := S.ok _ _ e
    exact ⟨S.lt e, h1, h2.rd, h3, h4⟩
  · rename_i v' p e
    cases h
    obtain ⟨h1, h2, h3, h4⟩ := S.ok _ _ e
    exact ⟨S.lt e, h1, h2.rd, h3, h4⟩
  · cases h
/-- where a view points to -/
theorem Sim.vw (S : Sim K w μ H) {n k : Nat} {p : Pth} {v : Sv} {u : V} (h : vwAt μ n k = some v) (r : VR K w.ad μ.nx H (.vw n k p) u) : ∃ a, u = .ref a ∧ pAdr (w.sy n) p = some a := by
  obtain ⟨e, h2⟩ := vwAt_eq h
  cases r with
  | vw h1 h3 h4 => exact ⟨_, rfl, h4 ((S.vr n).trans e)⟩
/-- a view is handed on -/
theorem Sim.vwOf (S : Sim K w μ H) {n k : Nat} {p : Pth} {v : Sv} {a : Addr} (h : vwAt μ n k = some v) (e : pAdr (w.sy n) p = some a) : VR K w.ad μ.nx H (.vw n k p) (.ref a) := by
  obtain ⟨e1, h2⟩ := vwAt_eq h
  exact .vw (S.rd h2).1 (by rw [S.vr n, e1]; exact Nat.le_refl _) fun _ => e
end
theorem Tg.v_src {tg : Tg} {u : Int} {f : Bool} (h : tg.v = .src u f) : ∃ dx, tg = .src dx u f := by
  cases tg with
  | src dx u' f' => cases h; exact ⟨_, rfl⟩
  | set dx L R es row => cases h
theorem Tg.v_set {tg : Tg} {es : List Ev} {row : List Int} (h : tg.v = .set es row) : ∃ dx L R es', tg = .set dx L R es' row ∧ es'.map En.v = es := by
  cases tg with
  | src dx u' f' => cases h
  | set dx L R es' row' => cases h; exact ⟨_, _, _, _, rfl, rfl⟩
theorem Sy.th_of {s : Sy} {v : Sv} (e : s.v = v) {ser : Int} {tv : Tv} (h : lk v.ths ser = some tv) : ∃ th, lk s.ths ser = some th ∧ th.tg.v = tv := by
  rw [← e, Sy.ths_v] at h
  obtain ⟨th, h1, h2⟩ := Option.map_eq_some_iff.mp h
  exact ⟨th, h1, h2⟩
theorem Sy.tb_of {s : Sy} {v : Sv} (e : s.v = v) {p : Int} {rows : List (Int × Int)} (h : lk v.tabs p = some rows) : ∃ t, lk s.tabs p = some t ∧ t.rows = rows := by
  rw [← e, Sy.tabs_v] at h
  obtain ⟨th, h1, h2⟩ := Option.map_eq_some_iff.mp h
  exact ⟨th, h1, h2⟩
/-! ### attributes -/
section
variable {X : Cx} {E : XK} {e : Expr} {me : ME} {pos : Pos}
end
end Wn
/-! the law's level: dicts and lists within a system are read and walked -/
namespace Wn
open PySem PySem.Spec PyProof.Rows L2 LamX He

theorem SyRd.t {K : PySem.W.Frag} {H : Hp} {s : Sy} (S : SyRd K H s) : SyT K H s := ⟨S.ob, S.tb, S.tt⟩
/-! ### dicts -/
/-- what stands under a key -/
def vgetV (v : Sv) (n k : Nat) (p : Pth) (i : Int) : Option Val := match p with
  | .tabs => (lk v.tabs i).map fun _ => .vw n k (.tab i)
  | .ths => (lk v.ths i).map fun _ => .vw n k (.th i)
  | .tab q => (lk v.tabs q).bind fun rows => (lk rows i).map Val.int
  | _ => none
/-- the keys of a dict -/
def vkeys (v : Sv) (p : Pth) : Option (List Int) := match p with
  | .tabs => some (v.tabs.map (·.1))
  | .ths => some (v.ths.map (·.1))
  | .tab q => (lk v.tabs q).map fun rows => rows.map (·.1)
  | _ => none
section
variable {K : PySem.W.Frag} {w : Wt} {μ : Mu} {H : Hp}
/-- the dict a view stands for -/
theorem Sim.vdict (S : Sim K w μ H) {n k : Nat} {p : Pth} {v : Sv} {a : Addr} {ks : List Int} (h : vwAt μ n k = some v) (e : pAdr (w.sy n) p = some a) (hk : vkeys v p = some ks) : ∃ us : List (Key × V), Rd H a (.dK us) ∧ us.map (·.1) = ks.map Sum.inl ∧
    ∀ i : Int, (∀ y, vgetV v n k p i = some y → ∃ u, valV us (Sum.inl i : Key) = some u ∧ VR K w.ad μ.nx H y u) ∧ (vgetV v n k p i = none → valV us (Sum.inl i : Key) = none) := by
  obtain ⟨q1, q2, q3, q4, q5⟩ := S.rd (vwAt_eq h).2
  have keys : ∀ {α : Type} (g : α → V) (l : List (Int × α)), (kv g l).map (·.1) = (l.map (·.1)).map Sum.inl := fun g l => by
    unfold kv
    rw [List.map_map, List.map_map]
    rfl
  unfold vkeys at hk
  split at hk
  · cases hk
    cases e
    refine ⟨_, q3.tb, by rw [keys, ← Sy.pids, q4], fun i => ⟨fun y hy => ?_, fun hy => ?_⟩⟩
    · obtain ⟨rows, l1, l2⟩ := Option.map_eq_some_iff.mp hy
      obtain ⟨t, t1, t2⟩ := Sy.tb_of q4 l1
      subst l2
      refine ⟨tbV t, by rw [val_kv, t1]; rfl, S.vwOf h ?_⟩
      show (lk (w.sy n).tabs i).map _ = _
      rw [t1]
      rfl
    · have l1 := Option.map_eq_none_iff.mp hy
      rw [← q4, Sy.tabs_v] at l1
      rw [val_kv, Option.map_eq_none_iff.mp l1]
      rfl
  · cases hk
    cases e
    refine ⟨_, q3.gb, by rw [keys, ← Sy.sers, q4], fun i => ⟨fun y hy => ?_, fun hy => ?_⟩⟩
    · obtain ⟨rows, l1, l2⟩ := Option.map_eq_some_iff.mp hy
      obtain ⟨t, t1, t2⟩ := Sy.th_of q4 l1
      subst l2
      refine ⟨thV t, by rw [val_kv, t1]; rfl, S.vwOf h ?_⟩
      show (lk (w.sy n).ths i).map _ = _
      rw [t1]
      rfl
    · have l1 := Option.map_eq_none_iff.mp hy
      rw [← q4, Sy.ths_v] at l1
      rw [val_kv, Option.map_eq_none_iff.mp l1]
      rfl
  · rename_i q
    obtain ⟨rows, l0, l9⟩ := Option.map_eq_some_iff.mp hk
    obtain ⟨t, t1, t2⟩ := Sy.tb_of q4 l0
    subst l9
    have e : (lk (w.sy n).tabs q).map (·.ad) = some a := e
    rw [t1] at e
    cases e
    have rd := q3.tt _ (lk_mem t1)
    refine ⟨_, rd, by rw [keys, t2], fun i => ⟨fun y hy => ?_, fun hy => ?_⟩⟩
    · obtain ⟨rows', l1, l2⟩ := Option.bind_eq_some_iff.mp hy
      rw [l0] at l1
      cases l1
      obtain ⟨ser, l3, l4⟩ := Option.map_eq_some_iff.mp l2
      subst l4
      exact ⟨.int ser, by rw [val_kv, t2, l3]; rfl, .int _⟩
    · have hy : (lk v.tabs q).bind (fun rows => (lk rows i).map Val.int) = none := hy
      rw [l0] at hy
      have hy := Option.map_eq_none_iff.mp (show (lk rows i).map Val.int = none from hy)
      rw [val_kv, t2, hy]
      rfl
  · cases hk
end
section
variable {X : Cx} {E : XK} {a b e : Expr} {ma mb me : ME} {pos : Pos}
end
/-! ### lists -/
section
variable {X : Cx} {E : XK} {e tg : Expr} {m : ME}
end
/-! ### classes -/
def Tv.cls : Tv → Str
  | .src _ _ => "Source"
  | .set _ _ => "WaitSet"
def clsAt (x : Val) (μ : Mu) : Option Str := match x with
  | .vw n k p => match vwAt μ n k with
    | some v => match p with
      | .th ser => (lk v.ths ser).map Tv.cls
      | _ => none
    | none => none
  | .loc n => match svAt μ n with
    | some _ => some "System"
    | none => match μ.ob n with
      | some (.ins C _) => some C
      | _ => none
  | _ => none
theorem Sim.cls {K : PySem.W.Frag} {w : Wt} {μ : Mu} {H : Hp} (S : Sim K w μ H) {x : Val} {u : V} {A : Str} (h : clsAt x μ = some A) (r : VR K w.ad μ.nx H x u) : ∃ a dx fs, u = .ref a ∧ H a = some (.ins (ga K A) dx fs) := by
  unfold clsAt at h
  split at h
  · rename_i n k p
    split at h
    · rename_i v hv
      obtain ⟨a, rfl, ha⟩ := S.vw hv r
      obtain ⟨q1, q2, q3, q4, q5⟩ := S.rd (vwAt_eq hv).2
      split at h
      · rename_i ser
        obtain ⟨tv, l1, l2⟩ := Option.map_eq_some_iff.mp h
        obtain ⟨th, t1, t2⟩ := Sy.th_of q4 l1
        have ha : (lk (w.sy n).ths ser).map (·.ad) = some a := ha
        rw [t1] at ha
        cases ha
        have tg : TgAt K H th.ad th.tg := q3.gt _ (lk_mem t1)
        subst l2
        cases tv with
        | src u f =>
          obtain ⟨dx, ht⟩ := Tg.v_src t2
          rw [ht] at tg
          exact ⟨_, _, _, rfl, tg⟩
        | set es row =>
          obtain ⟨dx, L, R, es', ht, he'⟩ := Tg.v_set t2
          rw [ht] at tg
          exact ⟨_, _, _, rfl, tg.1⟩
      · cases h
    · cases h
  · rename_i n
    cases r with
    | loc hn =>
    split at h
    · rename_i v hv
      cases h
      obtain ⟨q1, q2, q3, q4, q5⟩ := S.rd hv
      rw [← q2]
      exact ⟨_, _, _, rfl, q3.ob⟩
    · split at h
      · rename_i C fs hob
        cases h
        obtain ⟨dx, us, o1, o2, o3⟩ := S.ok _ _ hob
        exact ⟨_, _, _, rfl, o1⟩
      · cases h
  · cases h
section
variable {X : Cx} {E : XK} {e : Expr} {me : ME} {p p2 pos : Pos}
end
end Wn
/-! sorted(xs, key=lambda x: ..): a lambda of one's own names -/
namespace Wn
open PySem PySem.Spec PyProof.Rows L2 LamX He
open PySem.W (AllAlike Sortable dataLe)

section
variable {X : Cx} {pins : List (Addr × Obj)} {σ : L2.St} {H : Hp} {s : Shared}
end
theorem Sqt.same {K : PySem.W.Frag} {H H' : Hp} {a : Addr} {xs : List V} (e : Same H H') (h : SqT K H a xs) : SqT K H' a xs := by
  rcases h with (h | ⟨o, h⟩) | h
  · exact .inl (.inl (e _ _ h))
  · exact .inl (.inr ⟨o, e _ _ h⟩)
  · exact .inr h
theorem Sql.same {K : PySem.W.Frag} {H H' : Hp} {a : Addr} {xs : List V} (e : Same H H') (h : SqL K H a xs) : SqL K H' a xs := by
  rcases h with (h | ⟨o, h⟩) | h
  · exact .inl (.inl (e _ _ h))
  · exact .inl (.inr ⟨o, e _ _ h⟩)
  · exact .inr h

end Wn
/-! the law's level: a dict within a system is walked, locked meanwhile -/
namespace Wn
open PySem PySem.Spec PyProof.Rows L2 LamX He
section
variable {K : PySem.W.Frag} {w w' : Wt} {μ : Mu} {H H' : Hp} {n : Nat} {v : Sv} {p : Pth} {d : Addr} {us : List (Key × V)} {o : Obj}
end
section
variable {K : PySem.W.Frag} {w : Wt} {μ : Mu} {H : Hp} {n : Nat} {v : Sv} {p : Pth}
end
section
variable {X : Cx} {E : XK}
end
/-! ### its keys -/
def vkL (n k : Nat) (p : Pth) (μ : Mu) : Option (List Val) := if μ.vr n = k then match μ.ob n with
    | some (.sysL v q) => if q = p then (vkeys v p).map fun ks => ks.map Val.int else none
    | _ => none
  else none
section
variable {K : PySem.W.Frag} {w : Wt} {μ : Mu} {H : Hp} {n k : Nat} {p : Pth}
theorem vkL_ex {ks : List Val} (h : vkL n k p μ = some ks) : ∃ v is, μ.vr n = k ∧ μ.ob n = some (.sysL v p) ∧ vkeys v p = some is ∧ ks = is.map Val.int := by
  unfold vkL at h
  split at h
  · rename_i e
    split at h
    · rename_i v q hob
      split at h
      · rename_i c
        subst c
        obtain ⟨is, h1, h2⟩ := Option.map_eq_some_iff.mp h
        exact ⟨v, is, e, hob, h1, h2.symm⟩
      · cases h
    · cases h
  · cases h
/-- the walked dict is locked -/
theorem Sim.locked (S : Sim K w μ H) {ks : List Val} {a : Addr} (h : vkL n k p μ = some ks) (r : VR K w.ad μ.nx H (.vw n k p) (.ref a)) : ∃ o us, H a = some (.frz o (.dK us)) ∧ us.map (fun q => kV q.1) = ks.map (fun x => match x with | .int i => V.int i | _ => .non) := by
  obtain ⟨v, is, e, hob, hk, rfl⟩ := vkL_ex h
  have vv : vwAt μ n k = some v := vwAt_of (svAt_sysL hob) e
  obtain ⟨a', e1, hp⟩ := S.vw vv r
  cases e1
  obtain ⟨us, q1, q2, _⟩ := S.vdict vv hp hk
  obtain ⟨h1, ⟨d, o, us', z1, z2, z3, z4⟩, h3, h4⟩ := S.ok _ _ hob
  rw [hp] at z1
  cases z1
  refine ⟨o, us', z3, ?_⟩
  rcases q1 with q1 | ⟨o', q1⟩
  · rw [z3] at q1
    cases q1
  · rw [z3] at q1
    cases q1
    have z := congrArg (List.map kV) q2
    rw [List.map_map, List.map_map] at z
    rw [List.map_map]
    exact z
end
end Wn
/-! ### sorted(d) of a dict whose keys are whole numbers, however many -/
namespace Wn
open PySem PySem.Spec PyProof.Rows L2 LamX He
end Wn
/-! ### min(xs, key=len, default=None) -/
namespace Wn
open PySem PySem.Spec PyProof.Rows L2 LamX He
section
variable {X : Cx} {e : Expr} {te : TE} {p p2 p3 p4 p5 pos : Pos} {j : Nat}
end
/-! #### at the law's level -/
section
variable {X : Cx} {E : XK} {e : Expr} {m : ME} {p p2 p3 p4 p5 pos : Pos} {j : Nat}
end
end Wn
/-! ### isinstance of list, tuple; min of a list; len(set(..)) of tuples -/
namespace Wn
open PySem PySem.Spec PyProof.Rows L2 LamX He
section
variable {X : Cx} {E : XK} {a : Expr} {ma : ME} {pos : Pos}
end
/-- the whole numbers of a list -/
def intsO : List Val → Option (List Int)
  | [] => some []
  | .int i :: l => (intsO l).map (i :: ·)
  | _ :: _ => none
theorem intsO_eq : ∀ {l : List Val} {ns : List Int}, intsO l = some ns → l = ns.map Val.int
  | [], ns, h => by cases h; rfl
  | .int i :: l, ns, h => by
    obtain ⟨ms, h1, h2⟩ := Option.map_eq_some_iff.mp (show (intsO l).map (i :: ·) = some ns from h)
    subst h2
    rw [intsO_eq h1]
    rfl
  | .non :: _, _, h => by cases h
  | .bl _ :: _, _, h => by cases h
  | .str _ :: _, _, h => by cases h
  | .tup _ :: _, _, h => by cases h
  | .loc _ :: _, _, h => by cases h
  | .vw _ _ _ :: _, _, h => by cases h
/-! #### len(set(xs)), xs tuples of whole numbers -/
section
variable {X : Cx} {E : XK} {a : Expr} {ta : TE} {ma : ME} {p p2 q pos : Pos}
end
section
variable {K : PySem.W.Frag} {ad : Adr} {b : Nat} {H : Hp}
end
section
variable {X : Cx} {E : XK} {a : Expr} {ma : ME} {p p2 q pos : Pos}
end
end Wn
/-! ### x in (a, b, ..), x a whole number or a text -/
namespace Wn
open PySem PySem.Spec PyProof.Rows L2 LamX He
def strsO : List Val → Option (List Str)
  | [] => some []
  | .str i :: l => (strsO l).map (i :: ·)
  | _ :: _ => none
theorem strsO_eq : ∀ {l : List Val} {ns : List Str}, strsO l = some ns → l = ns.map Val.str
  | [], ns, h => by cases h; rfl
  | .str i :: l, ns, h => by
    obtain ⟨ms, h1, h2⟩ := Option.map_eq_some_iff.mp (show (strsO l).map (i :: ·) = some ns from h)
    subst h2
    rw [strsO_eq h1]
    rfl
  | .non :: _, _, h => by cases h
  | .bl _ :: _, _, h => by cases h
  | .int _ :: _, _, h => by cases h
  | .tup _ :: _, _, h => by cases h
  | .loc _ :: _, _, h => by cases h
  | .vw _ _ _ :: _, _, h => by cases h
/-- whether it stands in the tuple -/
def tupHas (x y : Val) : Option Bool := match y, x with
  | .tup l, .int a => (intsO l).map fun ns => decide (a ∈ ns)
  | .tup l, .str a => (strsO l).map fun ns => decide (a ∈ ns)
  | _, _ => none
def inTM (x y : Val) (μ : Mu) : R Val := match tupHas x y with
  | some b => .ok (.bl b) μ
  | none => .no
section
variable {K : PySem.W.Frag} {ad : Adr} {b : Nat} {H : Hp}
theorem VRs.strs_eq : ∀ {l : List Str} {us : List V}, VRs K ad b H (l.map Val.str) us → us = l.map V.str
  | [], _, .nil => rfl
  | i :: l, _, .cons h r => by
    cases h
    rw [VRs.strs_eq r]
    rfl
theorem tupHas_ok {x y : Val} {u v : V} {c : Bool} (h : tupHas x y = some c) (rx : VR K ad b H x u) (ry : VR K ad b H y v) : ∃ p xs, v = .ref p ∧ SqT K H p xs ∧ flatV u = true ∧ xs.all flatV = true ∧ inV u xs = c := by
  unfold tupHas at h
  split at h
  · rename_i l a
    obtain ⟨ns, h1, h2⟩ := Option.map_eq_some_iff.mp h
    cases rx
    cases ry with
    | tup s1 s2 =>
      rw [intsO_eq h1] at s2
      rw [VRs.ints_eq s2] at s1
      refine ⟨_, _, rfl, s1, rfl, ?_, ?_⟩
      · rw [List.all_map]
        exact List.all_eq_true.mpr fun _ _ => rfl
      · rw [← h2]
        unfold inV
        rw [List.any_map, Bool.eq_iff_iff, List.any_eq_true]
        constructor
        · rintro ⟨z, hz, q⟩
          have q : (z == a) = true := q
          rw [beq_iff_eq] at q
          exact decide_eq_true (q ▸ hz)
        · intro q
          exact ⟨a, of_decide_eq_true q, by show (a == a) = true; simp⟩
  · rename_i l a
    obtain ⟨ns, h1, h2⟩ := Option.map_eq_some_iff.mp h
    cases rx
    cases ry with
    | tup s1 s2 =>
      rw [strsO_eq h1] at s2
      rw [VRs.strs_eq s2] at s1
      refine ⟨_, _, rfl, s1, rfl, ?_, ?_⟩
      · rw [List.all_map]
        exact List.all_eq_true.mpr fun _ _ => rfl
      · rw [← h2]
        unfold inV
        rw [List.any_map, Bool.eq_iff_iff, List.any_eq_true]
        constructor
        · rintro ⟨z, hz, q⟩
          have q : (z == a) = true := q
          rw [beq_iff_eq] at q
          exact decide_eq_true (q ▸ hz)
        · intro q
          exact ⟨a, of_decide_eq_true q, by show (a == a) = true; simp⟩
  · cases h
end
section
variable {X : Cx}
theorem c_inT : CmpP X .In inTM := by
  refine ⟨_, op_in_seq, ?_⟩
  intro E w μ H x y u v Q S hx hy hp
  unfold inTM at hp
  split at hp
  · rename_i c hc
    obtain ⟨p, xs, rfl, h1, h2, h3, h4⟩ := tupHas_ok hc hx hy
    exact ⟨p, xs, rfl, .inr h1, h2, h3, by rw [h4]; exact hp w H _ S (.bl _) .refl⟩
  · exact hp.elim
end
end Wn
/-! ### any(list of truths), all(list of truths) -/
namespace Wn
open PySem PySem.Spec PyProof.Rows L2 LamX He
def blsO : List Val → Option (List Bool)
  | [] => some []
  | .bl i :: l => (blsO l).map (i :: ·)
  | _ :: _ => none
theorem blsO_eq : ∀ {l : List Val} {ns : List Bool}, blsO l = some ns → l = ns.map Val.bl
  | [], ns, h => by cases h; rfl
  | .bl i :: l, ns, h => by
    obtain ⟨ms, h1, h2⟩ := Option.map_eq_some_iff.mp (show (blsO l).map (i :: ·) = some ns from h)
    subst h2
    rw [blsO_eq h1]
    rfl
  | .non :: _, _, h => by cases h
  | .int _ :: _, _, h => by cases h
  | .str _ :: _, _, h => by cases h
  | .tup _ :: _, _, h => by cases h
  | .loc _ :: _, _, h => by cases h
  | .vw _ _ _ :: _, _, h => by cases h
theorem VRs.bls_eq {K : PySem.W.Frag} {ad : Adr} {b : Nat} {H : Hp} : ∀ {bs : List Bool} {us : List V}, VRs K ad b H (bs.map Val.bl) us → us = bs.map V.bl
  | [], _, h => by cases h; rfl
  | b :: bs, _, h => by
    rw [List.map_cons] at h
    cases h with
    | cons h1 h2 =>
      cases h1
      rw [VRs.bls_eq h2]
      rfl
def allM : List Val → Mu → R Val
  | [.loc n], μ => match (seqOf μ n).bind blsO with
    | some l => .ok (.bl (l.all id)) μ
    | none => .no
  | _, _ => .no
theorem p_all {K : PySem.W.Frag} : PrimA K (fun vs H Q => ∃ (a : Addr) (bs : List Bool), vs = [V.ref a] ∧ SqL K H a (bs.map V.bl) ∧ Q (.bl (bs.all id)) H) allM := by
  intro E w μ H xs us Q S r hp
  unfold allM at hp
  split at hp
  · cases r with
    | cons r1 r2 =>
      cases r2; cases r1
      split at hp
      · rename_i l hl
        obtain ⟨vs, h1, h2⟩ := Option.bind_eq_some_iff.mp hl
        obtain ⟨us, q1, q2⟩ := seqOf_sq S h1
        rw [blsO_eq h2] at q2
        rw [VRs.bls_eq q2] at q1
        exact ⟨_, l, rfl, q1, hp w H _ S (.bl _) .refl⟩
      · exact hp.elim
  · exact hp.elim
end Wn
/-! ### isinstance(x, str) -/
namespace Wn
open PySem PySem.Spec PyProof.Rows L2 LamX He
def isiT (x : Val) (μ : Mu) : R Val := match x with
  | .str _ => .ok (.bl true) μ
  | .loc n => match seqOf μ n with
    | some _ => .ok (.bl false) μ
    | none => .no
  | .vw _ _ _ => .no
  | _ => .ok (.bl false) μ
section
variable {X : Cx} {E : XK} {a : Expr} {ma : ME} {pos : Pos}
theorem vr_tyT {K : PySem.W.Frag} {w : Wt} {μ : Mu} {H : Hp} (S : Sim K w μ H) {x : Val} {u : V} {Q : V → Hp → Prop} (r : VR K w.ad μ.nx H x u) (hp : Post K (relE K) E w μ.nx H Q (isiT x μ)) : ∃ (t : Value) (b : Bool), TyX K H u t ∧ PySem.W.kitOne K t (.type "str") = some b ∧ Q (.bl b) H := by
  unfold isiT at hp
  cases r with
  | non => exact ⟨.type "NoneType", false, .base .non, kit_ty (by decide +kernel), hp w H _ S (.bl _) .refl⟩
  | bl y => exact ⟨.type "bool", false, .base (.bl y), kit_ty (by decide +kernel), hp w H _ S (.bl _) .refl⟩
  | int i => exact ⟨.type "int", false, .base (.int i), kit_ty (by decide +kernel), hp w H _ S (.bl _) .refl⟩
  | str y => exact ⟨.type "str", true, .base (.str y), kit_ty (by decide +kernel), hp w H _ S (.bl _) .refl⟩
  | tup h _ =>
    refine ⟨.type "tuple", false, ?_, kit_ty (by decide +kernel), hp w H _ S (.bl _) .refl⟩
    rcases h with (h | ⟨o, h⟩) | ⟨o, _, _, h1, h2, _⟩
    · exact .base (.tup h)
    · exact .fTuple h
    · exact .kTuple h1 h2
  | vw _ _ _ => exact hp.elim
  | loc hn =>
    simp only at hp
    split at hp
    · rename_i vs hq
      obtain ⟨us, h, _⟩ := seqOf_sq S hq
      refine ⟨.type "list", false, ?_, kit_ty (by decide +kernel), hp w H _ S (.bl _) .refl⟩
      rcases h with (h | ⟨o, h⟩) | ⟨o, _, _, h1, h2, _⟩
      · exact .base (.lst h)
      · exact .base (.frz h)
      · exact .kList h1 h2
    · exact hp.elim
theorem pm_isiT {y : Str} {p p2 : Pos} (hg : Gl X "isinstance") (hm : X.mg "isinstance" = none) (hgy : Gl X y) (hmy : X.mg y = none) (hvy : bootBuiltins y = some (.type "str")) (ha : PM X E a ma) (hny : y ≠ "__name__" := by decide) (hdy : (y == ("__debug__" : Str)) = false := by decide)
    (he : starEach [a, .Name y p2] X.env = (false, eval a X.env) :: starEach [.Name y p2] X.env := by rfl) (hpl : (backTo pos (starEach [.Name y p2] X.env)).any (·.1) = false := by rfl) : PM X E (.Call (.Name "isinstance" p) [a, .Name y p2] [] pos) (mUn isiT ma) :=
  PE.imp (pe_callB call_isi hg hm (by decide +kernel) (pa_cons ha (pa_cons (pe_bltn (v := .ty "str") hgy hmy hvy rfl hny hdy) pa_nil) (hs := he)) (by decide) (by decide) he hpl) fun σ H Q ⟨w, ρ, μ, S, EN, hp⟩ => ⟨w, ρ, μ, S, EN, Post.bind hp fun x μ1 w1 H1 u1 S1 r1 g1 h1 => by
    obtain ⟨t, b, ty, hk, q⟩ := vr_tyT S1 r1 h1
    exact ⟨u1, .ty "str", t, .type "str", b, rfl, .ty _, ty, hk, q⟩⟩
end
/-! ### d.get(k, x), d.pop(k, x) -/
section
variable {X : Cx} {E : XK} {o e f : Expr} {apos cpos : Pos} {mo me mf : ME}
end
end Wn
/-! the law's level: a module's texts and numbers by their names, x not in a row that is only read, sorted rows of data -/
namespace Wn
open PySem PySem.Spec PyProof.Rows L2 LamX He
section
variable {X : Cx} {E : XK} {pos : Pos}
theorem pm_gstr {x s : Str} (hg : Gl X x) (hm : ∃ t, X.mg x = some (.str s t)) (hd : (x == ("__debug__" : Str)) = false := by decide) : PM X E (.Name x pos) (mC (.str s)) := by
  obtain ⟨t, hm⟩ := hm
  exact PE.imp (pe_glob (v := .str s) hg hm ⟨_, rfl⟩ hd) fun σ H Q ⟨w, ρ, μ, S, EN, hp⟩ => hp w H _ S (.str _) .refl
theorem pm_gint {x : Str} {i : Int} (hg : Gl X x) (hm : ∃ t, X.mg x = some (.int i t)) (hd : (x == ("__debug__" : Str)) = false := by decide) : PM X E (.Name x pos) (mC (.int i)) := by
  obtain ⟨t, hm⟩ := hm
  exact PE.imp (pe_glob (v := .int i) hg hm ⟨_, rfl⟩ hd) fun σ H Q ⟨w, ρ, μ, S, EN, hp⟩ => hp w H _ S (.int _) .refl
end
/-! ### x not in l, l within a system -/
/-! ### sorted rows of data -/
section
variable {X : Cx}
end
end Wn
/-! plain data: what the law's lists, tuples and numbers are; what they stand for among the objects -/
namespace Wn
open PySem PySem.Spec PyProof.Rows L2 LamX He
inductive Dt where
  | non | bl (b : Bool) | int (i : Int) | str (x : Str) | tup (l : List Dt) | lst (l : List Dt) | dct (kvs : List (Key × Dt)) | ref (k : Nat)
  /-- the script: a list that is only read -/
  | ros (l : List Dt)
  /-- a system that is only read, and what stands within it -/
  | sysv (v : Sv) | sysw (v : Sv) | vw (v : Sv) (p : Pth)
  /-- a dict whose keys are tuples -/
  | dtt (kvs : List (List Key × Dt))
/-- what can change: a bag, a system, an object of the law's own -/
inductive Cel where
  | bag | sys (v : Sv) | dat (d : Dt) | lkt (l : List (List Key × Dt))
abbrev Sg := List Cel
abbrev Hd := List Nat
/-- a variable: plain data, or a list that nobody else has -/
inductive Lc where
  | im (d : Dt) | ow (d : Dt)
abbrev Ev_ := List (Option Lc)
mutual
inductive DR (h : Hd) (X : List Nat) (μ : Mu) : Val → Dt → Prop
  | non : DR h X μ .non .non
  | bl (x : Bool) : DR h X μ (.bl x) (.bl x)
  | int (i : Int) : DR h X μ (.int i) (.int i)
  | str (x : Str) : DR h X μ (.str x) (.str x)
  | tup {vs : List Val} {ds : List Dt} : DRs h X μ vs ds → DR h X μ (.tup vs) (.tup ds)
  | obj {n : Nat} {o : Ob} {d : Dt} : n ∉ h → n ∉ X → n < μ.nx → μ.ob n = some o → CD h X μ o d → DR h X μ (.loc n) d
  | ref {n k : Nat} : h[k]? = some n → DR h X μ (.loc n) (.ref k)
  | sysv {n : Nat} {v : Sv} : n ∉ h → n ∉ X → n < μ.nx → μ.ob n = some (.sys v) → DR h X μ (.loc n) (.sysv v)
  | sysw {n : Nat} {v : Sv} : n ∉ h → n ∉ X → n < μ.nx → svAt μ n = some v → DR h X μ (.loc n) (.sysw v)
  | vw {n k : Nat} {v : Sv} {p : Pth} : n ∉ h → n ∉ X → n < μ.nx → svAt μ n = some v → μ.vr n = k → DR h X μ (.vw n k p) (.vw v p)
inductive DRs (h : Hd) (X : List Nat) (μ : Mu) : List Val → List Dt → Prop
  | nil : DRs h X μ [] []
  | cons {v : Val} {vs : List Val} {d : Dt} {ds : List Dt} : DR h X μ v d → DRs h X μ vs ds → DRs h X μ (v :: vs) (d :: ds)
inductive CD (h : Hd) (X : List Nat) (μ : Mu) : Ob → Dt → Prop
  | lst {vs : List Val} {ds : List Dt} : DRs h X μ vs ds → CD h X μ (.lst vs) (.lst ds)
  | dct {vs : List (Key × Val)} {ds : List (Key × Dt)} : vs.map (·.1) = ds.map (·.1) → DRs h X μ (vs.map (·.2)) (ds.map (·.2)) → CD h X μ (.dct vs) (.dct ds)
  | ros {o : Ob} {vs : List Val} {ds : List Dt} : (o = .lst vs ∨ o = .ro vs) → DRs h X μ vs ds → CD h X μ o (.ros ds)
  | dtt {vs : List (List Key × Val)} {ds : List (List Key × Dt)} : vs.map (·.1) = ds.map (·.1) → DRs h X μ (vs.map (·.2)) (ds.map (·.2)) → CD h X μ (.dtt vs) (.dtt ds)
end
/-- what a step leaves: new handles are new places; only handles and O change -/
structure Ext (h h' : Hd) (O : List Nat) (μ μ' : Mu) : Prop where
  le : μ.nx ≤ μ'.nx
  hd : ∃ t, h' = h ++ t ∧ ∀ n ∈ t, μ.nx ≤ n
  ob : ∀ n, n < μ.nx → n ∉ h → n ∉ O → μ'.ob n = μ.ob n
  vr : ∀ n, n < μ.nx → n ∉ h → n ∉ O → μ'.vr n = μ.vr n
theorem svAt_eq {μ μ' : Mu} {n : Nat} (h : μ'.ob n = μ.ob n) : svAt μ' n = svAt μ n := by
  unfold svAt
  rw [h]
section
variable {h h' h2 : Hd} {X X' O O' : List Nat} {μ μ' μ2 : Mu} {v : Val} {d : Dt} {vs : List Val} {ds : List Dt}
theorem Ext.refl (h : Hd) (O : List Nat) (μ : Mu) : Ext h h O μ μ := ⟨Nat.le_refl _, ⟨[], (List.append_nil _).symm, fun _ z => nomatch z⟩, fun _ _ _ _ => rfl, fun _ _ _ _ => rfl⟩
theorem Ext.mem (e : Ext h h' O μ μ') {n : Nat} (q : n ∈ h') : n ∈ h ∨ μ.nx ≤ n := by
  obtain ⟨t, rfl, ht⟩ := e.hd
  exact (List.mem_append.mp q).imp id (ht n)
theorem Ext.not (e : Ext h h' O μ μ') {n : Nat} (l : n < μ.nx) (q : n ∉ h) : n ∉ h' := fun z => (e.mem z).elim q fun z => absurd l (Nat.not_lt.mpr z)
theorem Ext.get (e : Ext h h' O μ μ') {k n : Nat} (q : h[k]? = some n) : h'[k]? = some n := by
  obtain ⟨t, rfl, ht⟩ := e.hd
  rw [List.getElem?_append_left (List.getElem?_eq_some_iff.mp q).1]
  exact q
theorem Ext.trans (a : Ext h h' O μ μ') (b : Ext h' h2 O' μ' μ2) (hO : ∀ n ∈ O', n ∈ O ∨ μ.nx ≤ n) : Ext h h2 O μ μ2 := by
  refine ⟨Nat.le_trans a.le b.le, ?_, fun n l q z => ?_, fun n l q z => ?_⟩
  · obtain ⟨t, rfl, ht⟩ := a.hd
    obtain ⟨s, rfl, hs⟩ := b.hd
    exact ⟨t ++ s, by rw [List.append_assoc], fun n hn => (List.mem_append.mp hn).elim (ht n) fun y => Nat.le_trans a.le (hs n y)⟩
  · rw [b.ob n (Nat.lt_of_lt_of_le l a.le) (a.not l q) (fun y => (hO n y).elim z fun y => absurd l (Nat.not_lt.mpr y)), a.ob n l q z]
  · rw [b.vr n (Nat.lt_of_lt_of_le l a.le) (a.not l q) (fun y => (hO n y).elim z fun y => absurd l (Nat.not_lt.mpr y)), a.vr n l q z]
theorem Ext.tr (a : Ext h h' [] μ μ') (b : Ext h' h2 [] μ' μ2) : Ext h h2 [] μ μ2 := a.trans b fun _ z => nomatch z
theorem Ext.mono (a : Ext h h' O μ μ') (hO : ∀ n ∈ O, n ∈ O') : Ext h h' O' μ μ' := ⟨a.le, a.hd, fun n l q z => a.ob n l q fun y => z (hO n y), fun n l q z => a.vr n l q fun y => z (hO n y)⟩
theorem Ext.kee {S : List Nat} (k : Kee S μ μ') (hs : ∀ n ∈ S, n ∈ h) : Ext h h [] μ μ' := ⟨k.le, ⟨[], (List.append_nil _).symm, fun _ z => nomatch z⟩, fun n l q _ => k.ob n l fun z => q (hs n z), fun n l q _ => k.vr n l fun z => q (hs n z)⟩
theorem Ext.new (h : Hd) (O : List Nat) (μ : Mu) (o : Ob) : Ext h h O μ (μ.new o) := ⟨Nat.le_succ _, ⟨[], (List.append_nil _).symm, fun _ z => nomatch z⟩, fun n l _ _ => Mu.new_ne _ _ (Nat.ne_of_lt l), fun _ _ _ _ => rfl⟩
mutual
theorem DR.ext (e : Ext h h' O μ μ') (hO : ∀ n ∈ O, n ∈ X) : ∀ {v : Val} {d : Dt}, DR h X μ v d → DR h' X μ' v d
  | _, _, .non => .non
  | _, _, .bl x => .bl x
  | _, _, .int i => .int i
  | _, _, .str x => .str x
  | _, _, .tup q => .tup (DRs.ext e hO q)
  | _, _, .obj a b c o q => .obj (e.not c a) b (Nat.lt_of_lt_of_le c e.le) ((e.ob _ c a fun z => b (hO _ z)).trans o) (CD.ext e hO q)
  | _, _, .ref q => .ref (e.get q)
  | _, _, .sysv a b c o => .sysv (e.not c a) b (Nat.lt_of_lt_of_le c e.le) ((e.ob _ c a fun z => b (hO _ z)).trans o)
  | _, _, .sysw a b c o => .sysw (e.not c a) b (Nat.lt_of_lt_of_le c e.le) ((svAt_eq (e.ob _ c a fun z => b (hO _ z))).trans o)
  | _, _, .vw a b c o k => .vw (e.not c a) b (Nat.lt_of_lt_of_le c e.le) ((svAt_eq (e.ob _ c a fun z => b (hO _ z))).trans o) ((e.vr _ c a fun z => b (hO _ z)).trans k)
theorem DRs.ext (e : Ext h h' O μ μ') (hO : ∀ n ∈ O, n ∈ X) : ∀ {vs : List Val} {ds : List Dt}, DRs h X μ vs ds → DRs h' X μ' vs ds
  | _, _, .nil => .nil
  | _, _, .cons a b => .cons (DR.ext e hO a) (DRs.ext e hO b)
theorem CD.ext (e : Ext h h' O μ μ') (hO : ∀ n ∈ O, n ∈ X) : ∀ {o : Ob} {d : Dt}, CD h X μ o d → CD h' X μ' o d
  | _, _, .lst a => .lst (DRs.ext e hO a)
  | _, _, .dct k a => .dct k (DRs.ext e hO a)
  | _, _, .ros k a => .ros k (DRs.ext e hO a)
  | _, _, .dtt k a => .dtt k (DRs.ext e hO a)
end
mutual
/-- less is hidden, or what is hidden is new -/
theorem DR.hid (hX : ∀ n ∈ X', n ∈ X ∨ μ.nx ≤ n) : ∀ {v : Val} {d : Dt}, DR h X μ v d → DR h X' μ v d
  | _, _, .non => .non
  | _, _, .bl x => .bl x
  | _, _, .int i => .int i
  | _, _, .str x => .str x
  | _, _, .tup q => .tup (DRs.hid hX q)
  | _, _, .obj a b c o q => .obj a (fun z => (hX _ z).elim b fun y => absurd c (Nat.not_lt.mpr y)) c o (CD.hid hX q)
  | _, _, .ref q => .ref q
  | _, _, .sysw a b c o => .sysw a (fun z => (hX _ z).elim b fun y => absurd c (Nat.not_lt.mpr y)) c o
  | _, _, .sysv a b c o => .sysv a (fun z => (hX _ z).elim b fun y => absurd c (Nat.not_lt.mpr y)) c o
  | _, _, .vw a b c o k => .vw a (fun z => (hX _ z).elim b fun y => absurd c (Nat.not_lt.mpr y)) c o k
theorem DRs.hid (hX : ∀ n ∈ X', n ∈ X ∨ μ.nx ≤ n) : ∀ {vs : List Val} {ds : List Dt}, DRs h X μ vs ds → DRs h X' μ vs ds
  | _, _, .nil => .nil
  | _, _, .cons a b => .cons (DR.hid hX a) (DRs.hid hX b)
theorem CD.hid (hX : ∀ n ∈ X', n ∈ X ∨ μ.nx ≤ n) : ∀ {o : Ob} {d : Dt}, CD h X μ o d → CD h X' μ o d
  | _, _, .lst a => .lst (DRs.hid hX a)
  | _, _, .dct k a => .dct k (DRs.hid hX a)
  | _, _, .ros k a => .ros k (DRs.hid hX a)
  | _, _, .dtt k a => .dtt k (DRs.hid hX a)
end
theorem DR.weak (hX : ∀ n ∈ X', n ∈ X) (q : DR h X μ v d) : DR h X' μ v d := q.hid fun n z => .inl (hX n z)
theorem DRs.weak (hX : ∀ n ∈ X', n ∈ X) (q : DRs h X μ vs ds) : DRs h X' μ vs ds := q.hid fun n z => .inl (hX n z)
theorem CD.weak' {o : Ob} (hX : ∀ n ∈ X', n ∈ X) (q : CD h X μ o d) : CD h X' μ o d := q.hid fun n z => .inl (hX n z)
theorem DRs.len : ∀ {vs : List Val} {ds : List Dt}, DRs h X μ vs ds → vs.length = ds.length
  | _, _, .nil => rfl
  | _, _, .cons _ b => congrArg (· + 1) (DRs.len b)
theorem DRs.get : ∀ {vs : List Val} {ds : List Dt}, DRs h X μ vs ds → ∀ {i : Nat} {d : Dt}, ds[i]? = some d → ∃ v, vs[i]? = some v ∧ DR h X μ v d
  | _, _, .nil, i, d, e => by cases i <;> cases e
  | _, _, .cons a b, 0, d, e => by cases e; exact ⟨_, rfl, a⟩
  | _, _, .cons a b, i + 1, d, e => DRs.get b (i := i) e
theorem DRs.app {vs ws : List Val} {ds es : List Dt} : DRs h X μ vs ds → DRs h X μ ws es → DRs h X μ (vs ++ ws) (ds ++ es)
  | .nil, b => b
  | .cons a r, b => .cons a (DRs.app r b)
theorem DRs.drop : ∀ (k : Nat) {vs : List Val} {ds : List Dt}, DRs h X μ vs ds → DRs h X μ (vs.drop k) (ds.drop k)
  | 0, _, _, q => q
  | _ + 1, _, _, .nil => .nil
  | k + 1, _, _, .cons _ b => DRs.drop k b
theorem DRs.take : ∀ (k : Nat) {vs : List Val} {ds : List Dt}, DRs h X μ vs ds → DRs h X μ (vs.take k) (ds.take k)
  | 0, _, _, _ => .nil
  | _ + 1, _, _, .nil => .nil
  | k + 1, _, _, .cons a b => .cons a (DRs.take k b)
theorem DRs.set : ∀ {vs : List Val} {ds : List Dt}, DRs h X μ vs ds → ∀ (k : Nat), DR h X μ v d → DRs h X μ (vs.set k v) (ds.set k d)
  | _, _, .nil, _, _ => .nil
  | _, _, .cons a b, 0, q => .cons q b
  | _, _, .cons a b, k + 1, q => .cons a (DRs.set b k q)
theorem DRs.erase : ∀ {vs : List Val} {ds : List Dt}, DRs h X μ vs ds → ∀ (k : Nat), DRs h X μ (vs.eraseIdx k) (ds.eraseIdx k)
  | _, _, .nil, _ => .nil
  | _, _, .cons a b, 0 => b
  | _, _, .cons a b, k + 1 => .cons a (DRs.erase b k)
theorem DRs.of {α : Type} {f : α → Val} {g : α → Dt} : ∀ (l : List α), (∀ x ∈ l, DR h X μ (f x) (g x)) → DRs h X μ (l.map f) (l.map g)
  | [], _ => .nil
  | a :: l, q => .cons (q a List.mem_cons_self) (DRs.of l fun x hx => q x (List.mem_cons_of_mem _ hx))
end
/-- what a cell stands for -/
def CR (h : Hd) (X : List Nat) (μ : Mu) (n : Nat) : Cel → Prop
  | .bag => ∃ c m, μ.ob n = some (.lst [.int c, .int m])
  | .sys v => μ.ob n = some (.sys v)
  | .dat d => ∃ o, μ.ob n = some o ∧ CD h X μ o d
  | .lkt l => ∃ vs, μ.ob n = some (.rodt vs) ∧ CD h X μ (.dtt vs) (.dtt l)
structure Sm (h : Hd) (X : List Nat) (μ : Mu) (σ : Sg) : Prop where
  len : h.length = σ.length
  nd : h.Nodup
  lt : ∀ n ∈ h, n < μ.nx
  xl : ∀ n ∈ X, n < μ.nx
  ob : ∀ (k n : Nat) (c : Cel), h[k]? = some n → σ[k]? = some c → CR h X μ n c
structure EnvD (h : Hd) (X O : List Nat) (μ : Mu) (ρ : Rho) (r : Ev_) : Prop where
  len : ρ.length = r.length
  im : ∀ (i : Nat) (d : Dt), r[i]? = some (some (.im d)) → ∃ v, ρ[i]? = some (some v) ∧ DR h (O ++ X) μ v d
  ow : ∀ (i : Nat) (d : Dt), r[i]? = some (some (.ow d)) → ∃ n o, ρ[i]? = some (some (.loc n)) ∧ n ∈ O ∧ n ∉ h ∧ n ∉ X ∧ n < μ.nx ∧ μ.ob n = some o ∧ CD h (O ++ X) μ o d
  ne : ∀ (i j : Nat) (d e : Dt) (n : Nat), i ≠ j → r[i]? = some (some (.ow d)) → r[j]? = some (some (.ow e)) → ρ[i]? = some (some (.loc n)) → ρ[j]? ≠ some (some (.loc n))
section
variable {h h' h2 : Hd} {X X' O O' : List Nat} {μ μ' μ2 : Mu} {σ σ' : Sg} {ρ : Rho} {r : Ev_}
theorem CR.ext (e : Ext h h' O μ μ') (hO : ∀ n ∈ O, n ∈ X) {n : Nat} {c : Cel} (q : CR h X μ n c) (hb : μ'.ob n = μ.ob n) : CR h' X μ' n c := by
  cases c with
  | bag =>
    obtain ⟨c, m, q⟩ := q
    exact ⟨c, m, hb.trans q⟩
  | sys v => exact hb.trans q
  | dat d =>
    obtain ⟨o, a, b⟩ := q
    exact ⟨o, hb.trans a, b.ext e hO⟩
  | lkt l =>
    obtain ⟨o, a, b⟩ := q
    exact ⟨o, hb.trans a, b.ext e hO⟩
theorem CR.hid (hX : ∀ n ∈ X', n ∈ X ∨ μ.nx ≤ n) {n : Nat} {c : Cel} (q : CR h X μ n c) : CR h X' μ n c := by
  cases c with
  | bag => exact q
  | sys v => exact q
  | dat d =>
    obtain ⟨o, a, b⟩ := q
    exact ⟨o, a, b.hid hX⟩
  | lkt l =>
    obtain ⟨o, a, b⟩ := q
    exact ⟨o, a, b.hid hX⟩
theorem Sm.hid (S : Sm h X μ σ) (hX : ∀ n ∈ X', n ∈ X ∨ μ.nx ≤ n) (xl : ∀ n ∈ X', n < μ.nx) : Sm h X' μ σ := ⟨S.len, S.nd, S.lt, xl, fun k n c a b => (S.ob k n c a b).hid hX⟩
theorem Sm.weak (S : Sm h X μ σ) (hX : ∀ n ∈ X', n ∈ X) : Sm h X' μ σ := S.hid (fun n z => .inl (hX n z)) fun n z => S.xl n (hX n z)
/-- nothing but places that are no handles changes, or new ones -/
theorem Sm.keep (S : Sm h X μ σ) (e : Ext h h O μ μ') (hO : ∀ n ∈ O, n ∈ X) (hb : ∀ n ∈ h, μ'.ob n = μ.ob n) : Sm h X μ' σ := ⟨S.len, S.nd, fun n z => Nat.lt_of_lt_of_le (S.lt n z) e.le, fun n z => Nat.lt_of_lt_of_le (S.xl n z) e.le, fun k n c a b => (S.ob k n c a b).ext e hO (hb n (List.mem_of_getElem? a))⟩
theorem Sm.new (S : Sm h X μ σ) (o : Ob) : Sm h X (μ.new o) σ := S.keep (Ext.new h [] μ o) (fun _ z => nomatch z) fun n z => Mu.new_ne _ _ (Nat.ne_of_lt (S.lt n z))
theorem nd_at {α : Type} {l : List α} (nd : l.Nodup) {i j : Nat} {x : α} (a : l[i]? = some x) (b : l[j]? = some x) : i = j := by
  obtain ⟨hi, rfl⟩ := List.getElem?_eq_some_iff.mp a
  obtain ⟨hj, e⟩ := List.getElem?_eq_some_iff.mp b
  have P := List.pairwise_iff_getElem.mp nd
  rcases Nat.lt_trichotomy i j with c | c | c
  · exact absurd e.symm (P i j hi hj c)
  · exact c
  · exact absurd e (P j i hj hi c)
/-- one cell changes -/
theorem Sm.put (S : Sm h X μ σ) {k n : Nat} (hk : h[k]? = some n) (e : Ext h h [] μ μ') {c : Cel} (hc : CR h X μ' n c) (hb : ∀ m ∈ h, m ≠ n → μ'.ob m = μ.ob m) : Sm h X μ' (σ.set k c) := by
  refine ⟨by rw [List.length_set]; exact S.len, S.nd, fun n z => Nat.lt_of_lt_of_le (S.lt n z) e.le, fun n z => Nat.lt_of_lt_of_le (S.xl n z) e.le, fun j m c' a b => ?_⟩
  by_cases q : j = k
  · subst q
    rw [hk] at a
    cases a
    rw [List.getElem?_set, if_pos rfl] at b
    split at b
    · cases b
      exact hc
    · cases b
  · rw [List.getElem?_set, if_neg (fun z => q z.symm)] at b
    refine (S.ob j m c' a b).ext e (fun _ z => nomatch z) (hb m (List.mem_of_getElem? a) fun z => ?_)
    subst z
    exact q (nd_at S.nd a hk)
/-- a new cell -/
theorem Sm.mk_ (S : Sm h X μ σ) {n : Nat} (e : Ext h h [] μ μ') (hn : μ.nx ≤ n) (hl : n < μ'.nx) (hb : ∀ m ∈ h, μ'.ob m = μ.ob m) {c : Cel} (hc : CR (h ++ [n]) X μ' n c) : Sm (h ++ [n]) X μ' (σ ++ [c]) ∧ Ext h (h ++ [n]) [] μ μ' := by
  have E : Ext h (h ++ [n]) [] μ μ' := ⟨e.le, ⟨[n], rfl, fun m z => by cases List.mem_singleton.mp z; exact hn⟩, e.ob, e.vr⟩
  refine ⟨⟨by rw [List.length_append, List.length_append, S.len]; rfl, ?_, fun m z => ?_, fun m z => Nat.lt_of_lt_of_le (S.xl m z) e.le, fun k m c' a b => ?_⟩, E⟩
  · refine List.nodup_append.mpr ⟨S.nd, (by simp), fun a ha b hb => ?_⟩
    cases List.mem_singleton.mp hb
    have := S.lt a ha
    omega
  · rcases List.mem_append.mp z with z | z
    · exact Nat.lt_of_lt_of_le (S.lt m z) e.le
    · cases List.mem_singleton.mp z
      exact hl
  · by_cases q : k < h.length
    · rw [List.getElem?_append_left q] at a
      rw [List.getElem?_append_left (by rw [← S.len]; exact q)] at b
      exact (S.ob k m c' a b).ext E (fun _ z => nomatch z) (hb m (List.mem_of_getElem? a))
    · rw [List.getElem?_append_right (by omega)] at a
      rw [List.getElem?_append_right (by rw [← S.len]; omega)] at b
      rw [← S.len] at b
      have k0 : k - h.length = 0 := by
        have := (List.getElem?_eq_some_iff.mp a).1
        simp at this
        omega
      rw [k0] at a b
      cases a
      cases b
      exact hc
theorem EnvD.ext {Z : List Nat} (E : EnvD h X O μ ρ r) (e : Ext h h' Z μ μ') (hZ : ∀ n ∈ Z, n ∈ X) : EnvD h' X O μ' ρ r := by
  have hZ' : ∀ n ∈ Z, n ∈ O ++ X := fun n z => List.mem_append_right _ (hZ n z)
  refine ⟨E.len, fun i d q => ?_, fun i d q => ?_, E.ne⟩
  · obtain ⟨v, a, b⟩ := E.im i d q
    exact ⟨v, a, b.ext e hZ'⟩
  · obtain ⟨n, o, a, b, c, f, g, i, j⟩ := E.ow i d q
    exact ⟨n, o, a, b, e.not g c, f, Nat.lt_of_lt_of_le g e.le, (e.ob n g c fun z => f (hZ n z)).trans i, j.ext e hZ'⟩
theorem DRs.move {Z : List Nat} {vs : List Val} {ds : List Dt} (q : DRs h X μ vs ds) (e : Ext h h' Z μ μ') (hZ : ∀ n ∈ Z, n ∈ X) (hX : ∀ n ∈ X', n ∈ X ∨ μ.nx ≤ n) : DRs h' X' μ' vs ds :=
  DRs.weak (X := X' ++ X) (fun n z => List.mem_append_left _ z) (DRs.ext e (fun n z => List.mem_append_right _ (hZ n z)) (DRs.hid (X' := X' ++ X) (fun n z => (List.mem_append.mp z).elim (hX n) .inl) q))
/-- an own object changes -/
theorem EnvD.upd (E : EnvD h X O μ ρ r) {i n : Nat} {d0 d : Dt} {o : Ob} (hi : r[i]? = some (some (.ow d0))) (hn : ρ[i]? = some (some (.loc n))) (q : CD h (O ++ X) μ o d) : EnvD h X O (μ.put n o) ρ (r.set i (some (.ow d))) ∧ Ext h h O μ (μ.put n o) ∧ n ∈ O ∧ n ∉ h ∧ n ∉ X ∧ n < μ.nx := by
  obtain ⟨n', o0, a, b, c, f, g, _, _⟩ := E.ow i d0 hi
  rw [hn] at a
  cases a
  have e1 : Ext h h [n] μ (μ.put n o) := ⟨Nat.le_refl _, ⟨[], (List.append_nil _).symm, fun _ z => nomatch z⟩, fun m _ _ z => Mu.put_ne _ _ fun y => z (List.mem_singleton.mpr y), fun m _ _ z => Mu.put_vrN _ _ fun y => z (List.mem_singleton.mpr y)⟩
  have hz : ∀ m ∈ [n], m ∈ O ++ X := fun m z => List.mem_append_left _ (List.mem_singleton.mp z ▸ b)
  have il : i < r.length := (List.getElem?_eq_some_iff.mp hi).1
  have sp : ∀ {j : Nat} {z : Lc}, (r.set i (some (.ow d)))[j]? = some (some z) → (j = i ∧ z = .ow d) ∨ (j ≠ i ∧ r[j]? = some (some z)) := fun {j z} y => by
    rw [List.getElem?_set] at y
    split at y
    · rename_i c
      cases y
      exact .inl ⟨c.symm, rfl⟩
    · rename_i c
      exact .inr ⟨fun y => c y.symm, y⟩
  refine ⟨⟨by rw [List.length_set]; exact E.len, fun j d' z => ?_, fun j d' z => ?_, fun j k x y m jk z1 z2 z3 => ?_⟩, e1.mono fun m z => List.mem_singleton.mp z ▸ b, b, c, f, g⟩
  · rcases sp z with ⟨_, e⟩ | ⟨_, z⟩
    · cases e
    · obtain ⟨v, y, w⟩ := E.im j d' z
      exact ⟨v, y, w.ext e1 hz⟩
  · rcases sp z with ⟨rfl, e⟩ | ⟨cj, z⟩
    · cases e
      exact ⟨n, o, hn, b, c, f, g, Mu.put_same _ _ _, q.ext e1 hz⟩
    · obtain ⟨m, o', x1, x2, x3, x4, x5, x6, x7⟩ := E.ow j d' z
      have mn : m ≠ n := fun y => by
        subst y
        exact E.ne j i d' d0 m cj z hi x1 hn
      exact ⟨m, o', x1, x2, x3, x4, x5, (Mu.put_ne _ _ mn).trans x6, x7.ext e1 hz⟩
  · have w1 : ∃ d1, r[j]? = some (some (.ow d1)) := (sp z1).elim (fun ⟨e, _⟩ => ⟨d0, e ▸ hi⟩) fun ⟨_, z⟩ => ⟨_, z⟩
    have w2 : ∃ d1, r[k]? = some (some (.ow d1)) := (sp z2).elim (fun ⟨e, _⟩ => ⟨d0, e ▸ hi⟩) fun ⟨_, z⟩ => ⟨_, z⟩
    obtain ⟨d1, w1⟩ := w1
    obtain ⟨d2, w2⟩ := w2
    exact E.ne j k d1 d2 m jk w1 w2 z3
theorem EnvD.hid (E : EnvD h X O μ ρ r) (hX : ∀ n ∈ X', n ∈ X ∨ μ.nx ≤ n) : EnvD h X' O μ ρ r := by
  have hX' : ∀ n ∈ O ++ X', n ∈ O ++ X ∨ μ.nx ≤ n := fun n z => (List.mem_append.mp z).elim (fun z => .inl (List.mem_append_left _ z)) fun z => (hX n z).imp (List.mem_append_right _) id
  refine ⟨E.len, fun i d q => ?_, fun i d q => ?_, E.ne⟩
  · obtain ⟨v, a, b⟩ := E.im i d q
    exact ⟨v, a, b.hid hX'⟩
  · obtain ⟨n, o, a, b, c, f, g, i, j⟩ := E.ow i d q
    exact ⟨n, o, a, b, c, fun z => (hX n z).elim f fun y => absurd g (Nat.not_lt.mpr y), g, i, j.hid hX'⟩
theorem EnvD.set (E : EnvD h X O μ ρ r) (i : Nat) {v : Val} {d : Dt} (q : DR h (O ++ X) μ v d) : EnvD h X O μ (ρ.set i (some v)) (r.set i (some (.im d))) := by
  have sp : ∀ {j : Nat} {d' : Dt}, (r.set i (some (.im d)))[j]? = some (some (.ow d')) → j ≠ i ∧ r[j]? = some (some (.ow d')) := fun {j d'} z => by
    rw [List.getElem?_set] at z
    split at z
    · split at z <;> cases z
    · rename_i c
      exact ⟨fun y => c y.symm, z⟩
  refine ⟨by rw [List.length_set, List.length_set]; exact E.len, fun j d' z => ?_, fun j d' z => ?_, fun j k a b n jk z1 z2 z3 => ?_⟩
  · rw [List.getElem?_set] at z ⊢
    split at z
    · rename_i c
      split at z
      · rename_i l
        cases z
        exact ⟨v, by rw [if_pos c, if_pos (by rw [E.len]; exact l)], q⟩
      · cases z
    · rename_i c
      rw [if_neg c]
      exact E.im j d' z
  · obtain ⟨c, z⟩ := sp z
    rw [List.getElem?_set, if_neg (fun y => c y.symm)]
    exact E.ow j d' z
  · obtain ⟨c1, z1⟩ := sp z1
    obtain ⟨c2, z2⟩ := sp z2
    rw [List.getElem?_set, if_neg (fun y => c1 y.symm)] at z3
    rw [List.getElem?_set, if_neg (fun y => c2 y.symm)]
    exact E.ne j k a b n jk z1 z2 z3
/-- a variable has a new object -/
theorem EnvD.own (E : EnvD h X O μ ρ r) (e : Ext h h' [] μ μ') (i : Nat) {n : Nat} {o : Ob} {d : Dt} (hm : μ.nx ≤ n) (hn : n ∉ h') (hx : n ∉ X) (hl : n < μ'.nx) (ho : μ'.ob n = some o) (q : CD h' (n :: O ++ X) μ' o d) : EnvD h' X (n :: O) μ' (ρ.set i (some (.loc n))) (r.set i (some (.ow d))) := by
  have hX' : ∀ m ∈ n :: O ++ X, m ∈ O ++ X ∨ μ.nx ≤ m := fun m z => by
    rcases List.mem_cons.mp z with z | z
    · exact .inr (z ▸ hm)
    · exact .inl z
  have sp : ∀ {j : Nat} {z : Lc}, (r.set i (some (.ow d)))[j]? = some (some z) → (j = i ∧ z = .ow d ∧ i < r.length) ∨ (j ≠ i ∧ r[j]? = some (some z)) := fun {j z} y => by
    rw [List.getElem?_set] at y
    split at y
    · rename_i c
      split at y
      · rename_i l
        cases y
        exact .inl ⟨c.symm, rfl, l⟩
      · cases y
    · rename_i c
      exact .inr ⟨fun y => c y.symm, y⟩
  have old : ∀ {j : Nat} {a : Dt}, r[j]? = some (some (.ow a)) → ρ[j]? ≠ some (some (.loc n)) := fun {j a} z y => by
    obtain ⟨m, o', x1, _, _, _, x5, _⟩ := E.ow j a z
    rw [x1] at y
    cases y
    exact absurd x5 (Nat.not_lt.mpr hm)
  refine ⟨by rw [List.length_set, List.length_set]; exact E.len, fun j d' z => ?_, fun j d' z => ?_, fun j k a b m jk z1 z2 z3 => ?_⟩
  · rcases sp z with ⟨_, e', _⟩ | ⟨c, z⟩
    · cases e'
    · obtain ⟨v, y, w⟩ := E.im j d' z
      rw [List.getElem?_set, if_neg (fun y => c y.symm)]
      exact ⟨v, y, (w.hid hX').ext e fun _ z => nomatch z⟩
  · rcases sp z with ⟨rfl, e', l⟩ | ⟨c, z⟩
    · cases e'
      exact ⟨n, o, by rw [List.getElem?_set, if_pos rfl, if_pos (by rw [E.len]; exact l)], List.mem_cons_self, hn, hx, hl, ho, q⟩
    · obtain ⟨m, o', x1, x2, x3, x4, x5, x6, x7⟩ := E.ow j d' z
      rw [List.getElem?_set, if_neg (fun y => c y.symm)]
      exact ⟨m, o', x1, List.mem_cons_of_mem _ x2, e.not x5 x3, x4, Nat.lt_of_lt_of_le x5 e.le, (e.ob m x5 x3 fun z => nomatch z).trans x6, (x7.hid hX').ext e fun _ z => nomatch z⟩
  · rcases sp z1 with ⟨rfl, e1, l1⟩ | ⟨c1, y1⟩
    · rcases sp z2 with ⟨rfl, _, _⟩ | ⟨c2, y2⟩
      · exact absurd rfl jk
      · rw [List.getElem?_set, if_pos rfl, if_pos (by rw [E.len]; exact l1)] at z3
        cases z3
        rw [List.getElem?_set, if_neg (fun y => c2 y.symm)]
        exact old y2
    · clear z1
      rw [List.getElem?_set, if_neg (fun y => c1 y.symm)] at z3
      rcases sp z2 with ⟨rfl, e2, l2⟩ | ⟨c2, y2⟩
      · rw [List.getElem?_set, if_pos rfl, if_pos (by rw [E.len]; exact l2)]
        intro y
        cases y
        exact old y1 z3
      · rw [List.getElem?_set, if_neg (fun y => c2 y.symm)]
        exact E.ne j k a b m jk y1 y2 z3
/-- an own object becomes plain data -/
theorem EnvD.rel (E : EnvD h X O μ ρ r) {i : Nat} {d : Dt} (hi : r[i]? = some (some (.ow d))) : ∃ n, ρ[i]? = some (some (.loc n)) ∧ EnvD h X (O.filter fun m => decide (m ≠ n)) μ ρ (r.set i (some (.im d))) := by
  obtain ⟨n, o, a, b, c, f, g, y, w⟩ := E.ow i d hi
  have il : i < r.length := (List.getElem?_eq_some_iff.mp hi).1
  have hX : ∀ m ∈ (O.filter fun m => decide (m ≠ n)) ++ X, m ∈ O ++ X := fun m z => (List.mem_append.mp z).elim (fun z => List.mem_append_left _ (List.mem_filter.mp z).1) fun z => List.mem_append_right _ z
  have hX' : ∀ m ∈ (O.filter fun m => decide (m ≠ n)) ++ X, m ∈ O ++ X ∨ μ.nx ≤ m := fun m z => .inl (hX m z)
  have sp : ∀ {j : Nat} {z : Lc}, (r.set i (some (.im d)))[j]? = some (some z) → (j = i ∧ z = .im d) ∨ (j ≠ i ∧ r[j]? = some (some z)) := fun {j z} y => by
    rw [List.getElem?_set] at y
    split at y
    · rename_i c
      cases y
      exact .inl ⟨c.symm, rfl⟩
    · rename_i c
      exact .inr ⟨fun y => c y.symm, y⟩
  refine ⟨n, a, by rw [List.length_set]; exact E.len, fun j d' z => ?_, fun j d' z => ?_, fun j k x x' m jk z1 z2 z3 => ?_⟩
  · rcases sp z with ⟨rfl, e⟩ | ⟨_, z⟩
    · cases e
      refine ⟨_, a, .obj c (fun z => ?_) g y (w.hid hX')⟩
      rcases List.mem_append.mp z with z | z
      · exact absurd rfl (of_decide_eq_true (List.mem_filter.mp z).2)
      · exact f z
    · obtain ⟨v, y, w⟩ := E.im j d' z
      exact ⟨v, y, w.hid hX'⟩
  · rcases sp z with ⟨_, e⟩ | ⟨cj, z⟩
    · cases e
    · obtain ⟨m, o', x1, x2, x3, x4, x5, x6, x7⟩ := E.ow j d' z
      have mn : m ≠ n := fun y => by
        subst y
        exact E.ne j i d' d m cj z hi x1 a
      exact ⟨m, o', x1, List.mem_filter.mpr ⟨x2, decide_eq_true mn⟩, x3, x4, x5, x6, x7.hid hX'⟩
  · rcases sp z1 with ⟨_, e⟩ | ⟨_, z1⟩
    · cases e
    · rcases sp z2 with ⟨_, e⟩ | ⟨_, z2⟩
      · cases e
      · exact E.ne j k x x' m jk z1 z2 z3
end
end Wn
/-! plain data: expressions -/
namespace Wn
open PySem PySem.Spec PyProof.Rows L2 LamX He
abbrev PlE := Ev_ → Sg → (Dt → Sg → Prop) → Prop
abbrev PlA := Ev_ → Sg → (List Dt → Sg → Prop) → Prop
abbrev PlT := Ev_ → Sg → (Bool → Sg → Prop) → Prop
abbrev DRel (α β : Type) := Mu → Hd → List Nat → Mu → α → β → Prop
/-- what is read at once may be what nobody else has -/
def DW (h : Hd) (X : List Nat) (μ : Mu) (v : Val) (d : Dt) : Prop := DR h X μ v d ∨ ∃ n o, v = .loc n ∧ n ∉ h ∧ n < μ.nx ∧ μ.ob n = some o ∧ CD h X μ o d
def DWs (h : Hd) (X : List Nat) (μ : Mu) : List Val → List Dt → Prop
  | [], [] => True
  | v :: vs, d :: ds => DW h X μ v d ∧ DWs h X μ vs ds
  | _, _ => False
def rlE : DRel Val Dt := fun _ h X μ v d => DR h X μ v d
def rlW : DRel Val Dt := fun _ h X μ v d => DW h X μ v d
def rlA : DRel (List Val) (List Dt) := fun _ h X μ v d => DRs h X μ v d
def rlAW : DRel (List Val) (List Dt) := fun _ h X μ v d => DWs h X μ v d
def rlT : DRel Bool Bool := fun _ _ _ _ a b => a = b
def OkR {α β : Type} (rel : DRel α β) (h : Hd) (X : List Nat) (μ : Mu) (Q : β → Sg → Prop) (r : R α) : Prop :=
  ∃ a μ' h' b σ', r = .ok a μ' ∧ Ext h h' [] μ μ' ∧ Sm h' X μ' σ' ∧ rel μ h' X μ' a b ∧ Q b σ'
def Si {α β : Type} (rel : DRel α β) (m : Rho → Mu → R α) (p : Ev_ → Sg → (β → Sg → Prop) → Prop) : Prop :=
  ∀ (h : Hd) (X O : List Nat) (μ : Mu) (σ : Sg) (ρ : Rho) (r : Ev_) (Q : β → Sg → Prop), Sm h (O ++ X) μ σ → EnvD h X O μ ρ r → p r σ Q → OkR rel h (O ++ X) μ Q (m ρ μ)
abbrev SiE := Si rlE
abbrev SiW := Si rlW
abbrev SiA := Si rlA
abbrev SiAW := Si rlAW
abbrev SiT := Si rlT
/-- a new object, that nothing else has -/
def OkF (h : Hd) (X : List Nat) (μ : Mu) (Q : Dt → Sg → Prop) (r : R Val) : Prop :=
  ∃ n o μ' h' d σ', r = .ok (.loc n) μ' ∧ Ext h h' [] μ μ' ∧ Sm h' (n :: X) μ' σ' ∧ μ.nx ≤ n ∧ n ∉ h' ∧ n ∉ X ∧ μ'.ob n = some o ∧ CD h' (n :: X) μ' o d ∧ Q d σ'
def SiF (m : ME) (p : Ev_ → Sg → (Dt → Sg → Prop) → Prop) : Prop :=
  ∀ (h : Hd) (X O : List Nat) (μ : Mu) (σ : Sg) (ρ : Rho) (r : Ev_) (Q : Dt → Sg → Prop), Sm h (O ++ X) μ σ → EnvD h X O μ ρ r → p r σ Q → OkF h (O ++ X) μ Q (m ρ μ)
theorem none_in {n : Nat} {P : Prop} : n ∈ ([] : List Nat) → P := fun z => nomatch z
section
variable {h h' : Hd} {X : List Nat} {μ μ' : Mu} {v : Val} {d : Dt} {vs : List Val} {ds : List Dt} {σ : Sg}
theorem DW.ext (q : DW h X μ v d) (e : Ext h h' [] μ μ') : DW h' X μ' v d := by
  rcases q with q | ⟨n, o, a, b, c, f, g⟩
  · exact .inl (q.ext e fun _ => none_in)
  · exact .inr ⟨n, o, a, e.not c b, Nat.lt_of_lt_of_le c e.le, (e.ob n c b none_in).trans f, g.ext e fun _ => none_in⟩
theorem DWs.ext (e : Ext h h' [] μ μ') : ∀ {vs : List Val} {ds : List Dt}, DWs h X μ vs ds → DWs h' X μ' vs ds
  | [], [], _ => trivial
  | _ :: _, _ :: _, ⟨a, b⟩ => ⟨a.ext e, DWs.ext e b⟩
  | [], _ :: _, q => q.elim
  | _ :: _, [], q => q.elim
theorem DRs.w : ∀ {vs : List Val} {ds : List Dt}, DRs h X μ vs ds → DWs h X μ vs ds
  | _, _, .nil => trivial
  | _, _, .cons a b => ⟨.inl a, DRs.w b⟩
theorem OkF.e {Q : Dt → Sg → Prop} {r : R Val} (q : OkF h X μ Q r) : OkR rlE h X μ Q r := by
  obtain ⟨n, o, μ', h', d, σ', e, E, S, a, b, c, f, g, hq⟩ := q
  exact ⟨_, μ', h', d, σ', e, E, S.weak fun m z => List.mem_cons_of_mem _ z, .obj b c (S.xl n List.mem_cons_self) f (g.hid fun m z => .inl (List.mem_cons_of_mem _ z)), hq⟩
theorem OkR.mono {α β γ : Type} {rel : DRel α β} {rel' : DRel α γ} {h : Hd} {X : List Nat} {μ : Mu} {Q : β → Sg → Prop} {Q' : γ → Sg → Prop} {r : R α} (q : OkR rel h X μ Q r) (f : ∀ h' μ' a b σ', rel μ h' X μ' a b → Q b σ' → ∃ c, rel' μ h' X μ' a c ∧ Q' c σ') : OkR rel' h X μ Q' r := by
  obtain ⟨a, μ', h', b, σ', e1, e2, e3, e4, e5⟩ := q
  obtain ⟨c, x, y⟩ := f h' μ' a b σ' e4 e5
  exact ⟨a, μ', h', c, σ', e1, e2, e3, x, y⟩
/-- told of a later start, so of an earlier one -/
class RelUp {α β : Type} (rel : DRel α β) : Prop where
  up : ∀ {μ0 μ1 : Mu} {h : Hd} {X : List Nat} {μ : Mu} {a : α} {b : β}, μ0.nx ≤ μ1.nx → rel μ1 h X μ a b → rel μ0 h X μ a b
instance : RelUp rlE := ⟨fun _ z => z⟩
instance : RelUp rlW := ⟨fun _ z => z⟩
instance : RelUp rlA := ⟨fun _ z => z⟩
instance : RelUp rlAW := ⟨fun _ z => z⟩
instance : RelUp rlT := ⟨fun _ z => z⟩
/-- one step, then another one -/
theorem OkR.bind {α β γ δ : Type} {rel : DRel α β} {rel' : DRel γ δ} [RelUp rel'] {h : Hd} {X : List Nat} {μ : Mu} {Q : β → Sg → Prop} {Q' : δ → Sg → Prop} {r : R α} {k : α → Mu → R γ} (q : OkR rel h X μ Q r)
    (f : ∀ a μ' h' b σ', Ext h h' [] μ μ' → Sm h' X μ' σ' → rel μ h' X μ' a b → Q b σ' → OkR rel' h' X μ' Q' (k a μ')) : OkR rel' h X μ Q' (r.bind k) := by
  obtain ⟨a, μ', h', b, σ', rfl, e2, e3, e4, e5⟩ := q
  obtain ⟨a2, μ2, h2, b2, σ2, f1, f2, f3, f4, f5⟩ := f a μ' h' b σ' e2 e3 e4 e5
  exact ⟨a2, μ2, h2, b2, σ2, f1, e2.tr f2, f3, RelUp.up e2.le f4, f5⟩
end
theorem OkR.bindF {α β : Type} {rel : DRel α β} {h : Hd} {X : List Nat} {μ : Mu} {Q : β → Sg → Prop} {Q' : Dt → Sg → Prop} {r : R α} {k : α → Mu → R Val} (q : OkR rel h X μ Q r)
    (f : ∀ a μ' h' b σ', Ext h h' [] μ μ' → Sm h' X μ' σ' → rel μ h' X μ' a b → Q b σ' → OkF h' X μ' Q' (k a μ')) : OkF h X μ Q' (r.bind k) := by
  obtain ⟨a, μ', h', b, σ', rfl, e2, e3, e4, e5⟩ := q
  obtain ⟨n, o, μ2, h2, d, σ2, e, E, S, g⟩ := f a μ' h' b σ' e2 e3 e4 e5
  obtain ⟨g1, g2⟩ := g
  exact ⟨n, o, μ2, h2, d, σ2, e, e2.tr E, S, Nat.le_trans e2.le g1, g2⟩
/-- an answer, if there is one -/
def oK (o : Option Dt) (K : Dt → Prop) : Prop := match o with
  | some d => K d
  | none => False
theorem oK_some {d : Dt} {K : Dt → Prop} : oK (some d) K = K d := rfl
theorem oK_of {o : Option Dt} {K : Dt → Prop} (h : oK o K) : ∃ d, o = some d ∧ K d := by
  cases o with
  | some d => exact ⟨d, rfl, h⟩
  | none => exact h.elim

/-! ### the parts -/
def pC (d : Dt) : PlE := fun _ σ Q => Q d σ
def pV (i : Nat) : PlE := fun r σ Q => match r[i]? with
  | some (some (.im d)) => Q d σ
  | _ => False
/-- a variable that has its own list -/
def pO (i : Nat) : PlE := fun r σ Q => match r[i]? with
  | some (some (.ow d)) => Q d σ
  | _ => False
def pNil : PlA := fun _ σ Q => Q [] σ
def pCons (a : PlE) (b : PlA) : PlA := fun r σ Q => a r σ fun x σ => b r σ fun xs σ => Q (x :: xs) σ
def pTup (a : PlA) : PlE := fun r σ Q => a r σ fun xs σ => xs.length ≤ 1000 ∧ Q (.tup xs) σ
def pLst (a : PlA) : PlE := fun r σ Q => a r σ fun xs σ => xs.length ≤ 1000 ∧ Q (.lst xs) σ
def pOp (f : Dt → Dt → Sg → Option Dt) (a b : PlE) : PlE := fun r σ Q => a r σ fun x σ => b r σ fun y σ => oK (f x y σ) fun d => Q d σ
def pUn (f : Dt → Sg → Option Dt) (a : PlE) : PlE := fun r σ Q => a r σ fun x σ => oK (f x σ) fun d => Q d σ
def pFn (f : List Dt → Sg → Option Dt) (a : PlA) : PlE := fun r σ Q => a r σ fun xs σ => oK (f xs σ) fun d => Q d σ
def pTest (a : PlE) : PlT := fun r σ Q => a r σ fun x σ => match x with
  | .bl b => Q b σ
  | _ => False
def pAnd (a b : PlT) : PlT := fun r σ Q => a r σ fun c σ => if c = true then b r σ Q else Q false σ
def pOr (a b : PlT) : PlT := fun r σ Q => a r σ fun c σ => if c = true then Q true σ else b r σ Q
def pNot (a : PlT) : PlT := fun r σ Q => a r σ fun c σ => Q (!c) σ
def pIf (c : PlT) (a b : PlE) : PlE := fun r σ Q => c r σ fun k σ => if k = true then a r σ Q else b r σ Q
def pNotV (a : PlE) : PlE := fun r σ Q => a r σ fun x σ => match x with
  | .bl b => Q (.bl (!b)) σ
  | _ => False
def pOrV (a b : PlE) : PlE := fun r σ Q => a r σ fun x σ => match x with
  | .bl c => if c = true then Q (.bl true) σ else b r σ Q
  | _ => False
def pYes : PlT := fun _ σ Q => Q true σ
/-! ### what they read -/
def lstD (σ : Sg) : Dt → Option (List Dt)
  | .lst l => some l
  | .ref k => match σ[k]? with
    | some (.dat (.lst l)) => some l
    | _ => none
  | _ => none
def dctD (σ : Sg) : Dt → Option (List (Key × Dt))
  | .dct l => some l
  | .ref k => match σ[k]? with
    | some (.dat (.dct l)) => some l
    | _ => none
  | _ => none
def scaP : Dt → Option PyData
  | .non => some .none
  | .bl b => some (.bool b)
  | .int i => some (.int i)
  | .str x => if PyData.strOk x = true then some (.str x) else none
  | _ => none
def toP : Nat → Sg → Dt → Option PyData
  | 0, _, d => scaP d
  | k + 1, σ, .tup l => (allO (l.map (toP k σ))).map .tuple
  | k + 1, σ, .lst l => (allO (l.map (toP k σ))).map .list
  | k + 1, σ, .ros l => (allO (l.map (toP k σ))).map .list
  | k + 1, σ, .ref j => match σ[j]? with
    | some (.dat (.lst l)) => (allO (l.map (toP k σ))).map .list
    | _ => none
  | _ + 1, _, d => scaP d
def datP (σ : Sg) (d : Dt) : Option PyData := toP 8 σ d
def addD : Dt → Dt → Sg → Option Dt
  | .int i, .int j, _ => some (.int (i + j))
  | .str a, .str b, _ => if a.length + b.length ≤ 1000000 then some (.str (a ++ b)) else none
  | .tup a, .tup b, _ => if a ≠ [] ∧ a.length + b.length ≤ 1000000 then some (.tup (a ++ b)) else none
  | x, y, σ => match lstD σ x, lstD σ y with
    | some a, some b => if a.length + b.length ≤ 1000000 then some (.lst (a ++ b)) else none
    | _, _ => none
def subD : Dt → Dt → Sg → Option Dt
  | .int i, .int j, _ => some (.int (i - j))
  | _, _, _ => none

def modD : Dt → Dt → Sg → Option Dt
  | .int i, .int j, _ => if 0 < j then some (.int (i % j)) else none
  | _, _, _ => none

def cmpD (f : Int → Int → Bool) : Dt → Dt → Sg → Option Dt
  | .int i, .int j, _ => some (.bl (f i j))
  | _, _, _ => none
def ltD : Dt → Dt → Sg → Option Dt := cmpD fun i j => decide (i < j)
def leD : Dt → Dt → Sg → Option Dt := cmpD fun i j => decide (i ≤ j)
def gtD : Dt → Dt → Sg → Option Dt := cmpD fun i j => decide (j < i)
def geD : Dt → Dt → Sg → Option Dt := cmpD fun i j => decide (j ≤ i)
def nonD : Dt → Bool
  | .non => true
  | _ => false
def isD : Dt → Dt → Sg → Option Dt
  | x, .non, _ => some (.bl (nonD x))
  | _, _, _ => none
def isntD : Dt → Dt → Sg → Option Dt
  | x, .non, _ => some (.bl (!nonD x))
  | _, _, _ => none
def eqD (x y : Dt) (σ : Sg) : Option Dt := match datP σ x, datP σ y with
  | some d, some e => some (.bl (PyData.eqv d e))
  | _, _ => none
def neD (x y : Dt) (σ : Sg) : Option Dt := match datP σ x, datP σ y with
  | some d, some e => some (.bl (!PyData.eqv d e))
  | _, _ => none
def keyD : Dt → Option Key
  | .int i => some (.inl i)
  | .str x => some (.inr x)
  | _ => none
def getD_ : Dt → Dt → Sg → Option Dt
  | .tup l, .int i, _ => atI l i
  | x, .int i, σ => (lstD σ x).bind fun l => atI l i
  | _, _, _ => none
def negD : Dt → Sg → Option Dt
  | .int i, _ => some (.int (-i))
  | _, _ => none
def lenD : List Dt → Sg → Option Dt
  | [.tup l], _ => some (.int l.length)
  | [.ros l], _ => some (.int l.length)
  | [.str x], _ => if x.length ≤ 1000000 then some (.int x.length) else none
  | [x], σ => (lstD σ x).map fun l => .int l.length
  | _, _ => none
def listD : List Dt → Sg → Option Dt
  | [.tup l], _ => some (.lst l)
  | [x], σ => (lstD σ x).map .lst
  | _, _ => none
def tupleD : List Dt → Sg → Option Dt
  | [.tup l], _ => some (.tup l)
  | [x], σ => (lstD σ x).map .tup
  | _, _ => none
def minD : List Dt → Sg → Option Dt
  | [.int i, .int j], _ => some (.int (if j < i then j else i))
  | _, _ => none
def maxD : List Dt → Sg → Option Dt
  | [.int i, .int j], _ => some (.int (if j > i then j else i))
  | _, _ => none
def absD : List Dt → Sg → Option Dt
  | [.int i], _ => some (.int (if i < 0 then -i else i))
  | _, _ => none
def intD : List Dt → Sg → Option Dt
  | [.int i], _ => some (.int i)
  | _, _ => none
def intBD : List Dt → Sg → Option Dt
  | [.int i], _ => some (.int i)
  | [.bl k], _ => some (.int (if k then 1 else 0))
  | _, _ => none

open Classical in
noncomputable def reprD : List Dt → Sg → Option Dt
  | [x], σ => match datP σ x with
    | some d => if repOk d then some (.str d.shown) else none
    | none => none
  | _, _ => none
def truD (σ : Sg) : Dt → Option Bool
  | .non => some false
  | .bl b => some b
  | .int i => some (i != 0)
  | .str x => if x.length ≤ 1000000 then some ((x.length : Int) != 0) else none
  | .tup l => some (!l.isEmpty)
  | x => (lstD σ x).map fun l => !l.isEmpty
def pOrT (a b : PlE) : PlE := fun r σ Q => a r σ fun x σ => match truD σ x with
  | some true => Q x σ
  | some false => b r σ Q
  | none => False
def pAndT (a b : PlE) : PlE := fun r σ Q => a r σ fun x σ => match truD σ x with
  | some true => b r σ Q
  | some false => Q x σ
  | none => False
def pChain (f g : Dt → Dt → Sg → Option Dt) (a b c : PlE) : PlE := fun r σ Q => a r σ fun x σ => b r σ fun y σ => match f x y σ with
  | some (.bl true) => c r σ fun t σ => oK (g y t σ) fun d => Q d σ
  | some (.bl false) => Q (.bl false) σ
  | _ => False
end Wn
/-! plain data: what the parts do is what the law's defs do -/
namespace Wn
open PySem PySem.Spec PyProof.Rows L2 LamX He
section
variable {h h' : Hd} {X : List Nat} {μ μ' : Mu} {v : Val} {d : Dt} {vs : List Val} {ds : List Dt} {σ : Sg}
theorem DW.int {i : Int} (q : DW h X μ v (.int i)) : v = .int i := by
  rcases q with q | ⟨n, o, _, _, _, _, q⟩
  · cases q with
    | int => rfl
    | obj _ _ _ _ q => cases q
  · cases q
theorem DW.str {i : Str} (q : DW h X μ v (.str i)) : v = .str i := by
  rcases q with q | ⟨n, o, _, _, _, _, q⟩
  · cases q with
    | str => rfl
    | obj _ _ _ _ q => cases q
  · cases q
theorem DW.bl {i : Bool} (q : DW h X μ v (.bl i)) : v = .bl i := by
  rcases q with q | ⟨n, o, _, _, _, _, q⟩
  · cases q with
    | bl => rfl
    | obj _ _ _ _ q => cases q
  · cases q
theorem DW.non (q : DW h X μ v .non) : v = .non := by
  rcases q with q | ⟨n, o, _, _, _, _, q⟩
  · cases q with
    | non => rfl
    | obj _ _ _ _ q => cases q
  · cases q
theorem DW.tup {l : List Dt} (q : DW h X μ v (.tup l)) : ∃ vs, v = .tup vs ∧ DRs h X μ vs l := by
  rcases q with q | ⟨n, o, _, _, _, _, q⟩
  · cases q with
    | tup q => exact ⟨_, rfl, q⟩
    | obj _ _ _ _ q => cases q
  · cases q
theorem DW.sysv {s : Sv} (q : DW h X μ v (.sysv s)) : ∃ n, v = .loc n ∧ n ∉ h ∧ n ∉ X ∧ n < μ.nx ∧ μ.ob n = some (.sys s) := by
  rcases q with q | ⟨n, o, _, _, _, _, q⟩
  · cases q with
    | sysv a b c d => exact ⟨_, rfl, a, b, c, d⟩
    | obj _ _ _ _ q => cases q
  · cases q
theorem DW.sysw {s : Sv} (q : DW h X μ v (.sysw s)) : ∃ n, v = .loc n ∧ n ∉ h ∧ n ∉ X ∧ n < μ.nx ∧ svAt μ n = some s := by
  rcases q with q | ⟨n, o, _, _, _, _, q⟩
  · cases q with
    | sysw a b c d => exact ⟨_, rfl, a, b, c, d⟩
    | obj _ _ _ _ q => cases q
  · cases q
theorem DW.vw {s : Sv} {p : Pth} (q : DW h X μ v (.vw s p)) : ∃ n k, v = .vw n k p ∧ n ∉ h ∧ n ∉ X ∧ n < μ.nx ∧ svAt μ n = some s ∧ μ.vr n = k := by
  rcases q with q | ⟨n, o, _, _, _, _, q⟩
  · cases q with
    | vw a b c d e => exact ⟨_, _, rfl, a, b, c, d, e⟩
    | obj _ _ _ _ q => cases q
  · cases q
theorem DW.ref {k : Nat} (q : DW h X μ v (.ref k)) : ∃ n, v = .loc n ∧ h[k]? = some n := by
  rcases q with q | ⟨n, o, _, _, _, _, q⟩
  · cases q with
    | ref q => exact ⟨_, rfl, q⟩
    | obj _ _ _ _ q => cases q
  · cases q
theorem DW.lst {l : List Dt} (S : Sm h X μ σ) (q : DW h X μ v d) (e : lstD σ d = some l) : ∃ n vs, v = .loc n ∧ n < μ.nx ∧ μ.ob n = some (.lst vs) ∧ DRs h X μ vs l := by
  cases d with
  | lst l' =>
    cases e
    rcases q with q | ⟨n, o, rfl, _, a, b, q⟩
    · cases q with
      | obj _ _ a b q =>
        cases q with
        | lst q => exact ⟨_, _, rfl, a, b, q⟩
    · cases q with
      | lst q => exact ⟨_, _, rfl, a, b, q⟩
  | ref k =>
    obtain ⟨n, rfl, hk⟩ := q.ref
    dsimp only [lstD] at e
    split at e
    · rename_i l' hc
      cases e
      obtain ⟨o, a, b⟩ := S.ob _ _ _ hk hc
      cases b with
      | lst b => exact ⟨n, _, rfl, S.lt n (List.mem_of_getElem? hk), a, b⟩
    · cases e
  | _ => cases e
theorem DW.dct {l : List (Key × Dt)} (S : Sm h X μ σ) (q : DW h X μ v d) (e : dctD σ d = some l) : ∃ n vs, v = .loc n ∧ n < μ.nx ∧ μ.ob n = some (.dct vs) ∧ vs.map (·.1) = l.map (·.1) ∧ DRs h X μ (vs.map (·.2)) (l.map (·.2)) := by
  cases d with
  | dct l' =>
    cases e
    rcases q with q | ⟨n, o, rfl, _, a, b, q⟩
    · cases q with
      | obj _ _ a b q =>
        cases q with
        | dct k q => exact ⟨_, _, rfl, a, b, k, q⟩
    · cases q with
      | dct k q => exact ⟨_, _, rfl, a, b, k, q⟩
  | ref k =>
    obtain ⟨n, rfl, hk⟩ := q.ref
    dsimp only [dctD] at e
    split at e
    · rename_i l' hc
      cases e
      obtain ⟨o, a, b⟩ := S.ob _ _ _ hk hc
      cases b with
      | dct k b => exact ⟨n, _, rfl, S.lt n (List.mem_of_getElem? hk), a, k, b⟩
    · cases e
  | _ => cases e
theorem DW.ros {l : List Dt} (q : DW h X μ v (.ros l)) : ∃ n vs, v = .loc n ∧ n < μ.nx ∧ seqOf μ n = some vs ∧ DRs h X μ vs l := by
  have key : ∀ {n : Nat} {o : Ob}, n < μ.nx → μ.ob n = some o → CD h X μ o (.ros l) → ∃ vs, seqOf μ n = some vs ∧ DRs h X μ vs l := fun {n o} _ a c => by
    cases c with
    | ros k r =>
      refine ⟨_, ?_, r⟩
      unfold seqOf
      rcases k with rfl | rfl <;> rw [a]
  rcases q with q | ⟨n, o, rfl, _, a, b, q⟩
  · cases q with
    | obj _ _ a b q =>
      obtain ⟨vs, x, y⟩ := key a b q
      exact ⟨_, vs, rfl, a, x, y⟩
  · obtain ⟨vs, x, y⟩ := key a b q
    exact ⟨n, vs, rfl, a, x, y⟩
theorem seqOf_l {n : Nat} (e : μ.ob n = some (.lst vs)) : seqOf μ n = some vs := by unfold seqOf; rw [e]
theorem allO_rel {γ : Type} {f : Val → Option γ} {g : Dt → Option γ} (hf : ∀ a b c, DR h X μ a b → g b = some c → f a = some c) : ∀ {as : List Val} {bs : List Dt} {cs : List γ}, DRs h X μ as bs → allO (bs.map g) = some cs → allO (as.map f) = some cs
  | _, _, cs, .nil, e => e
  | _, _, cs, .cons (v := a) (vs := as) (d := b) (ds := bs) x y, e => by
    rw [List.map_cons] at e ⊢
    cases hb : g b with
    | none => rw [hb, allO] at e; cases e
    | some c =>
      rw [hb, allO] at e
      split at e
      · cases e
      · rename_i l hl
        cases e
        rw [hf a b c x hb, allO, allO_rel hf y hl]
theorem scaP_ok {e : PyData} (q : DW h X μ v d) (hd : scaP d = some e) : scaD v = some e := by
  cases d with
  | non => rw [q.non]; exact hd
  | bl b => rw [q.bl]; exact hd
  | int i => rw [q.int]; exact hd
  | str x => rw [q.str]; exact hd
  | _ => cases hd
theorem toP_ok (S : Sm h X μ σ) : ∀ (k : Nat) {v : Val} {d : Dt} {e : PyData}, DW h X μ v d → toP k σ d = some e → toD k μ v = some e
  | 0, v, d, e, q, hd => scaP_ok q hd
  | k + 1, v, d, e, q, hd => by
    cases d with
    | non => rw [q.non]; exact hd
    | bl b => rw [q.bl]; exact hd
    | int i => rw [q.int]; exact hd
    | str x => rw [q.str]; exact hd
    | tup l =>
      obtain ⟨vs, rfl, r⟩ := q.tup
      unfold toP at hd
      obtain ⟨es, a, rfl⟩ := Option.map_eq_some_iff.mp hd
      unfold toD
      rw [allO_rel (fun a b c x y => toP_ok S k (.inl x) y) r a]
      rfl
    | lst l =>
      obtain ⟨n, vs, rfl, _, b, r⟩ := DW.lst S q (l := l) rfl
      unfold toP at hd
      obtain ⟨es, a, rfl⟩ := Option.map_eq_some_iff.mp hd
      unfold toD
      rw [seqOf_l b]
      simp only
      rw [allO_rel (fun a b c x y => toP_ok S k (.inl x) y) r a]
      rfl
    | dct l => unfold toP at hd; cases hd
    | sysv l => unfold toP at hd; cases hd
    | dtt l => unfold toP at hd; cases hd
    | sysw l => unfold toP at hd; cases hd
    | vw l p => unfold toP at hd; cases hd
    | ros l =>
      obtain ⟨n, vs, rfl, _, b, r⟩ := DW.ros q
      unfold toP at hd
      obtain ⟨es, a, rfl⟩ := Option.map_eq_some_iff.mp hd
      unfold toD
      rw [b]
      simp only
      rw [allO_rel (fun a b c x y => toP_ok S k (.inl x) y) r a]
      rfl
    | ref j =>
      unfold toP at hd
      split at hd
      · rename_i l hc
        obtain ⟨n, vs, rfl, _, b, r⟩ := DW.lst S q (l := l) (by dsimp only [lstD]; rw [hc])
        obtain ⟨es, a, rfl⟩ := Option.map_eq_some_iff.mp hd
        unfold toD
        rw [seqOf_l b]
        simp only
        rw [allO_rel (fun a b c x y => toP_ok S k (.inl x) y) r a]
        rfl
      · cases hd
theorem datP_ok (S : Sm h X μ σ) {e : PyData} (q : DW h X μ v d) (hd : datP σ d = some e) : datM μ v = some e := toP_ok S 8 q hd
theorem atI_map {α β : Type} {as : List α} {bs : List β} (hl : as.length = bs.length) {i : Int} {b : β} (hb : atI bs i = some b) : ∃ k : Nat, bs[k]? = some b ∧ atI as i = as[k]? := by
  unfold atI at hb ⊢
  rw [hl]
  cases e : ixN bs.length i with
  | none => rw [e] at hb; cases hb
  | some k => rw [e] at hb; exact ⟨k, hb, rfl⟩
theorem DRs.atI {i : Int} (r : DRs h X μ vs ds) (e : atI ds i = some d) : ∃ v, atI vs i = some v ∧ DR h X μ v d := by
  obtain ⟨k, a, b⟩ := atI_map r.len e
  obtain ⟨v, f, g⟩ := r.get a
  exact ⟨v, b.trans f, g⟩
theorem okF_new (S : Sm h X μ σ) {o : Ob} {Q : Dt → Sg → Prop} (c : CD h X μ o d) (hq : Q d σ) : OkF h X μ Q (.ok (.loc μ.nx) (μ.new o)) := by
  have E := Ext.new h [] μ o
  have hX : ∀ n ∈ μ.nx :: X, n ∈ X ∨ μ.nx ≤ n := fun n z => (List.mem_cons.mp z).elim (fun z => .inr (Nat.le_of_eq z.symm)) .inl
  refine ⟨μ.nx, o, _, h, d, σ, rfl, E, ⟨S.len, S.nd, fun n z => Nat.lt_succ_of_lt (S.lt n z), fun n z => ?_, fun k n c a b => ?_⟩, Nat.le_refl _, fun z => absurd (S.lt _ z) (Nat.lt_irrefl _), fun z => absurd (S.xl _ z) (Nat.lt_irrefl _), Mu.new_same _ _, (c.hid hX).ext E fun _ => none_in, hq⟩
  · rcases List.mem_cons.mp z with z | z
    · rw [z]; exact Nat.lt_succ_self _
    · exact Nat.lt_succ_of_lt (S.xl n z)
  · exact ((S.ob k n c a b).hid hX).ext E (fun _ => none_in) (Mu.new_ne _ _ (Nat.ne_of_lt (S.lt n (List.mem_of_getElem? a))))
end
/-! ### prims -/
def Ok1 (h : Hd) (X : List Nat) (μ : Mu) (σ : Sg) (d : Dt) (r : R Val) : Prop := ∃ v μ', r = .ok v μ' ∧ Ext h h [] μ μ' ∧ Sm h X μ' σ ∧ DR h X μ' v d
def P2 (fm : Val → Val → Mu → R Val) (fp : Dt → Dt → Sg → Option Dt) : Prop := ∀ (h : Hd) (X : List Nat) (μ : Mu) (σ : Sg) (x y : Val) (dx dy d : Dt), Sm h X μ σ → DW h X μ x dx → DW h X μ y dy → fp dx dy σ = some d → Ok1 h X μ σ d (fm x y μ)
def P1 (fm : Val → Mu → R Val) (fp : Dt → Sg → Option Dt) : Prop := ∀ (h : Hd) (X : List Nat) (μ : Mu) (σ : Sg) (x : Val) (dx d : Dt), Sm h X μ σ → DW h X μ x dx → fp dx σ = some d → Ok1 h X μ σ d (fm x μ)
def PN (fm : List Val → Mu → R Val) (fp : List Dt → Sg → Option Dt) : Prop := ∀ (h : Hd) (X : List Nat) (μ : Mu) (σ : Sg) (xs : List Val) (dxs : List Dt) (d : Dt), Sm h X μ σ → DWs h X μ xs dxs → fp dxs σ = some d → Ok1 h X μ σ d (fm xs μ)
section
variable {h : Hd} {X : List Nat} {μ : Mu} {v : Val} {d : Dt} {vs : List Val} {ds : List Dt} {σ : Sg}
theorem Ok1.id (S : Sm h X μ σ) (q : DR h X μ v d) : Ok1 h X μ σ d (.ok v μ) := ⟨v, μ, rfl, Ext.refl _ _ _, S, q⟩
theorem Ok1.new (S : Sm h X μ σ) {o : Ob} (c : CD h X μ o d) : Ok1 h X μ σ d (.ok (.loc μ.nx) (μ.new o)) := by
  have E := Ext.new h [] μ o
  exact ⟨_, _, rfl, E, S.new o, .obj (fun z => absurd (S.lt _ z) (Nat.lt_irrefl _)) (fun z => absurd (S.xl _ z) (Nat.lt_irrefl _)) (Nat.lt_succ_self _) (Mu.new_same _ _) (c.ext E fun _ => none_in)⟩
theorem DWs.one {x : Dt} (q : DWs h X μ vs [x]) : ∃ v, vs = [v] ∧ DW h X μ v x := by
  match vs, q with
  | [v], ⟨a, _⟩ => exact ⟨v, rfl, a⟩
  | [], q => exact q.elim
  | _ :: _ :: _, ⟨_, q⟩ => exact q.elim
theorem DWs.two {x y : Dt} (q : DWs h X μ vs [x, y]) : ∃ v w, vs = [v, w] ∧ DW h X μ v x ∧ DW h X μ w y := by
  match vs, q with
  | [v, w], ⟨a, b, _⟩ => exact ⟨v, w, rfl, a, b⟩
  | [], q => exact q.elim
  | [_], ⟨_, q⟩ => exact q.elim
  | _ :: _ :: _ :: _, ⟨_, _, q⟩ => exact q.elim
end
theorem p_add : P2 addM addD := by
  intro h X μ σ x y dx dy d S hx hy e
  unfold addD at e
  split at e
  · cases e; rw [hx.int, hy.int]; exact .id S (.int _)
  · split at e
    · rename_i c; cases e; rw [hx.str, hy.str]; unfold addM; simp only; rw [if_pos c]; exact .id S (.str _)
    · cases e
  · split at e
    · rename_i c
      cases e
      obtain ⟨vs, rfl, r1⟩ := hx.tup
      obtain ⟨ws, rfl, r2⟩ := hy.tup
      unfold addM
      simp only
      rw [if_pos ⟨fun z => c.1 (by subst z; cases r1; rfl), by rw [r1.len, r2.len]; exact c.2⟩]
      exact .id S (.tup (r1.app r2))
    · cases e
  · split at e
    · rename_i a b h1 h2
      split at e
      · rename_i c
        cases e
        obtain ⟨n, vs, rfl, _, o1, r1⟩ := hx.lst S h1
        obtain ⟨m, ws, rfl, _, o2, r2⟩ := hy.lst S h2
        unfold addM
        simp only [o1, o2]
        rw [if_pos (by rw [r1.len, r2.len]; exact c)]
        exact .new S (.lst (r1.app r2))
      · cases e
    · cases e
theorem p_cmp (f : Int → Int → Bool) : P2 (fun x y μ => cmpI f x y μ) (cmpD f) := by
  intro h X μ σ x y dx dy d S hx hy e
  unfold cmpD at e
  split at e
  · cases e; rw [hx.int, hy.int]; exact .id S (.bl _)
  · cases e
theorem p_le : P2 leM leD := p_cmp _
theorem non_rel {h : Hd} {X : List Nat} {μ : Mu} {v : Val} {d : Dt} (q : DW h X μ v d) : isNon v = nonD d := by
  cases d with
  | non => rw [q.non]; rfl
  | bl b => rw [q.bl]; rfl
  | int b => rw [q.int]; rfl
  | str b => rw [q.str]; rfl
  | tup l => obtain ⟨vs, rfl, _⟩ := q.tup; rfl
  | ref k => obtain ⟨n, rfl, _⟩ := q.ref; rfl
  | lst l =>
    rcases q with q | ⟨n, o, rfl, _⟩
    · cases q; rfl
    · rfl
  | dct l =>
    rcases q with q | ⟨n, o, rfl, _⟩
    · cases q; rfl
    · rfl
  | ros l =>
    obtain ⟨n, vs, rfl, _⟩ := DW.ros q
    rfl
  | sysv l =>
    rcases q with q | ⟨n, o, rfl, _⟩
    · cases q <;> rfl
    · rfl
  | sysw l =>
    rcases q with q | ⟨n, o, rfl, _⟩
    · cases q <;> rfl
    · rfl
  | vw l p =>
    rcases q with q | ⟨n, o, rfl, _⟩
    · cases q <;> rfl
    · rfl
  | dtt l =>
    rcases q with q | ⟨n, o, rfl, _⟩
    · cases q <;> rfl
    · rfl
theorem p_is : P2 isM' isD := by
  intro h X μ σ x y dx dy d S hx hy e
  unfold isD at e
  split at e
  · cases e; rw [hy.non, ← non_rel hx]; exact .id S (.bl _)
  · cases e
theorem p_eq : P2 eqM eqD := by
  intro h X μ σ x y dx dy d S hx hy e
  unfold eqD at e
  split at e
  · rename_i a b h1 h2
    cases e
    unfold eqM
    rw [datP_ok S hx h1, datP_ok S hy h2]
    exact .id S (.bl _)
  · cases e
theorem p_ne : P2 neM neD := by
  intro h X μ σ x y dx dy d S hx hy e
  unfold neD at e
  split at e
  · rename_i a b h1 h2
    cases e
    unfold neM
    rw [datP_ok S hx h1, datP_ok S hy h2]
    exact .id S (.bl _)
  · cases e
theorem p_get : P2 getM getD_ := by
  intro h X μ σ x y dx dy d S hx hy e
  unfold getD_ at e
  split at e
  · obtain ⟨vs, rfl, r⟩ := hx.tup
    obtain ⟨v, a, b⟩ := r.atI e
    rw [hy.int]
    unfold getM
    simp only [a]
    exact .id S b
  · obtain ⟨l, h1, h2⟩ := Option.bind_eq_some_iff.mp e
    obtain ⟨n, vs, rfl, _, o, r⟩ := hx.lst S h1
    obtain ⟨v, a, b⟩ := r.atI h2
    rw [hy.int]
    unfold getM
    simp only [seqOf_l o, a]
    exact .id S b
  · cases e
theorem p_len' : PN lenM lenD := by
  intro h X μ σ xs dxs d S hx e
  unfold lenD at e
  split at e
  · cases e
    obtain ⟨v, rfl, q⟩ := hx.one
    obtain ⟨vs, rfl, r⟩ := q.tup
    unfold lenM
    simp only [r.len]
    exact .id S (.int _)
  · cases e
    obtain ⟨v, rfl, q⟩ := hx.one
    obtain ⟨n, vs, rfl, _, o, r⟩ := DW.ros q
    unfold lenM
    simp only [o, r.len]
    exact .id S (.int _)
  · split at e
    · rename_i c
      cases e
      obtain ⟨v, rfl, q⟩ := hx.one
      rw [q.str]
      unfold lenM
      simp only
      rw [if_pos c]
      exact .id S (.int _)
    · cases e
  · obtain ⟨l, h1, rfl⟩ := Option.map_eq_some_iff.mp e
    obtain ⟨v, rfl, q⟩ := hx.one
    obtain ⟨n, vs, rfl, _, o, r⟩ := q.lst S h1
    unfold lenM
    simp only [seqOf_l o, r.len]
    exact .id S (.int _)
  · cases e
theorem p_tuple' : PN tupleM tupleD := by
  intro h X μ σ xs dxs d S hx e
  unfold tupleD at e
  split at e
  · cases e
    obtain ⟨v, rfl, q⟩ := hx.one
    obtain ⟨vs, rfl, r⟩ := q.tup
    exact .id S (.tup r)
  · obtain ⟨l, h1, rfl⟩ := Option.map_eq_some_iff.mp e
    obtain ⟨v, rfl, q⟩ := hx.one
    obtain ⟨n, vs, rfl, _, o, r⟩ := q.lst S h1
    unfold tupleM
    simp only [seqOf_l o]
    exact .id S (.tup r)
  · cases e
theorem p_min' : PN minM minD := by
  intro h X μ σ xs dxs d S hx e
  unfold minD at e
  split at e
  · cases e
    obtain ⟨v, w, rfl, a, b⟩ := hx.two
    rw [a.int, b.int]
    exact .id S (.int _)
  · cases e
theorem p_max' : PN maxM maxD := by
  intro h X μ σ xs dxs d S hx e
  unfold maxD at e
  split at e
  · cases e
    obtain ⟨v, w, rfl, a, b⟩ := hx.two
    rw [a.int, b.int]
    exact .id S (.int _)
  · cases e
theorem p_repr' : PN reprM reprD := by
  intro h X μ σ xs dxs d S hx e
  unfold reprD at e
  split at e
  · obtain ⟨v, rfl, q⟩ := hx.one
    split at e
    · rename_i y hy
      split at e
      · rename_i c
        cases e
        unfold reprM
        simp only [datP_ok S q hy]
        rw [if_pos c]
        exact .id S (.str _)
      · cases e
    · cases e
  · cases e
end Wn
/-! plain data: expressions, comprehensions -/
namespace Wn
open PySem PySem.Spec PyProof.Rows L2 LamX He
section
variable {m a b c : ME} {p a' b' c' : PlE} {ms as : MA} {ps as' : PlA} {t t2 : MT} {q q2 : PlT}
theorem Si.w (s : SiE m p) : SiW m p := fun h X O μ σ ρ r Q S E hq => (s h X O μ σ ρ r Q S E hq).mono fun h' μ' a b σ' x y => ⟨b, .inl x, y⟩
theorem SiF.e (s : SiF m p) : SiE m p := fun h X O μ σ ρ r Q S E hq => (s h X O μ σ ρ r Q S E hq).e
theorem SiA.w (s : SiA ms ps) : SiAW ms ps := fun h X O μ σ ρ r Q S E hq => (s h X O μ σ ρ r Q S E hq).mono fun h' μ' a b σ' x y => ⟨b, DRs.w x, y⟩
theorem okR_ret {α β : Type} {rel : DRel α β} {h : Hd} {X : List Nat} {μ : Mu} {σ : Sg} {Q : β → Sg → Prop} {a : α} {b : β} (S : Sm h X μ σ) (q : rel μ h X μ a b) (hq : Q b σ) : OkR rel h X μ Q (.ok a μ) := ⟨a, μ, h, b, σ, rfl, Ext.refl _ _ _, S, q, hq⟩
theorem Ok1.r {h : Hd} {X : List Nat} {μ : Mu} {σ : Sg} {d : Dt} {r : R Val} {Q : Dt → Sg → Prop} (o : Ok1 h X μ σ d r) (hq : Q d σ) : OkR rlE h X μ Q r := by
  obtain ⟨v, μ', e, E, S, q⟩ := o
  exact ⟨v, μ', h, d, σ, e, E, S, q, hq⟩
theorem si_int (i : Int) : SiE (mC (.int i)) (pC (.int i)) := fun h X O μ σ ρ r Q S E hq => okR_ret (rel := rlE) S (.int i) hq
theorem si_str (i : Str) : SiE (mC (.str i)) (pC (.str i)) := fun h X O μ σ ρ r Q S E hq => okR_ret (rel := rlE) S (.str i) hq
theorem si_bl (i : Bool) : SiE (mC (.bl i)) (pC (.bl i)) := fun h X O μ σ ρ r Q S E hq => okR_ret (rel := rlE) S (.bl i) hq
theorem si_non : SiE (mC .non) (pC .non) := fun h X O μ σ ρ r Q S E hq => okR_ret (rel := rlE) S .non hq
theorem si_var (i : Nat) : SiE (mV i) (pV i) := fun h X O μ σ ρ r Q S E hq => by
  unfold pV at hq
  split at hq
  · rename_i d e
    obtain ⟨v, a, b⟩ := E.im i d e
    unfold mV
    rw [a]
    exact okR_ret (rel := rlE) S b hq
  · exact hq.elim
theorem si_own (i : Nat) : SiW (mV i) (pO i) := fun h X O μ σ ρ r Q S E hq => by
  unfold pO at hq
  split at hq
  · rename_i d e
    obtain ⟨n, o, a, b, c, f, g, x, y⟩ := E.ow i d e
    unfold mV
    rw [a]
    exact okR_ret (rel := rlW) S (.inr ⟨n, o, rfl, c, g, x, y⟩) hq
  · exact hq.elim
theorem si_nil : SiA mNil pNil := fun h X O μ σ ρ r Q S E hq => okR_ret (rel := rlA) S .nil hq
theorem si_nilW : SiAW mNil pNil := fun h X O μ σ ρ r Q S E hq => okR_ret (rel := rlAW) S (show DWs h (O ++ X) μ [] [] from trivial) hq
theorem si_cons (sa : SiE a a') (sr : SiA as as') : SiA (mCons a as) (pCons a' as') := fun h X O μ σ ρ r Q S E hq => by
  refine (sa h X O μ σ ρ r _ S E hq).bind fun v μ1 h1 d σ1 e1 S1 q1 hq1 => ?_
  obtain ⟨vs, μ2, h2, ds, σ2, e, e2, S2, q2, hq2⟩ := sr h1 X O μ1 σ1 ρ r _ S1 (E.ext e1 fun _ => none_in) hq1
  rw [e]
  exact ⟨_, _, _, _, _, rfl, e2, S2, .cons (q1.ext e2 fun _ => none_in) q2, hq2⟩
theorem si_consW (sa : SiW a a') (sr : SiAW as as') : SiAW (mCons a as) (pCons a' as') := fun h X O μ σ ρ r Q S E hq => by
  refine (sa h X O μ σ ρ r _ S E hq).bind fun v μ1 h1 d σ1 e1 S1 q1 hq1 => ?_
  obtain ⟨vs, μ2, h2, ds, σ2, e, e2, S2, q2, hq2⟩ := sr h1 X O μ1 σ1 ρ r _ S1 (E.ext e1 fun _ => none_in) hq1
  rw [e]
  exact ⟨v :: vs, μ2, h2, d :: ds, σ2, rfl, e2, S2, (show DWs h2 (O ++ X) μ2 (v :: vs) (d :: ds) from ⟨DW.ext q1 e2, q2⟩), hq2⟩
theorem si_tup (sr : SiA as as') : SiE (mTup as) (pTup as') := fun h X O μ σ ρ r Q S E hq => by
  refine (sr h X O μ σ ρ r _ S E hq).bind fun v μ1 h1 d σ1 e1 S1 q1 hq1 => ?_
  have q1 : DRs h1 (O ++ X) μ1 v d := q1
  rw [if_pos (by rw [q1.len]; exact hq1.1)]
  exact ⟨_, _, _, _, _, rfl, Ext.refl _ _ _, S1, .tup q1, hq1.2⟩
theorem si_lstF (sr : SiA as as') : SiF (mLst as) (pLst as') := fun h X O μ σ ρ r Q S E hq => by
  refine OkR.bindF (sr h X O μ σ ρ r _ S E hq) fun v μ1 h1 d σ1 e1 S1 q1 hq1 => ?_
  have q1 : DRs h1 (O ++ X) μ1 v d := q1
  rw [if_pos (by rw [q1.len]; exact hq1.1)]
  exact okF_new S1 (.lst q1) hq1.2
theorem si_lst (sr : SiA as as') : SiE (mLst as) (pLst as') := (si_lstF sr).e
theorem si_op {f : Val → Val → Mu → R Val} {f' : Dt → Dt → Sg → Option Dt} (hf : P2 f f') (sa : SiW a a') (sb : SiW b b') : SiE (mOp f a b) (pOp f' a' b') := fun h X O μ σ ρ r Q S E hq => by
  refine (sa h X O μ σ ρ r _ S E hq).bind fun v μ1 h1 d σ1 e1 S1 q1 hq1 => ?_
  refine (sb h1 X O μ1 σ1 ρ r _ S1 (E.ext e1 fun _ => none_in) hq1).bind fun w μ2 h2 e σ2 e2 S2 q2 hq2 => ?_
  obtain ⟨y, hy, hq2⟩ := oK_of hq2
  exact (hf h2 _ μ2 σ2 v w d e y S2 (DW.ext q1 e2) q2 hy).r hq2
theorem si_un {f : Val → Mu → R Val} {f' : Dt → Sg → Option Dt} (hf : P1 f f') (sa : SiW a a') : SiE (mUn f a) (pUn f' a') := fun h X O μ σ ρ r Q S E hq => by
  refine (sa h X O μ σ ρ r _ S E hq).bind fun v μ1 h1 d σ1 e1 S1 q1 hq1 => ?_
  obtain ⟨y, hy, hq1⟩ := oK_of hq1
  exact (hf h1 _ μ1 σ1 v d y S1 q1 hy).r hq1
theorem si_fn {f : List Val → Mu → R Val} {f' : List Dt → Sg → Option Dt} (hf : PN f f') (sa : SiAW as as') : SiE (mFn f as) (pFn f' as') := fun h X O μ σ ρ r Q S E hq => by
  refine (sa h X O μ σ ρ r _ S E hq).bind fun v μ1 h1 d σ1 e1 S1 q1 hq1 => ?_
  obtain ⟨y, hy, hq1⟩ := oK_of hq1
  exact (hf h1 _ μ1 σ1 v d y S1 q1 hy).r hq1
theorem si_test (sa : SiE a a') : SiT (mTest a) (pTest a') := fun h X O μ σ ρ r Q S E hq => by
  refine (sa h X O μ σ ρ r _ S E hq).bind fun v μ1 h1 d σ1 e1 S1 q1 hq1 => ?_
  cases d with
  | bl k =>
    have : v = .bl k := DW.bl (.inl q1)
    subst this
    exact okR_ret (rel := rlT) S1 rfl hq1
  | _ => exact hq1.elim
theorem si_yes : SiT mYes pYes := fun h X O μ σ ρ r Q S E hq => okR_ret (rel := rlT) S rfl hq
theorem si_or (sa : SiT t q) (sb : SiT t2 q2) : SiT (mOr t t2) (pOr q q2) := fun h X O μ σ ρ r Q S E hq => by
  refine (sa h X O μ σ ρ r _ S E hq).bind fun v μ1 h1 d σ1 e1 S1 q1 hq1 => ?_
  have q1 : v = d := q1
  subst q1
  cases v
  · exact sb h1 X O μ1 σ1 ρ r _ S1 (E.ext e1 fun _ => none_in) hq1
  · exact okR_ret (rel := rlT) S1 rfl hq1
theorem si_not (sa : SiT t q) : SiT (mNot t) (pNot q) := fun h X O μ σ ρ r Q S E hq => by
  refine (sa h X O μ σ ρ r _ S E hq).bind fun v μ1 h1 d σ1 e1 S1 q1 hq1 => ?_
  have q1 : v = d := q1
  subst q1
  exact okR_ret (rel := rlT) S1 rfl hq1
theorem si_if (st : SiT t q) (sa : SiE a a') (sb : SiE b b') : SiE (mIf t a b) (pIf q a' b') := fun h X O μ σ ρ r Q S E hq => by
  refine (st h X O μ σ ρ r _ S E hq).bind fun v μ1 h1 d σ1 e1 S1 q1 hq1 => ?_
  have q1 : v = d := q1
  subst q1
  cases v
  · exact sb h1 X O μ1 σ1 ρ r _ S1 (E.ext e1 fun _ => none_in) hq1
  · exact sa h1 X O μ1 σ1 ρ r _ S1 (E.ext e1 fun _ => none_in) hq1
theorem tru_rel {h : Hd} {X : List Nat} {μ : Mu} {σ : Sg} {v : Val} {d : Dt} {k : Bool} (S : Sm h X μ σ) (x : DW h X μ v d) (e : truD σ d = some k) : truM v μ = some k := by
  cases d with
  | non => rw [x.non]; exact e
  | bl i => rw [x.bl]; exact e
  | int i => rw [x.int]; exact e
  | str i => rw [x.str]; exact e
  | tup l =>
    obtain ⟨vs, rfl, r⟩ := x.tup
    cases r <;> exact e
  | dct l => cases e
  | ros l => cases e
  | sysv l => cases e
  | sysw l => cases e
  | vw l p => cases e
  | dtt l => cases e
  | lst l =>
    obtain ⟨n, vs, rfl, _, o, r⟩ := x.lst S (l := l) rfl
    unfold truM
    simp only [seqOf_l o]
    cases r <;> exact e
  | ref j =>
    obtain ⟨l, h1, h2⟩ := Option.map_eq_some_iff.mp (show (lstD σ (.ref j)).map (fun l => !l.isEmpty) = some k from e)
    obtain ⟨n, vs, rfl, _, o, r⟩ := x.lst S h1
    unfold truM
    simp only [seqOf_l o]
    cases r <;> exact congrArg some h2
theorem si_orT (sa : SiE a a') (sb : SiE b b') : SiE (mOrT a b) (pOrT a' b') := fun h X O μ σ ρ r Q S E hq => by
  refine (sa h X O μ σ ρ r _ S E hq).bind fun v μ1 h1 d σ1 e1 S1 q1 hq1 => ?_
  split at hq1
  · rename_i hk
    simp only [tru_rel S1 (.inl q1) hk]
    exact okR_ret (rel := rlE) S1 q1 hq1
  · rename_i hk
    simp only [tru_rel S1 (.inl q1) hk]
    exact sb h1 X O μ1 σ1 ρ r _ S1 (E.ext e1 fun _ => none_in) hq1
  · exact hq1.elim
theorem si_andT (sa : SiE a a') (sb : SiE b b') : SiE (mAndT a b) (pAndT a' b') := fun h X O μ σ ρ r Q S E hq => by
  refine (sa h X O μ σ ρ r _ S E hq).bind fun v μ1 h1 d σ1 e1 S1 q1 hq1 => ?_
  split at hq1
  · rename_i hk
    simp only [tru_rel S1 (.inl q1) hk]
    exact sb h1 X O μ1 σ1 ρ r _ S1 (E.ext e1 fun _ => none_in) hq1
  · rename_i hk
    simp only [tru_rel S1 (.inl q1) hk]
    exact okR_ret (rel := rlE) S1 q1 hq1
  · exact hq1.elim
theorem si_chain {f g : Val → Val → Mu → R Val} {f' g' : Dt → Dt → Sg → Option Dt} (hf : P2 f f') (hg : P2 g g') (sa : SiE a a') (sb : SiE b b') (sc : SiE c c') : SiE (mChain f g a b c) (pChain f' g' a' b' c') := fun h X O μ σ ρ r Q S E hq => by
  refine (sa h X O μ σ ρ r _ S E hq).bind fun v μ1 h1 d σ1 e1 S1 q1 hq1 => ?_
  refine (sb h1 X O μ1 σ1 ρ r _ S1 (E.ext e1 fun _ => none_in) hq1).bind fun w μ2 h2 e σ2 e2 S2 q2 hq2 => ?_
  have q1' : DR h2 (O ++ X) μ2 v d := DR.ext e2 (fun _ => none_in) q1
  split at hq2
  · rename_i hy
    refine (Ok1.r (Q := fun d σ => d = .bl true ∧ σ = σ2) (hf h2 _ μ2 σ2 v w d e _ S2 (.inl q1') (.inl q2) hy) ⟨rfl, rfl⟩).bind fun z μ3 h3 d3 σ3 e3 S3 q3 hq3 => ?_
    obtain ⟨rfl, rfl⟩ := hq3
    have : z = .bl true := DW.bl (.inl q3)
    subst this
    refine (sc h3 X O μ3 σ3 ρ r _ S3 (E.ext (e1.tr (e2.tr e3)) fun _ => none_in) hq2).bind fun t μ4 h4 d4 σ4 e4 S4 q4 hq4 => ?_
    obtain ⟨d5, hd5, hq4⟩ := oK_of hq4
    exact (hg h4 _ μ4 σ4 w t e d4 d5 S4 (.inl (DR.ext e4 (fun _ => none_in) (DR.ext e3 (fun _ => none_in) q2))) (.inl q4) hd5).r hq4
  · rename_i hy
    refine (Ok1.r (Q := fun d σ => d = .bl false ∧ σ = σ2) (hf h2 _ μ2 σ2 v w d e _ S2 (.inl q1') (.inl q2) hy) ⟨rfl, rfl⟩).bind fun z μ3 h3 d3 σ3 e3 S3 q3 hq3 => ?_
    obtain ⟨rfl, rfl⟩ := hq3
    have : z = .bl false := DW.bl (.inl q3)
    subst this
    exact okR_ret (rel := rlE) S3 (.bl _) hq2
  · exact hq2.elim
end
/-! ### slices -/
abbrev PlO := Ev_ → Sg → (Option Int → Sg → Prop) → Prop
def rlO : DRel (Option Int) (Option Int) := fun _ _ _ _ a b => a = b
instance : RelUp rlO := ⟨fun _ z => z⟩
def pP0 : PlO := fun _ σ Q => Q none σ
def pP (a : PlE) : PlO := fun r σ Q => a r σ fun x σ => match x with
  | .int i => Q (some i) σ
  | _ => False
def slD (x : Dt) (lo hi : Option Int) (σ : Sg) : Option Dt := match x with
  | .tup l => if HT.sIx l.length 0 lo = 0 ∧ HT.sIx l.length l.length hi = l.length then none else some (.tup (cutG l lo hi))
  | x => (lstD σ x).map fun l => .lst (cutG l lo hi)
def pSl (e : PlE) (lo hi : PlO) : PlE := fun r σ Q => e r σ fun x σ => lo r σ fun l σ => hi r σ fun h σ => oK (slD x l h σ) fun d => Q d σ
theorem si_p0 : Si rlO mP0 pP0 := fun h X O μ σ ρ r Q S E hq => okR_ret (rel := rlO) S rfl hq
theorem si_p {a : ME} {a' : PlE} (sa : SiE a a') : Si rlO (mP a) (pP a') := fun h X O μ σ ρ r Q S E hq => by
  refine (sa h X O μ σ ρ r _ S E hq).bind fun v μ1 h1 d σ1 e1 S1 q1 hq1 => ?_
  cases d with
  | int k =>
    have : v = .int k := DW.int (.inl q1)
    subst this
    exact okR_ret (rel := rlO) S1 rfl hq1
  | _ => exact hq1.elim
theorem DRs.cut {h : Hd} {X : List Nat} {μ : Mu} {vs : List Val} {ds : List Dt} (q : DRs h X μ vs ds) (lo hi : Option Int) : DRs h X μ (cutG vs lo hi) (cutG ds lo hi) := by
  unfold cutG
  rw [q.len]
  exact (q.drop _).take _
theorem si_sl {a : ME} {a' : PlE} {lo hi : MO} {lo' hi' : PlO} (sa : SiW a a') (sl : Si rlO lo lo') (sh : Si rlO hi hi') : SiE (mSl a lo hi) (pSl a' lo' hi') := fun h X O μ σ ρ r Q S E hq => by
  refine (sa h X O μ σ ρ r _ S E hq).bind fun v μ1 h1 d σ1 e1 S1 q1 hq1 => ?_
  refine (sl h1 X O μ1 σ1 ρ r _ S1 (E.ext e1 fun _ => none_in) hq1).bind fun x μ2 h2 e σ2 e2 S2 q2 hq2 => ?_
  refine (sh h2 X O μ2 σ2 ρ r _ S2 ((E.ext e1 fun _ => none_in).ext e2 fun _ => none_in) hq2).bind fun y μ3 h3 f σ3 e3 S3 q3 hq3 => ?_
  have q2 : x = e := q2
  have q3 : y = f := q3
  subst q2 q3
  have q1 : DW h3 (O ++ X) μ3 v d := (DW.ext q1 e2).ext e3
  obtain ⟨z, hz, hq3⟩ := oK_of hq3
  · skip
    unfold slD at hz
    split at hz
    · rename_i l
      split at hz
      · cases hz
      · rename_i c
        cases hz
        obtain ⟨vs, rfl, r⟩ := q1.tup
        unfold slM
        simp only
        rw [if_neg (by rw [r.len]; exact c)]
        exact okR_ret (rel := rlE) S3 (.tup (r.cut _ _)) hq3
    · obtain ⟨l, h1, rfl⟩ := Option.map_eq_some_iff.mp hz
      obtain ⟨n, vs, rfl, _, o, r⟩ := q1.lst S3 h1
      unfold slM
      simp only [seqOf_l o]
      exact (Ok1.new S3 (.lst (r.cut _ _))).r hq3
/-! ### what is walked -/
abbrev PlI := Ev_ → Sg → (List Dt → Sg → Prop) → Prop
/-- what is walked stays, whatever the frame's own objects do -/
def rlI : DRel Wk (List Dt) := fun _ h X μ k ds => ∀ (h' : Hd) (μ' : Mu) (O X' : List Nat), Ext h h' O μ μ' → (∀ n ∈ O, n ∈ X) → (∀ n ∈ X', n ∈ X ∨ μ.nx ≤ n) → ∃ vs, k.items μ' = some vs ∧ DRs h' X' μ' vs ds
def rlIW : DRel Wk (List Dt) := fun _ h X μ k ds => ∀ (h' : Hd) (μ' : Mu) (X' : List Nat), Ext h h' [] μ μ' → (∀ n ∈ X', n ∈ X ∨ μ.nx ≤ n) → ∃ vs, k.items μ' = some vs ∧ DRs h' X' μ' vs ds
instance : RelUp rlI := ⟨fun _ z => z⟩
instance : RelUp rlIW := ⟨fun _ z => z⟩
abbrev SiI := Si rlI
abbrev SiIW := Si rlIW
def rngD (lo : Int) (n : Nat) : List Dt := (List.range n).map fun (k : Nat) => .int (lo + (k : Int))
def enmD (ds : List Dt) : List Dt := ds.zipIdx.map fun p => .tup [.int (p.2 : Nat), p.1]
def pIt (a : PlE) : PlI := fun r σ Q => a r σ fun d σ => match d with
  | .tup l => Q l σ
  | .lst l => Q l σ
  | _ => False
def pItW (a : PlE) : PlI := fun r σ Q => a r σ fun d σ => match d with
  | .tup l => Q l σ
  | .lst l => Q l σ
  | _ => False
def pRng1 (a : PlA) : PlI := fun r σ Q => a r σ fun xs σ => match xs with
  | [.int j] => (j ≤ 1000000 ∧ -1000000 ≤ j) ∧ Q (rngD 0 j.toNat) σ
  | _ => False
def pRng2 (a : PlA) : PlI := fun r σ Q => a r σ fun xs σ => match xs with
  | [.int i, .int j] => ((j ≤ 1000000 ∧ -1000000 ≤ j) ∧ i ≤ 1000000 ∧ -1000000 ≤ i) ∧ Q (rngD i (j - i).toNat) σ
  | _ => False
def pEnm (a : PlA) : PlI := fun r σ Q => a r σ fun xs σ => match xs with
  | [.lst l] => Q (enmD l) σ
  | _ => False
section
variable {m : ME} {p : PlE} {ms : MA} {ps : PlA} {mi : MI} {pi : PlI}
theorem SiI.w (s : SiI mi pi) : SiIW mi pi := fun h X O μ σ ρ r Q S E hq => (s h X O μ σ ρ r Q S E hq).mono fun h' μ' a b σ' x y => ⟨b, fun h2 μ2 X' e hX => x h2 μ2 [] X' e (fun _ => none_in) hX, y⟩
theorem si_it (s : SiE m p) : SiI (iSeq m) (pIt p) := fun h X O μ σ ρ r Q S E hq => by
  refine (s h X O μ σ ρ r _ S E hq).bind fun v μ1 h1 d σ1 e1 S1 q1 hq1 => ?_
  split at hq1
  · rename_i l
    obtain ⟨vs, rfl, r⟩ := DW.tup (.inl q1)
    exact okR_ret (rel := rlI) S1 (fun h' μ' O' X' e hO hX => ⟨vs, rfl, r.move e hO hX⟩) hq1
  · rename_i l
    have q1 : DR h1 (O ++ X) μ1 v (.lst l) := q1
    cases q1 with
    | obj a b c o q =>
      cases q with
      | lst q =>
        have it : ∀ {μ' : Mu} {n : Nat} {vs : List Val}, μ'.ob n = some (.lst vs) → (Wk.seq (.loc n)).items μ' = some vs := fun {μ' n vs} z => by
          show seqOf μ' n = _
          exact seqOf_l z
        simp only [it o]
        exact okR_ret (rel := rlI) S1 (fun h' μ' O' X' e hO hX => ⟨_, it ((e.ob _ c a fun z => b (hO _ z)).trans o), q.move e hO hX⟩) hq1
  · exact hq1.elim
theorem si_itW (s : SiW m p) : SiIW (iSeq m) (pItW p) := fun h X O μ σ ρ r Q S E hq => by
  refine (s h X O μ σ ρ r _ S E hq).bind fun v μ1 h1 d σ1 e1 S1 q1 hq1 => ?_
  have it : ∀ {μ' : Mu} {n : Nat} {vs : List Val}, μ'.ob n = some (.lst vs) → (Wk.seq (.loc n)).items μ' = some vs := fun {μ' n vs} z => by
    show seqOf μ' n = _
    exact seqOf_l z
  cases d with
  | tup l =>
    obtain ⟨vs, rfl, r⟩ := DW.tup q1
    exact okR_ret (rel := rlIW) S1 (fun h' μ' X' e hX => ⟨vs, rfl, r.move e (fun _ => none_in) hX⟩) hq1
  | lst l =>
    have q1 : DW h1 (O ++ X) μ1 v (.lst l) := q1
    obtain ⟨n, vs, rfl, c, o, r, nh⟩ : ∃ n vs, v = .loc n ∧ n < μ1.nx ∧ μ1.ob n = some (.lst vs) ∧ DRs h1 (O ++ X) μ1 vs l ∧ n ∉ h1 := by
      rcases q1 with q1 | ⟨n, o, rfl, a, c, o', q⟩
      · cases q1 with
        | obj a b c o q =>
          cases q with
          | lst q => exact ⟨_, _, rfl, c, o, q, a⟩
      · cases q with
        | lst q => exact ⟨_, _, rfl, c, o', q, a⟩
    simp only [it o]
    exact okR_ret (rel := rlIW) S1 (fun h' μ' X' e hX => ⟨_, it ((e.ob _ c nh none_in).trans o), r.move e (fun _ => none_in) hX⟩) hq1
  | _ => exact hq1.elim
theorem DRs.rng {h : Hd} {X : List Nat} {μ : Mu} (lo : Int) (n : Nat) : DRs h X μ (rngM lo n) (rngD lo n) := DRs.of _ fun x _ => .int _
theorem si_rng1 (s : SiA ms ps) : SiI (iRng1 ms) (pRng1 ps) := fun h X O μ σ ρ r Q S E hq => by
  refine (s h X O μ σ ρ r _ S E hq).bind fun v μ1 h1 d σ1 e1 S1 q1 hq1 => ?_
  split at hq1
  · rename_i j
    obtain ⟨w, rfl, z⟩ := DWs.one (DRs.w q1)
    rw [z.int]
    simp only
    rw [if_pos hq1.1]
    exact okR_ret (rel := rlI) S1 (fun h' μ' O' X' e hO hX => ⟨_, rfl, .rng _ _⟩) hq1.2
  · exact hq1.elim
theorem DRs.enm {h : Hd} {X : List Nat} {μ : Mu} : ∀ {vs : List Val} {ds : List Dt} (k : Nat), DRs h X μ vs ds → DRs h X μ ((vs.zipIdx k).map fun p => .tup [.int (p.2 : Nat), p.1]) ((ds.zipIdx k).map fun p => .tup [.int (p.2 : Nat), p.1])
  | _, _, _, .nil => .nil
  | _, _, k, .cons a b => .cons (.tup (.cons (.int _) (.cons a .nil))) (DRs.enm (k + 1) b)
theorem si_enm (s : SiA ms ps) : SiI (iEnm ms) (pEnm ps) := fun h X O μ σ ρ r Q S E hq => by
  refine (s h X O μ σ ρ r _ S E hq).bind fun v μ1 h1 d σ1 e1 S1 q1 hq1 => ?_
  split at hq1
  · rename_i l
    obtain ⟨w, rfl, qq⟩ : ∃ w, v = [w] ∧ DR h1 (O ++ X) μ1 w (.lst l) := by
      have q2 : DRs h1 (O ++ X) μ1 v [.lst l] := q1
      cases q2 with
      | cons a b =>
        cases b
        exact ⟨_, rfl, a⟩
    cases qq with
    | obj a b c o q =>
      cases q with
      | lst q =>
        have it : ∀ {μ' : Mu} {n : Nat} {vs : List Val}, μ'.ob n = some (.lst vs) → (Wk.enm n).items μ' = some (enmM vs) := fun {μ' n vs} z => by
          show (seqOf μ' n).map enmM = _
          rw [seqOf_l z]
          rfl
        simp only [seqOf_l o]
        exact okR_ret (rel := rlI) S1 (fun h' μ' O' X' e hO hX => ⟨_, it ((e.ob _ c a fun z => b (hO _ z)).trans o), (q.move e hO hX).enm 0⟩) hq1
  · exact hq1.elim
end
end Wn
/-! plain data: comprehensions, statements, loops, defs -/
namespace Wn
open PySem PySem.Spec PyProof.Rows L2 LamX He
abbrev Tgd := Dt → Ev_ → Option Ev_
/-- a target does at the law's level what it does here -/
def SiG (g : Val → Rho → Option Rho) (p : Tgd) : Prop := ∀ (h : Hd) (X O : List Nat) (μ : Mu) (ρ : Rho) (r r' : Ev_) (v : Val) (d : Dt), EnvD h X O μ ρ r → DR h (O ++ X) μ v d → p d r = some r' → ∃ ρ', g v ρ = some ρ' ∧ EnvD h X O μ ρ' r'
def gN (i : Nat) : Tgd := fun d r => some (r.set i (some (.im d)))
def unpD : List Nat → List Dt → Ev_ → Option Ev_
  | [], [], r => some r
  | i :: is, d :: ds, r => unpD is ds (r.set i (some (.im d)))
  | _, _, _ => none
def gT (is : List Nat) : Tgd := fun d r => match d with
  | .tup ds => unpD is ds r
  | _ => none
theorem si_gN (i : Nat) : SiG (tgN i) (gN i) := fun h X O μ ρ r r' v d E q e => by
  cases e
  exact ⟨_, rfl, E.set i q⟩
theorem unp_rel {h : Hd} {X O : List Nat} {μ : Mu} : ∀ (is : List Nat) {vs : List Val} {ds : List Dt} {ρ : Rho} {r r' : Ev_}, EnvD h X O μ ρ r → DRs h (O ++ X) μ vs ds → unpD is ds r = some r' → ∃ ρ', unp is vs ρ = some ρ' ∧ EnvD h X O μ ρ' r'
  | [], _, _, _, _, _, E, .nil, e => by cases e; exact ⟨_, rfl, E⟩
  | [], _, _, _, _, _, E, .cons _ _, e => by cases e
  | i :: is, _, _, _, _, _, E, .nil, e => by cases e
  | i :: is, _, _, _, _, _, E, .cons a b, e => unp_rel is (E.set i a) b e
theorem si_gT (is : List Nat) : SiG (tgT is) (gT is) := fun h X O μ ρ r r' v d E q e => by
  unfold gT at e
  split at e
  · obtain ⟨vs, rfl, b⟩ := DW.tup (.inl q)
    exact unp_rel is E b e
  · cases e
def wipeE (r : Ev_) : List Nat → Ev_
  | [] => r
  | v :: vs => (wipeE r vs).set v none
theorem EnvD.wipe {h : Hd} {X O : List Nat} {μ : Mu} {ρ : Rho} {r : Ev_} (E : EnvD h X O μ ρ r) : ∀ vs : List Nat, EnvD h X O μ (wipeV ρ vs) (wipeE r vs)
  | [] => E
  | v :: vs => by
    have E := EnvD.wipe E vs
    show EnvD h X O μ ((wipeV ρ vs).set v none) ((wipeE r vs).set v none)
    have sp : ∀ {j : Nat} {z : Lc}, ((wipeE r vs).set v none)[j]? = some (some z) → j ≠ v ∧ (wipeE r vs)[j]? = some (some z) := fun {j z} y => by
      rw [List.getElem?_set] at y
      split at y
      · split at y <;> cases y
      · rename_i c
        exact ⟨fun y => c y.symm, y⟩
    refine ⟨by rw [List.length_set, List.length_set]; exact E.len, fun j d' z => ?_, fun j d' z => ?_, fun j k x y m jk z1 z2 z3 => ?_⟩
    · obtain ⟨c, z⟩ := sp z
      rw [List.getElem?_set, if_neg (fun y => c y.symm)]
      exact E.im j d' z
    · obtain ⟨c, z⟩ := sp z
      rw [List.getElem?_set, if_neg (fun y => c y.symm)]
      exact E.ow j d' z
    · obtain ⟨c1, z1⟩ := sp z1
      obtain ⟨c2, z2⟩ := sp z2
      rw [List.getElem?_set, if_neg (fun y => c1 y.symm)] at z3
      rw [List.getElem?_set, if_neg (fun y => c2 y.symm)]
      exact E.ne j k x y m jk z1 z2 z3
/-! ### comprehensions -/
def lcP (g : Tgd) (c : PlT) (elt : PlE) (r : Ev_) : List Dt → List Dt → Sg → (List Dt → Sg → Prop) → Prop
  | [], acc, σ, Q => Q acc σ
  | d :: ds, acc, σ, Q => match g d r with
    | none => False
    | some r1 => c r1 σ fun k σ => if k = true then elt r1 σ fun y σ => acc.length ≤ 1000000 ∧ lcP g c elt r ds (acc ++ [y]) σ Q else lcP g c elt r ds acc σ Q
def pLc (it : PlI) (own : List Nat) (g : Tgd) (c : PlT) (elt : PlE) : PlE := fun r σ Q => it r σ fun ds σ => lcP g c elt (wipeE r own) ds [] σ fun acc σ => Q (.lst acc) σ
theorem lc_run {get : Mu → Option (List Val)} {g : Val → Rho → Option Rho} {g' : Tgd} {c : MT} {c' : PlT} {elt : ME} {elt' : PlE} (hg : SiG g g') (hc : SiT c c') (he : SiE elt elt') {D : Nat} {ρ : Rho} {r : Ev_} {X O : List Nat} {h0 : Hd} {μ0 : Mu} {ds0 : List Dt} (hD : μ0.nx = D)
    (hgt : ∀ (h' : Hd) (μ' : Mu), Ext h0 h' [] μ0 μ' → ∃ vs, get μ' = some vs ∧ DRs h' (O ++ D :: X) μ' vs ds0) :
    ∀ (ds : List Dt) (i f : Nat) (h : Hd) (μ : Mu) (σ : Sg) (accV : List Val) (acc : List Dt) (Q : List Dt → Sg → Prop), ds0.drop i = ds → f = ds.length + 1 → Ext h0 h [] μ0 μ → Sm h (O ++ D :: X) μ σ → EnvD h (D :: X) O μ ρ r → D ∉ h → D < μ.nx → μ.ob D = some (.lst accV) → DRs h (O ++ D :: X) μ accV acc → lcP g' c' elt' r ds acc σ Q →
    ∃ μ' h' acc' accV' σ', lcM get g c elt D ρ f i μ = .ok () μ' ∧ Ext h0 h' [] μ0 μ' ∧ Sm h' (O ++ D :: X) μ' σ' ∧ D ∉ h' ∧ D < μ'.nx ∧ μ'.ob D = some (.lst accV') ∧ DRs h' (O ++ D :: X) μ' accV' acc' ∧ Q acc' σ'
  | [], i, _, h, μ, σ, accV, acc, Q, hds, rfl, e, S, E, nD, lD, oD, q, hq => by
    obtain ⟨vs, x1, x2⟩ := hgt h μ e
    have : vs[i]? = none := by
      rw [List.getElem?_eq_none_iff, x2.len]
      exact List.drop_eq_nil_iff.mp hds
    refine ⟨μ, h, acc, accV, σ, ?_, e, S, nD, lD, oD, q, hq⟩
    show lcM get g c elt D ρ (0 + 1) i μ = _
    rw [lcM, x1]
    simp only [this]
  | d :: ds, i, _, h, μ, σ, accV, acc, Q, hds, rfl, e, S, E, nD, lD, oD, q, hq => by
    obtain ⟨vs, x1, x2⟩ := hgt h μ e
    have hd : ds0[i]? = some d := by
      have := congrArg (·[0]?) hds
      simpa [List.getElem?_drop] using this
    have hds' : ds0.drop (i + 1) = ds := by
      have := congrArg (List.drop 1) hds
      rw [List.drop_drop] at this
      exact this
    obtain ⟨v, y1, y2⟩ := x2.get hd
    unfold lcP at hq
    split at hq
    · exact hq.elim
    · rename_i r1 hr1
      obtain ⟨ρ1, z1, z2⟩ := hg h (D :: X) O μ ρ r r1 v d E y2 hr1
      obtain ⟨k, μ1, h1, k', σ1, a1, a2, a3, a4, a5⟩ := hc h (D :: X) O μ σ ρ1 r1 _ S z2 hq
      have a4 : k = k' := a4
      subst a4
      have E1 := E.ext a2 fun _ => none_in
      have oD1 := (a2.ob D lD nD none_in).trans oD
      have lD1 := Nat.lt_of_lt_of_le lD a2.le
      have nD1 := a2.not lD nD
      show ∃ μ' h' acc' accV' σ', lcM get g c elt D ρ (ds.length + 1 + 1) i μ = .ok () μ' ∧ _
      rw [lcM, x1]
      simp only [y1, z1, a1, R.cut, R.bind_ok]
      cases k with
      | false =>
        rw [if_neg (by decide)] at a5 ⊢
        exact lc_run hg hc he hD hgt ds (i + 1) _ h1 μ1 σ1 accV acc Q hds' rfl (e.tr a2) a3 E1 nD1 lD1 oD1 (q.ext a2 fun _ => none_in) a5
      | true =>
        rw [if_pos rfl] at a5 ⊢
        obtain ⟨w, μ2, h2, y, σ2, b1, b2, b3, b4, b5, b6⟩ := he h1 (D :: X) O μ1 σ1 ρ1 r1 _ a3 (z2.ext a2 fun _ => none_in) a5
        have oD2 := (b2.ob D lD1 nD1 none_in).trans oD1
        have lD2 := Nat.lt_of_lt_of_le lD1 b2.le
        have nD2 := b2.not lD1 nD1
        have q2 := (q.ext a2 fun _ => none_in).ext b2 fun _ => none_in
        rw [b1]
        simp only [R.bind_ok, oD2]
        rw [if_pos (by rw [q2.len]; exact b5)]
        have eP : Ext h2 h2 [D] μ2 (μ2.put D (.lst (accV ++ [w]))) := ⟨Nat.le_refl _, ⟨[], (List.append_nil _).symm, fun _ z => nomatch z⟩, fun m _ _ z => Mu.put_ne _ _ fun y => z (List.mem_singleton.mpr y), fun m _ _ z => Mu.put_vrN _ _ fun y => z (List.mem_singleton.mpr y)⟩
        have hz : ∀ m ∈ [D], m ∈ D :: X := fun m z => List.mem_singleton.mp z ▸ List.mem_cons_self
        have hz' : ∀ m ∈ [D], m ∈ O ++ D :: X := fun m z => List.mem_append_right _ (hz m z)
        refine lc_run hg hc he hD hgt ds (i + 1) _ h2 (μ2.put D (.lst (accV ++ [w]))) σ2 (accV ++ [w]) (acc ++ [y]) Q hds' rfl ?_ ?_ ?_ nD2 lD2 (Mu.put_same _ _ _) ?_ b6
        · exact ((e.tr a2).tr b2).trans eP fun m z => .inr (by cases List.mem_singleton.mp z; omega)
        · exact b3.keep eP hz' fun m z => Mu.put_ne _ _ fun y => nD2 (y ▸ z)
        · exact (E1.ext b2 fun _ => none_in).ext eP hz
        · exact (q2.app (.cons b4 .nil)).ext eP hz'
theorem si_lcF {it : MI} {it' : PlI} {own : List Nat} {g : Val → Rho → Option Rho} {g' : Tgd} {c : MT} {c' : PlT} {elt : ME} {elt' : PlE} (hi : SiIW it it') (hg : SiG g g') (hc : SiT c c') (he : SiE elt elt') : SiF (mLc it own g c elt) (pLc it' own g' c' elt') := fun h X O μ σ ρ r Q S E hq => by
  refine OkR.bindF (hi h X O μ σ ρ r _ S E hq) fun k μ1 h1 ds σ1 e1 S1 q1 hq1 => ?_
  have q1 : rlIW μ h1 (O ++ X) μ1 k ds := q1
  have E1 := E.ext e1 fun _ => none_in
  obtain ⟨vs, i1, i2⟩ := q1 h1 μ1 (O ++ X) (Ext.refl _ _ _) fun n z => .inl z
  simp only [i1]
  have nw := Ext.new h1 [] μ1 (.lst [])
  have hX : ∀ n ∈ O ++ μ1.nx :: X, n ∈ O ++ X ∨ μ1.nx ≤ n := fun n z => by
    rcases List.mem_append.mp z with z | z
    · exact .inl (List.mem_append_left _ z)
    · rcases List.mem_cons.mp z with z | z
      · exact .inr (Nat.le_of_eq z.symm)
      · exact .inl (List.mem_append_right _ z)
  have hX2 : ∀ n ∈ μ1.nx :: X, n ∈ X ∨ μ1.nx ≤ n := fun n z => (List.mem_cons.mp z).elim (fun z => .inr (Nat.le_of_eq z.symm)) .inl
  have nh : μ1.nx ∉ h1 := fun z => absurd (S1.lt _ z) (Nat.lt_irrefl _)
  have S2 : Sm h1 (O ++ μ1.nx :: X) (μ1.new (.lst [])) σ1 := by
    have z := S1.new (.lst [])
    refine ⟨z.len, z.nd, z.lt, fun n y => ?_, fun k n c a b => ?_⟩
    · rcases hX n y with y | y
      · exact z.xl n y
      · rcases List.mem_append.mp ‹n ∈ O ++ μ1.nx :: X› with w | w
        · exact z.xl n (List.mem_append_left _ w)
        · rcases List.mem_cons.mp w with w | w
          · rw [w]; exact Nat.lt_succ_self _
          · exact z.xl n (List.mem_append_right _ w)
    · exact ((S1.ob k n c a b).hid hX).ext nw (fun _ => none_in) (Mu.new_ne _ _ (Nat.ne_of_lt (S1.lt n (List.mem_of_getElem? a))))
  obtain ⟨μ', h', acc', accV', σ', a1, a2, a3, a4, a5, a6, a7, a8⟩ := lc_run (get := k.items) (D := μ1.nx) (ρ := wipeV ρ own) (r := wipeE r own) (X := X) (O := O) (h0 := h1) (μ0 := μ1) (ds0 := ds) hg hc he rfl
    (fun h' μ' e => q1 h' μ' (O ++ μ1.nx :: X) e hX) ds 0 (vs.length + 1) h1 (μ1.new (.lst [])) σ1 [] [] _ rfl (by rw [i2.len]) nw S2 (((E1.hid hX2).wipe own).ext nw fun _ => none_in) nh (Nat.lt_succ_self _) (Mu.new_same _ _) .nil hq1
  rw [a1, R.bind_ok]
  have hm : ∀ m ∈ μ1.nx :: (O ++ X), m ∈ O ++ μ1.nx :: X := fun m z => by
    rcases List.mem_cons.mp z with z | z
    · rw [z]; exact List.mem_append_right _ List.mem_cons_self
    · rcases List.mem_append.mp z with z | z
      · exact List.mem_append_left _ z
      · exact List.mem_append_right _ (List.mem_cons_of_mem _ z)
  exact ⟨μ1.nx, _, μ', h', .lst acc', σ', rfl, a2, a3.weak hm, Nat.le_refl _, a4, fun z => absurd (S1.xl _ z) (Nat.lt_irrefl _), a6, .lst (a7.weak hm), a8⟩
theorem si_lc {it : MI} {it' : PlI} {own : List Nat} {g : Val → Rho → Option Rho} {g' : Tgd} {c : MT} {c' : PlT} {elt : ME} {elt' : PlE} (hi : SiIW it it') (hg : SiG g g') (hc : SiT c c') (he : SiE elt elt') : SiE (mLc it own g c elt) (pLc it' own g' c' elt') := (si_lcF hi hg hc he).e
/-! ### statements -/
structure Kn where
  nx : Ev_ → Sg → Prop
  bk : Ev_ → Sg → Prop
  ct : Ev_ → Sg → Prop
  rt : Dt → Sg → Prop
abbrev PlS := Ev_ → Sg → Kn → Prop
def FlR (k : Kn) (h : Hd) (X O : List Nat) (μ : Mu) (σ : Sg) : Fl → Prop
  | .nx ρ => ∃ r, EnvD h X O μ ρ r ∧ k.nx r σ
  | .bk ρ => ∃ r, EnvD h X O μ ρ r ∧ k.bk r σ
  | .ct ρ => ∃ r, EnvD h X O μ ρ r ∧ k.ct r σ
  | .rt v => ∃ d, DR h X μ v d ∧ k.rt d σ
def OkS (h : Hd) (X O : List Nat) (μ : Mu) (k : Kn) (r : R Fl) : Prop :=
  ∃ f μ' h' O' σ', r = .ok f μ' ∧ Ext h h' O μ μ' ∧ (∀ n ∈ O', n ∈ O ∨ μ.nx ≤ n) ∧ Sm h' (O' ++ X) μ' σ' ∧ FlR k h' X O' μ' σ' f
def SiS (m : MS) (p : PlS) : Prop := ∀ (h : Hd) (X O : List Nat) (μ : Mu) (σ : Sg) (ρ : Rho) (r : Ev_) (k : Kn), Sm h (O ++ X) μ σ → EnvD h X O μ ρ r → p r σ k → OkS h X O μ k (m ρ μ)
def qNil : PlS := fun r σ k => k.nx r σ
def qSeq (a b : PlS) : PlS := fun r σ k => a r σ { k with nx := fun r σ => b r σ k }
def qSet (i : Nat) (a : PlE) : PlS := fun r σ k => a r σ fun d σ => k.nx (r.set i (some (.im d))) σ
/-- a variable gets a new list of its own -/
def qOwn (i : Nat) (a : PlE) : PlS := fun r σ k => a r σ fun d σ => k.nx (r.set i (some (.ow d))) σ
def qExpr (a : PlE) : PlS := fun r σ k => a r σ fun _ σ => k.nx r σ
def qRet (a : PlE) : PlS := fun r σ k => a r σ k.rt
def qRetO (i : Nat) : PlS := fun r σ k => match r[i]? with
  | some (some (.ow d)) => k.rt d σ
  | _ => False
def qRetN : PlS := fun _ σ k => k.rt .non σ
def qIf (c : PlT) (a b : PlS) : PlS := fun r σ k => c r σ fun t σ => if t = true then a r σ k else b r σ k
def qBrk : PlS := fun r σ k => k.bk r σ
def qCnt : PlS := fun r σ k => k.ct r σ
def qPar (i j : Nat) (a : PlA) : PlS := fun r σ k => a r σ fun ds σ => match ds with
  | [x, y] => k.nx ((r.set i (some (.im x))).set j (some (.im y))) σ
  | _ => False
def qPar3 (i j l : Nat) (a : PlA) : PlS := fun r σ k => a r σ fun ds σ => match ds with
  | [x, y, z] => k.nx (((r.set i (some (.im x))).set j (some (.im y))).set l (some (.im z))) σ
  | _ => False
def qAsg (g : Tgd) (a : PlE) : PlS := fun r σ k => a r σ fun d σ => match g d r with
  | some r' => k.nx r' σ
  | none => False
def qUnp (is : List Nat) (a : PlE) : PlS := fun r σ k => a r σ fun d σ => match d with
  | .lst l => match unpD is l r with
    | some r' => k.nx r' σ
    | none => False
  | _ => False
/-- a variable's own list is plain data from here on -/
def qRel (i : Nat) (a : PlS) : PlS := fun r σ k => match r[i]? with
  | some (some (.ow d)) => a (r.set i (some (.im d))) σ k
  | _ => False
def qApp (i : Nat) (a : PlE) : PlS := fun r σ k => match r[i]? with
  | some (some (.ow (.lst l))) => a r σ fun d σ => l.length ≤ 1000000 ∧ k.nx (r.set i (some (.ow (.lst (l ++ [d]))))) σ
  | _ => False
def forP (g : Tgd) (body : PlS) (k : Kn) : List Dt → Ev_ → Sg → Prop
  | [], r, σ => k.nx r σ
  | d :: ds, r, σ => match g d r with
    | none => False
    | some r1 => body r1 σ ⟨forP g body k ds, k.nx, forP g body k ds, k.rt⟩
def qFor (it : PlI) (g : Tgd) (body : PlS) : PlS := fun r σ k => it r σ fun ds σ => forP g body k ds r σ
section
variable {h : Hd} {X O : List Nat} {μ : Mu} {σ : Sg} {ρ : Rho} {r : Ev_} {k : Kn}
theorem OkS.of (S : Sm h (O ++ X) μ σ) {f : Fl} (q : FlR k h X O μ σ f) : OkS h X O μ k (.ok f μ) := ⟨f, μ, h, O, σ, rfl, Ext.refl _ _ _, fun n z => .inl z, S, q⟩
theorem OkS.expr {α β : Type} {rel : DRel α β} {Q : β → Sg → Prop} {x : R α} {f : α → Mu → R Fl} (q : OkR rel h (O ++ X) μ Q x) (hf : ∀ a μ' h' b σ', Ext h h' [] μ μ' → Sm h' (O ++ X) μ' σ' → rel μ h' (O ++ X) μ' a b → Q b σ' → OkS h' X O μ' k (f a μ')) : OkS h X O μ k (x.bind f) := by
  obtain ⟨a, μ1, h1, b, σ1, rfl, e1, S1, q1, hq⟩ := q
  obtain ⟨g, μ2, h2, O2, σ2, y1, y2, y3, y4, y5⟩ := hf a μ1 h1 b σ1 e1 S1 q1 hq
  exact ⟨g, μ2, h2, O2, σ2, y1, (e1.mono fun _ => none_in).trans y2 fun n z => .inl z, fun n z => (y3 n z).imp id fun w => Nat.le_trans e1.le w, y4, y5⟩
theorem OkS.then {x : R Fl} {f : Rho → Mu → R Fl} {k1 : Kn} (q : OkS h X O μ k1 x) (hb : ∀ r σ, k1.bk r σ → k.bk r σ) (hc : ∀ r σ, k1.ct r σ → k.ct r σ) (hr : ∀ d σ, k1.rt d σ → k.rt d σ)
    (hn : ∀ ρ' r' μ' h' O' σ', Ext h h' O μ μ' → (∀ n ∈ O', n ∈ O ∨ μ.nx ≤ n) → Sm h' (O' ++ X) μ' σ' → EnvD h' X O' μ' ρ' r' → k1.nx r' σ' → OkS h' X O' μ' k (f ρ' μ')) : OkS h X O μ k (sThen x f) := by
  obtain ⟨g, μ1, h1, O1, σ1, rfl, e1, o1, S1, q1⟩ := q
  cases g with
  | nx ρ' =>
    obtain ⟨r', E', hk⟩ := q1
    obtain ⟨g, μ2, h2, O2, σ2, y1, y2, y3, y4, y5⟩ := hn ρ' r' μ1 h1 O1 σ1 e1 o1 S1 E' hk
    exact ⟨g, μ2, h2, O2, σ2, y1, e1.trans y2 o1, fun n z => (y3 n z).elim (o1 n) fun w => .inr (Nat.le_trans e1.le w), y4, y5⟩
  | bk ρ' =>
    obtain ⟨r', E', hk⟩ := q1
    exact ⟨_, μ1, h1, O1, σ1, rfl, e1, o1, S1, r', E', hb _ _ hk⟩
  | ct ρ' =>
    obtain ⟨r', E', hk⟩ := q1
    exact ⟨_, μ1, h1, O1, σ1, rfl, e1, o1, S1, r', E', hc _ _ hk⟩
  | rt v =>
    obtain ⟨d, a, b⟩ := q1
    exact ⟨_, μ1, h1, O1, σ1, rfl, e1, o1, S1, d, a, hr _ _ b⟩
end
section
variable {a b : MS} {a' b' : PlS} {m : ME} {p : PlE} {t : MT} {q : PlT} {ms : MA} {ps : PlA}
theorem si_sNil : SiS sNil qNil := fun h X O μ σ ρ r k S E hq => .of S ⟨r, E, hq⟩
theorem si_seq (sa : SiS a a') (sb : SiS b b') : SiS (sSeq a b) (qSeq a' b') := fun h X O μ σ ρ r k S E hq =>
  (sa h X O μ σ ρ r _ S E hq).then (fun _ _ z => z) (fun _ _ z => z) (fun _ _ z => z) fun ρ' r' μ' h' O' σ' _ _ S' E' hk => sb h' X O' μ' σ' ρ' r' k S' E' hk
theorem si_set (i : Nat) (s : SiE m p) : SiS (sSet i m) (qSet i p) := fun h X O μ σ ρ r k S E hq =>
  OkS.expr (s h X O μ σ ρ r _ S E hq) fun v μ1 h1 d σ1 e1 S1 q1 hq1 => .of S1 ⟨_, (E.ext e1 fun _ => none_in).set i q1, hq1⟩
end
section
variable {a b : MS} {a' b' : PlS} {m : ME} {p : PlE} {t : MT} {q : PlT} {ms : MA} {ps : PlA}
theorem si_setO (i : Nat) (s : SiF m p) : SiS (sSet i m) (qOwn i p) := fun h X O μ σ ρ r k S E hq => by
  obtain ⟨n, o, μ1, h1, d, σ1, e, e1, S1, a, b, c, f, g, hq1⟩ := s h X O μ σ ρ r _ S E hq
  unfold sSet
  rw [e, R.bind_ok]
  exact ⟨_, μ1, h1, n :: O, σ1, rfl, e1.mono fun _ => none_in, fun m z => (List.mem_cons.mp z).elim (fun z => .inr (z ▸ a)) .inl, S1, _, E.own e1 i a b (fun z => c (List.mem_append_right _ z)) (S1.xl n List.mem_cons_self) f g, hq1⟩
theorem si_ret (s : SiE m p) : SiS (sRet m) (qRet p) := fun h X O μ σ ρ r k S E hq =>
  OkS.expr (s h X O μ σ ρ r _ S E hq) fun v μ1 h1 d σ1 e1 S1 q1 hq1 => .of S1 ⟨d, DR.weak (fun n z => List.mem_append_right _ z) q1, hq1⟩
theorem si_retO (i : Nat) : SiS (sRet (mV i)) (qRetO i) := fun h X O μ σ ρ r k S E hq => by
  unfold qRetO at hq
  split at hq
  · rename_i d e
    obtain ⟨n, o, a, b, c, f, g, x, y⟩ := E.ow i d e
    unfold sRet mV
    rw [a]
    simp only [R.bind_ok]
    exact .of S ⟨d, .obj c f g x (CD.weak' (fun n z => List.mem_append_right _ z) y), hq⟩
  · exact hq.elim
theorem si_ifS (st : SiT t q) (sa : SiS a a') (sb : SiS b b') : SiS (sIf t a b) (qIf q a' b') := fun h X O μ σ ρ r k S E hq => by
  refine OkS.expr (st h X O μ σ ρ r _ S E hq) fun v μ1 h1 d σ1 e1 S1 q1 hq1 => ?_
  have q1 : v = d := q1
  subst q1
  cases v
  · exact sb h1 X O μ1 σ1 ρ r k S1 (E.ext e1 fun _ => none_in) hq1
  · exact sa h1 X O μ1 σ1 ρ r k S1 (E.ext e1 fun _ => none_in) hq1
theorem si_par (i j : Nat) (s : SiA ms ps) : SiS (sPar i j ms) (qPar i j ps) := fun h X O μ σ ρ r k S E hq => by
  refine OkS.expr (s h X O μ σ ρ r _ S E hq) fun v μ1 h1 d σ1 e1 S1 q1 hq1 => ?_
  split at hq1
  · rename_i x y
    have q1 : DRs h1 (O ++ X) μ1 v [x, y] := q1
    match v, q1 with
    | _, .cons a (.cons b .nil) => exact .of S1 ⟨_, ((E.ext e1 fun _ => none_in).set i a).set j b, hq1⟩
  · exact hq1.elim
theorem si_unp (is : List Nat) (s : SiE m p) : SiS (sUnp is m) (qUnp is p) := fun h X O μ σ ρ r k S E hq => by
  refine OkS.expr (s h X O μ σ ρ r _ S E hq) fun v μ1 h1 d σ1 e1 S1 q1 hq1 => ?_
  split at hq1
  · rename_i l
    split at hq1
    · rename_i r' hr
      obtain ⟨n, vs, rfl, _, o, x⟩ := DW.lst S1 (.inl q1) (l := l) rfl
      obtain ⟨ρ', y, z⟩ := unp_rel is (E.ext e1 fun _ => none_in) x hr
      simp only [seqOf_l o, y]
      exact .of S1 ⟨_, z, hq1⟩
    · exact hq1.elim
  · exact hq1.elim
theorem si_app (i : Nat) (s : SiE m p) : SiS (sExpr (mBm appM (mV i) (mCons m mNil))) (qApp i p) := fun h X O μ σ ρ r k S E hq => by
  unfold qApp at hq
  split at hq
  · rename_i l e
    obtain ⟨n, o, a, b, c, f, g, x, y⟩ := E.ow i _ e
    cases y with
    | lst y =>
      rename_i vs
      have hv : mV i ρ μ = .ok (.loc n) μ := by unfold mV; rw [a]
      have hl : lstOf (.loc n) μ = some (n, vs) := by unfold lstOf; simp only [x]
      unfold sExpr mBm
      rw [hv, R.bind_ok]
      simp only [hl]
      unfold mCons mNil
      obtain ⟨w, μ1, h1, d, σ1, e0, e1, S1, q1, hq1⟩ := s h X O μ σ ρ r _ S E hq
      have x1 := (e1.ob n g c none_in).trans x
      have hl1 : lstOf (.loc n) μ1 = some (n, vs) := by unfold lstOf; simp only [x1]
      have y1 := y.ext e1 fun _ => none_in
      rw [e0]
      simp only [R.bind_ok]
      unfold appM
      simp only [hl1]
      rw [if_pos (by rw [y1.len]; exact hq1.1)]
      obtain ⟨E2, E3, b1, c1, f1, g1⟩ := (E.ext e1 fun _ => none_in).upd e a (o := .lst (vs ++ [w])) (d := .lst (l ++ [d])) (.lst (y1.app (.cons q1 .nil)))
      have E4 : Ext h1 h1 [n] μ1 (μ1.put n (.lst (vs ++ [w]))) := ⟨Nat.le_refl _, ⟨[], (List.append_nil _).symm, fun _ z => nomatch z⟩, fun m _ _ z => Mu.put_ne _ _ fun y => z (List.mem_singleton.mpr y), fun m _ _ z => Mu.put_vrN _ _ fun y => z (List.mem_singleton.mpr y)⟩
      exact ⟨_, _, h1, O, σ1, rfl, (e1.mono fun _ => none_in).trans E3 fun m z => .inl z, fun m z => .inl z, S1.keep E4 (fun m z => List.mem_append_left _ (List.mem_singleton.mp z ▸ b1)) fun m z => Mu.put_ne _ _ fun y => c1 (y ▸ z), _, E2, hq1.2⟩
  · exact hq.elim
theorem for_run {kk : Wk} {g : Val → Rho → Option Rho} {g' : Tgd} {body : MS} {body' : PlS} (hg : SiG g g') (hb : SiS body body') {X O0 : List Nat} {h0 : Hd} {μ0 : Mu} {ds0 : List Dt} {k : Kn} (q0 : rlI μ0 h0 (O0 ++ X) μ0 kk ds0) :
    ∀ (ds : List Dt) (i f : Nat) (h : Hd) (μ : Mu) (σ : Sg) (O : List Nat) (ρ : Rho) (r : Ev_), ds0.drop i = ds → f = ds.length + 1 → Ext h0 h O0 μ0 μ → (∀ n ∈ O, n ∈ O0 ∨ μ0.nx ≤ n) → Sm h (O ++ X) μ σ → EnvD h X O μ ρ r → forP g' body' k ds r σ → OkS h X O μ k (forM' kk.items g body f i ρ μ)
  | [], i, _, h, μ, σ, O, ρ, r, hds, rfl, e, hO, S, E, hq => by
    obtain ⟨vs, x1, x2⟩ := q0 h μ O0 (O ++ X) e (fun n z => List.mem_append_left _ z) fun n z => (List.mem_append.mp z).elim (fun z => (hO n z).imp (List.mem_append_left _) id) fun z => .inl (List.mem_append_right _ z)
    have : vs[i]? = none := by
      rw [List.getElem?_eq_none_iff, x2.len]
      exact List.drop_eq_nil_iff.mp hds
    show OkS h X O μ k (forM' kk.items g body (0 + 1) i ρ μ)
    rw [forM', x1]
    simp only [this]
    exact .of S ⟨r, E, hq⟩
  | d :: ds, i, _, h, μ, σ, O, ρ, r, hds, rfl, e, hO, S, E, hq => by
    obtain ⟨vs, x1, x2⟩ := q0 h μ O0 (O ++ X) e (fun n z => List.mem_append_left _ z) fun n z => (List.mem_append.mp z).elim (fun z => (hO n z).imp (List.mem_append_left _) id) fun z => .inl (List.mem_append_right _ z)
    have hd : ds0[i]? = some d := by
      have := congrArg (·[0]?) hds
      simpa [List.getElem?_drop] using this
    have hds' : ds0.drop (i + 1) = ds := by
      have := congrArg (List.drop 1) hds
      rw [List.drop_drop] at this
      exact this
    obtain ⟨v, y1, y2⟩ := x2.get hd
    unfold forP at hq
    split at hq
    · exact hq.elim
    · rename_i r1 hr1
      obtain ⟨ρ1, z1, z2⟩ := hg h X O μ ρ r r1 v d E y2 hr1
      obtain ⟨fl, μ1, h1, O1, σ1, a1, a2, a3, a4, a5⟩ := hb h X O μ σ ρ1 r1 _ S z2 hq
      show OkS h X O μ k (forM' kk.items g body (ds.length + 1 + 1) i ρ μ)
      rw [forM', x1]
      simp only [y1, z1, a1]
      have e1 := e.trans a2 hO
      have o1 : ∀ n ∈ O1, n ∈ O0 ∨ μ0.nx ≤ n := fun n z => (a3 n z).elim (hO n) fun w => .inr (Nat.le_trans e.le w)
      have up : ∀ {x : R Fl}, OkS h1 X O1 μ1 k x → OkS h X O μ k x := fun {x} ⟨g, μ2, h2, O2, σ2, y1, y2, y3, y4⟩ => ⟨g, μ2, h2, O2, σ2, y1, a2.trans y2 a3, fun n z => (y3 n z).elim (a3 n) fun w => .inr (Nat.le_trans a2.le w), y4⟩
      cases fl with
      | nx ρ2 =>
        obtain ⟨r2, E2, hk⟩ := a5
        exact up (for_run hg hb q0 ds (i + 1) _ h1 μ1 σ1 O1 ρ2 r2 hds' rfl e1 o1 a4 E2 hk)
      | ct ρ2 =>
        obtain ⟨r2, E2, hk⟩ := a5
        exact up (for_run hg hb q0 ds (i + 1) _ h1 μ1 σ1 O1 ρ2 r2 hds' rfl e1 o1 a4 E2 hk)
      | bk ρ2 =>
        obtain ⟨r2, E2, hk⟩ := a5
        exact ⟨_, μ1, h1, O1, σ1, rfl, a2, a3, a4, r2, E2, hk⟩
      | rt v =>
        obtain ⟨d, x, y⟩ := a5
        exact ⟨_, μ1, h1, O1, σ1, rfl, a2, a3, a4, d, x, y⟩
theorem si_for {it : MI} {it' : PlI} {g : Val → Rho → Option Rho} {g' : Tgd} (si : SiI it it') (hg : SiG g g') (sa : SiS a a') : SiS (sFor it g a) (qFor it' g' a') := fun h X O μ σ ρ r k S E hq => by
  refine OkS.expr (si h X O μ σ ρ r _ S E hq) fun kk μ1 h1 ds σ1 e1 S1 q1 hq1 => ?_
  have q1 : rlI μ h1 (O ++ X) μ1 kk ds := q1
  obtain ⟨vs, i1, i2⟩ := q1 h1 μ1 [] (O ++ X) (Ext.refl _ _ _) (fun _ => none_in) fun n z => .inl z
  simp only [i1]
  exact for_run hg sa q1 ds 0 (vs.length + 1) h1 μ1 σ1 O ρ r rfl (by rw [i2.len]) (Ext.refl _ _ _) (fun n z => .inl z) S1 (E.ext e1 fun _ => none_in) hq1
end
/-! ### defs -/
def SiD (d : List Val → Mu → R Val) (p : List Dt → Sg → (Dt → Sg → Prop) → Prop) : Prop := ∀ (h : Hd) (X : List Nat) (μ : Mu) (σ : Sg) (vs : List Val) (ds : List Dt) (Q : Dt → Sg → Prop), Sm h X μ σ → DRs h X μ vs ds → p ds σ Q → OkR rlE h X μ Q (d vs μ)
def startD (N : Nat) (ds : List Dt) : Ev_ := ds.map (fun d => some (.im d)) ++ List.replicate (N - ds.length) none
def runD (n N : Nat) (p : PlS) : List Dt → Sg → (Dt → Sg → Prop) → Prop := fun ds σ Q => ds.length = n ∧ p (startD N ds) σ ⟨fun _ σ => Q .non σ, fun _ _ => False, fun _ _ => False, Q⟩
def pCall (n : Nat) (d : List Dt → Sg → (Dt → Sg → Prop) → Prop) (a : PlA) : PlE := fun r σ Q => a r σ fun xs σ => xs.length = n ∧ d xs σ Q
theorem EnvD.start {h : Hd} {X : List Nat} {μ : Mu} {vs : List Val} {ds : List Dt} (N : Nat) (q : DRs h X μ vs ds) : EnvD h X [] μ (startV N vs) (startD N ds) := by
  have no : ∀ {i : Nat} {d : Dt}, (startD N ds)[i]? ≠ some (some (.ow d)) := fun {i d} z => by
    unfold startD at z
    rcases List.mem_append.mp (List.mem_of_getElem? z) with z | z
    · obtain ⟨e, _, z⟩ := List.mem_map.mp z
      cases z
    · have := (List.mem_replicate.mp z).2
      cases this
  refine ⟨by unfold startV startD; rw [List.length_append, List.length_append, List.length_map, List.length_map, List.length_replicate, List.length_replicate, q.len], fun i d z => ?_, fun i d z => absurd z no, fun i j d e n _ z => absurd z no⟩
  unfold startD at z
  by_cases c : i < ds.length
  · rw [List.getElem?_append_left (by rw [List.length_map]; exact c), List.getElem?_map] at z
    obtain ⟨d', x, y⟩ := Option.map_eq_some_iff.mp z
    cases y
    obtain ⟨v, f, g⟩ := q.get x
    exact ⟨v, by unfold startV; rw [List.getElem?_append_left (by rw [List.length_map, q.len]; exact c), List.getElem?_map, f]; rfl, g⟩
  · rw [List.getElem?_append_right (by rw [List.length_map]; omega)] at z
    have := (List.mem_replicate.mp (List.mem_of_getElem? z)).2
    cases this
theorem si_run {n N : Nat} {m : MS} {p : PlS} (s : SiS m p) : SiD (runM n N m) (runD n N p) := fun h X μ σ vs ds Q S q hq => by
  unfold runM
  rw [if_pos (by rw [q.len]; exact hq.1)]
  obtain ⟨f, μ1, h1, O1, σ1, a1, a2, a3, a4, a5⟩ := s h X [] μ σ (startV N vs) (startD N ds) _ S (EnvD.start N q) hq.2
  rw [a1]
  have S1 := a4.weak (X' := X) fun n z => List.mem_append_right _ z
  cases f with
  | nx ρ =>
    obtain ⟨r, _, hk⟩ := a5
    exact ⟨_, μ1, h1, .non, σ1, rfl, a2, S1, .non, hk⟩
  | bk ρ => obtain ⟨r, _, hk⟩ := a5; exact hk.elim
  | ct ρ => obtain ⟨r, _, hk⟩ := a5; exact hk.elim
  | rt v =>
    obtain ⟨d, x, y⟩ := a5
    exact ⟨v, μ1, h1, d, σ1, rfl, a2, S1, x, y⟩
theorem si_call {n : Nat} {d : List Val → Mu → R Val} {d' : List Dt → Sg → (Dt → Sg → Prop) → Prop} {as : MA} {as' : PlA} (sd : SiD d d') (sa : SiA as as') : SiE (mCall n d as) (pCall n d' as') := fun h X O μ σ ρ r Q S E hq => by
  refine OkR.bind (rel' := rlE) (sa h X O μ σ ρ r _ S E hq) fun vs μ1 h1 ds σ1 e1 S1 q1 hq1 => ?_
  have q1 : DRs h1 (O ++ X) μ1 vs ds := q1
  rw [if_pos (by rw [q1.len]; exact hq1.1)]
  obtain ⟨v, μ2, h2, d2, σ2, e, x⟩ := sd h1 (O ++ X) μ1 σ1 vs ds Q S1 q1 hq1.2
  exact ⟨v, μ2, h2, d2, σ2, by rw [e]; rfl, x⟩
end Wn
/-! plain data: more prims, what is shown of them -/
namespace Wn
open PySem PySem.Spec PyProof.Rows L2 LamX He
def blsD : List Dt → Option (List Bool)
  | [] => some []
  | .bl i :: r => match blsD r with
    | some l => some (i :: l)
    | none => none
  | _ :: _ => none
theorem bls_rel {h : Hd} {X : List Nat} {μ : Mu} : ∀ {vs : List Val} {ds : List Dt} {l : List Bool}, DRs h X μ vs ds → blsD ds = some l → blsO vs = some l
  | _, _, l, .nil, e => e
  | _, _, l, .cons (d := d) (ds := ds) a b, e => by
    cases d with
    | bl i =>
      dsimp only [blsD] at e
      split at e
      · rename_i l' h'
        cases e
        rw [(DW.bl (.inl a))]
        unfold blsO
        rw [bls_rel b h']
        rfl
      · cases e
    | _ => cases e
def allD_ : List Dt → Sg → Option Dt
  | [x], σ => ((lstD σ x).bind blsD).map fun l => .bl (l.all id)
  | _, _ => none
theorem p_all' : PN allM allD_ := by
  intro h X μ σ xs dxs d S hx e
  unfold allD_ at e
  split at e
  · obtain ⟨l, h1, rfl⟩ := Option.map_eq_some_iff.mp e
    obtain ⟨l', h2, h3⟩ := Option.bind_eq_some_iff.mp h1
    obtain ⟨v, rfl, q⟩ := hx.one
    obtain ⟨n, vs, rfl, _, o, r⟩ := q.lst S h2
    unfold allM
    simp only [seqOf_l o, Option.bind_some, bls_rel r h3]
    exact .id S (.bl _)
  · cases e
/-- a list so many times -/
def mulLD : Dt → Dt → Sg → Option Dt
  | .lst l, .int k, _ => if 0 ≤ k ∧ k ≤ 1000 ∧ l.length ≤ 1000 then some (.lst (List.replicate k.toNat l).flatten) else none
  | _, _, _ => none
/-! ### comprehensions and loops, by what they do -/
section
variable {g : Tgd} {c : PlT} {elt : PlE} {r : Ev_} {σ : Sg}
/-- a comprehension over `l.map`, no condition -/
theorem lcP_all {α : Type} {h : α → Dt} {f : α → Dt} {rv : α → Ev_} (Q : List Dt → Sg → Prop) : ∀ (l : List α) (acc : List Dt), (∀ x ∈ l, g (h x) r = some (rv x)) → (∀ x ∈ l, ∀ Q : Bool → Sg → Prop, Q true σ → c (rv x) σ Q) → (∀ x ∈ l, ∀ Q : Dt → Sg → Prop, Q (f x) σ → elt (rv x) σ Q) → acc.length + l.length ≤ 1000000 → Q (acc ++ l.map f) σ → lcP g c elt r (l.map h) acc σ Q
  | [], acc, _, _, _, _, hq => by
    simp only [List.map_nil, List.append_nil] at hq
    exact hq
  | a :: l, acc, hg, hc, he, hl, hq => by
    rw [List.length_cons] at hl
    rw [List.map_cons]
    unfold lcP
    rw [hg a List.mem_cons_self]
    refine hc a List.mem_cons_self _ ?_
    rw [if_pos rfl]
    refine he a List.mem_cons_self _ ⟨by omega, lcP_all Q l _ (fun x hx => hg x (List.mem_cons_of_mem a hx)) (fun x hx => hc x (List.mem_cons_of_mem a hx)) (fun x hx => he x (List.mem_cons_of_mem a hx)) (by rw [List.length_append]; simp; omega) ?_⟩
    rw [List.append_assoc]
    exact hq
end
/-- a for, by an invariant -/
theorem forP_inv {g : Tgd} {body : PlS} {k : Kn} {ds0 : List Dt} (I : Nat → Ev_ → Sg → Prop) (hs : ∀ i d r σ (k' : Kn), ds0[i]? = some d → I i r σ → k'.bk = k.nx → k'.rt = k.rt → (∀ r σ, I (i + 1) r σ → k'.nx r σ) → (∀ r σ, I (i + 1) r σ → k'.ct r σ) → ∃ r1, g d r = some r1 ∧ body r1 σ k') (hd : ∀ r σ, I ds0.length r σ → k.nx r σ) :
    ∀ (ds : List Dt) (i : Nat) (r : Ev_) (σ : Sg), ds0.drop i = ds → i ≤ ds0.length → I i r σ → forP g body k ds r σ
  | [], i, r, σ, hds, hi, h => by
    have : i = ds0.length := by
      have := List.drop_eq_nil_iff.mp hds
      omega
    subst this
    exact hd _ _ h
  | d :: ds, i, r, σ, hds, hi, h => by
    have hd0 : ds0[i]? = some d := by
      have := congrArg (·[0]?) hds
      simpa [List.getElem?_drop] using this
    have hds' : ds0.drop (i + 1) = ds := by
      have := congrArg (List.drop 1) hds
      rw [List.drop_drop] at this
      exact this
    have hlt := (List.getElem?_eq_some_iff.mp hd0).1
    obtain ⟨r1, a, b⟩ := hs i d r σ ⟨forP g body k ds, k.nx, forP g body k ds, k.rt⟩ hd0 h rfl rfl (fun r σ z => forP_inv I hs hd ds (i + 1) r σ hds' (by omega) z) fun r σ z => forP_inv I hs hd ds (i + 1) r σ hds' (by omega) z
    unfold forP
    rw [a]
    exact b
theorem forP_rng {g : Tgd} {body : PlS} {k : Kn} {lo : Int} {n : Nat} (I : Nat → Ev_ → Sg → Prop) {r : Ev_} {σ : Sg} (h0 : I 0 r σ) (hs : ∀ i r σ (k' : Kn), i < n → I i r σ → k'.bk = k.nx → k'.rt = k.rt → (∀ r σ, I (i + 1) r σ → k'.nx r σ) → (∀ r σ, I (i + 1) r σ → k'.ct r σ) → ∃ r1, g (.int (lo + (i : Int))) r = some r1 ∧ body r1 σ k') (hd : ∀ r σ, I n r σ → k.nx r σ) : forP g body k (rngD lo n) r σ := by
  have hlen : (rngD lo n).length = n := by unfold rngD; rw [List.length_map, List.length_range]
  refine forP_inv (ds0 := rngD lo n) I (fun i d r σ k' e h => ?_) (fun r σ h => hd r σ (by rw [hlen] at h; exact h)) _ 0 r σ rfl (Nat.zero_le _) h0
  unfold rngD at e
  rw [List.getElem?_map] at e
  obtain ⟨j, a, rfl⟩ := Option.map_eq_some_iff.mp e
  obtain ⟨b, c⟩ := List.getElem?_eq_some_iff.mp a
  rw [List.length_range] at b
  rw [List.getElem_range] at c
  subst c
  exact hs i r σ k' b h
theorem forP_list {α : Type} {f : α → Dt} {g : Tgd} {body : PlS} {k : Kn} {l : List α} (I : Nat → Ev_ → Sg → Prop) {r : Ev_} {σ : Sg} (h0 : I 0 r σ) (hs : ∀ i x r σ (k' : Kn), l[i]? = some x → I i r σ → k'.bk = k.nx → k'.rt = k.rt → (∀ r σ, I (i + 1) r σ → k'.nx r σ) → (∀ r σ, I (i + 1) r σ → k'.ct r σ) → ∃ r1, g (f x) r = some r1 ∧ body r1 σ k') (hd : ∀ r σ, I l.length r σ → k.nx r σ) : forP g body k (l.map f) r σ := by
  have hlen : (l.map f).length = l.length := List.length_map ..
  refine forP_inv (ds0 := l.map f) I (fun i d r σ k' e h => ?_) (fun r σ h => hd r σ (by rw [hlen] at h; exact h)) _ 0 r σ rfl (Nat.zero_le _) h0
  rw [List.getElem?_map] at e
  obtain ⟨x, a, rfl⟩ := Option.map_eq_some_iff.mp e
  exact hs i x r σ k' a h
end Wn
/-! plain data: own lists, displays of dicts, more prims -/
namespace Wn
open PySem PySem.Spec PyProof.Rows L2 LamX He
def isiTD : Dt → Sg → Option Dt
  | .str _, _ => some (.bl true)
  | .dct _, _ => none
  | .ref _, _ => none
  | .sysv _, _ => none
  | .sysw _, _ => none
  | .vw _ _, _ => none
  | .dtt _, _ => none
  | _, _ => some (.bl false)
theorem p_isiT' : P1 isiT isiTD := by
  intro h X μ σ x dx d S hx e
  cases dx with
  | non => cases e; rw [hx.non]; exact .id S (.bl _)
  | bl b => cases e; rw [hx.bl]; exact .id S (.bl _)
  | int b => cases e; rw [hx.int]; exact .id S (.bl _)
  | str b => cases e; rw [hx.str]; exact .id S (.bl _)
  | tup l => cases e; obtain ⟨vs, rfl, _⟩ := hx.tup; exact .id S (.bl _)
  | lst l =>
    cases e
    obtain ⟨n, vs, rfl, _, o, r⟩ := hx.lst S (l := l) rfl
    unfold isiT
    simp only [seqOf_l o]
    exact .id S (.bl _)
  | ros l =>
    cases e
    obtain ⟨n, vs, rfl, _, o, r⟩ := hx.ros
    unfold isiT
    simp only [o]
    exact .id S (.bl _)
  | dct l => cases e
  | ref k => cases e
  | sysv l => cases e
  | sysw l => cases e
  | vw l p => cases e
  | dtt l => cases e
/-- two lists, one behind the other -/
def addLD (x y : Dt) (σ : Sg) : Option Dt := match lstD σ x, lstD σ y with
  | some a, some b => if a.length + b.length ≤ 1000000 then some (.lst (a ++ b)) else none
  | _, _ => none
theorem addLD_lst {l m : List Dt} {σ : Sg} (h : l.length + m.length ≤ 1000000) : addLD (.lst l) (.lst m) σ = some (.lst (l ++ m)) := by
  show (if l.length + m.length ≤ 1000000 then some (Dt.lst (l ++ m)) else none) = _
  rw [if_pos h]
/-- an own list gets all of another one -/
def qExt (i : Nat) (a : PlE) : PlS := fun r σ k => match r[i]? with
  | some (some (.ow (.lst l))) => a r σ fun d σ => match d with
    | .lst m => l.length + m.length ≤ 1000000 ∧ k.nx (r.set i (some (.ow (.lst (l ++ m))))) σ
    | _ => False
  | _ => False
/-- repr(a) != repr(b) -/
def neSD : Dt → Dt → Sg → Option Dt
  | .str x, .str y, _ => some (.bl (!decide (x = y)))
  | _, _, _ => none
theorem p_neS : P2 neSM neSD := by
  intro h X μ σ x y dx dy d S hx hy e
  unfold neSD at e
  split at e
  · cases e; rw [hx.str, hy.str]; exact .id S (.bl _)
  · cases e
end Wn
/-! plain data: displays of dicts, d.get(k, x) -/
namespace Wn
open PySem PySem.Spec PyProof.Rows L2 LamX He
def rlP : DRel (List (Val × Val)) (List (Key × Dt)) := fun _ h X μ ps kvs => ∃ vs, kvOf ps = some vs ∧ vs.map (·.1) = kvs.map (·.1) ∧ DRs h X μ (vs.map (·.2)) (kvs.map (·.2))
instance : RelUp rlP := ⟨fun _ z => z⟩
end Wn
/-! plain data: systems that are only read, and what stands within them -/
namespace Wn
open PySem PySem.Spec PyProof.Rows L2 LamX He
/-! ### attributes -/
section
variable {h h' : Hd} {X : List Nat} {μ μ' : Mu} {σ : Sg} {v : Sv} {x : Val} {d : Dt} {n k : Nat}
end
/-! ### d[k], x not in l -/
/-! ### lists, classes -/
/-! ### sorted rows of data -/
/-! ### the things of a system are walked: locked meanwhile -/

/-! ### a place of an own list is written; a pair of which the second is a new list -/
end Wn
/-! the law's level: `for k, (a, b) in ..`, `a[i], b = ..`, isinstance(x, (list, tuple)) -/
namespace Wn
open PySem PySem.Spec PyProof.Rows L2 LamX He
section
variable {X : Cx} {E : XK} {e c o : Expr} {es : List Expr} {m mo mi mv : ME} {pos : Pos}
end
end Wn
/-! plain data: `for k, (a, b) in ..`, `a[i], b = ..`, a pair of which the first is a new list, isinstance(x, (list, tuple)) -/
namespace Wn
open PySem PySem.Spec PyProof.Rows L2 LamX He
end Wn
/-! the law's level: `x is True`, `x is not False` and so on, for any plain x -/
namespace Wn
open PySem PySem.Spec PyProof.Rows L2 LamX He
section
variable {X : Cx}
end
end Wn
/-! plain data: x is True, x is not False -/
namespace Wn
open PySem PySem.Spec PyProof.Rows L2 LamX He
def isbD (n : Bool) : Dt → Dt → Sg → Option Dt
  | .bl c, .bl b, _ => some (.bl (if n = true then !(decide (c = b)) else decide (c = b)))
  | .str _, .bl _, _ => some (.bl n)
  | .int _, .bl _, _ => some (.bl n)
  | .non, .bl _, _ => some (.bl n)
  | _, _, _ => none
end Wn
/-! plain data: while, a.append(b.pop(k)), list(x) as a new list -/
namespace Wn
open PySem PySem.Spec PyProof.Rows L2 LamX He
section
variable {c : MT} {c' : PlT} {body : MS} {body' : PlS} {X : List Nat} {k : Kn}
end
section
variable {m : ME} {p : PlE}
end
end Wn
/-! zip of three lists -/
namespace L2
open PySem PySem.Spec PyProof.Rows LamX
end L2
namespace Wn
open PySem PySem.Spec PyProof.Rows L2 LamX He
section
variable {X : Cx} {E : XK} {e e2 e3 : Expr} {pos p : Pos}
end
end Wn
/-! plain data: zip of three lists, pop of an own list -/
namespace Wn
open PySem PySem.Spec PyProof.Rows L2 LamX He
section
variable {ms : MA} {ps : PlA}
end
section
variable {m : ME} {p : PlE}
end
end Wn
/-! list(d.values()), d.pop(k) of a dict whose keys are tuples -/
namespace TdI
open PySem PySem.Spec PyProof.Rows L2
section
variable {X : Cx} {apos cpos pos : Pos}
end
section
variable {X : Cx}
end
end TdI
/-! the law's level: dicts whose keys are tuples that are made in place -/
namespace Wn
open PySem PySem.Spec PyProof.Rows L2 LamX He
section
variable {K : PySem.W.Frag} {w : Wt} {μ : Mu} {H : Hp}
end
section
variable {X : Cx} {E : XK} {e o : Expr} {es : List Expr} {pos tpos apos cpos : Pos} {mo mv : ME} {ma : MA} {x1 : ExprCtx} {f : Rho → Mu → Option Val}
end
end Wn
/-! list.remove of a dict that stands in the list: the dicts ahead of it are unequal -/
namespace RemD
open PySem PySem.Spec PyProof.Rows L2
open AutoSeq1 (wpAny_loadPart')
open MeetsSeq MeetsSeq2 MeetsSeq3 SeqRoads2
section
variable {prog : Program} {w : World}
end
/-! ### the rule -/
section
variable {X : Cx}
end
end RemD
namespace Wn
open PySem PySem.Spec PyProof.Rows L2 LamX He
section
variable {K : PySem.W.Frag} {w : Wt} {μ : Mu} {H : Hp}
theorem VRs.at_ {ad : Adr} {b : Nat} : ∀ {vs : List Val} {us : List V}, VRs K ad b H vs us → ∀ {i : Nat} {v : Val}, vs[i]? = some v → ∃ u, us[i]? = some u ∧ VR K ad b H v u
  | _, _, .nil, i, v, e => by cases i <;> cases e
  | _, _, .cons a r, 0, v, e => by cases e; exact ⟨_, rfl, a⟩
  | _, _, .cons a r, i + 1, v, e => VRs.at_ r (i := i) e
def keyVl : Key → Val
  | .inl i => .int i
  | .inr x => .str x
theorem VRs.keys {ad : Adr} {b : Nat} : ∀ {kvs : List (Key × Val)} {us : List (Key × V)}, us.map (·.1) = kvs.map (·.1) → VRs K ad b H (kvs.map fun p => keyVl p.1) (us.map fun kv => kV kv.1)
  | [], [], _ => .nil
  | p :: kvs, q :: us, h => by
    simp only [List.map_cons, List.cons.injEq] at h
    refine .cons ?_ (VRs.keys h.2)
    show VR K ad b H (keyVl p.1) (kV q.1)
    rw [h.1]
    cases p.1 with
    | inl i => exact .int i
    | inr x => exact .str x
  | [], _ :: _, h => by simp at h
  | _ :: _, [], h => by simp at h
end
/-! a list against an empty one, whatever lies in it -/
section
variable {X : Cx}
end
end Wn
/-! t[lo:hi] that is the whole of t: t itself -/
namespace HT
open PySem PyProof.Rows
section
variable {prog : Program} {w : World} {A : Around} {E : Value → Shared → Prop} {s : Shared}
end
end HT
namespace L2
open PySem PySem.Spec PyProof.Rows
section
variable {X : Cx}
end
end L2
namespace Wn
open PySem PySem.Spec PyProof.Rows L2 LamX He
section
variable {X : Cx} {E : XK} {e : Expr} {me : ME} {lo hi : Option Expr} {ml mh : MO} {pos p2 : Pos}
end
end Wn
/-! plain data: lists and dicts that change while others have them (cells) -/
namespace Wn
open PySem PySem.Spec PyProof.Rows L2 LamX He
/-! ### dicts by any keys -/
section
variable {κ α : Type} [DecidableEq κ]
def gG (l : List (κ × α)) (k : κ) : Option α := (l.find? fun p => decide (p.1 = k)).map (·.2)
def gP (l : List (κ × α)) (k : κ) (v : α) : List (κ × α) := if (l.any fun p => decide (p.1 = k)) then l.map fun p => if p.1 = k then (p.1, v) else p else l ++ [(k, v)]
end
section
variable {κ : Type} [DecidableEq κ] {h : Hd} {X : List Nat} {μ : Mu}
end
def dttD (σ : Sg) : Dt → Option (List (List Key × Dt))
  | .dtt l => some l
  | .ref k => match σ[k]? with
    | some (.dat (.dtt l)) => some l
    | _ => none
  | _ => none
section
variable {h h' : Hd} {X O : List Nat} {μ μ' : Mu} {v : Val} {d : Dt} {vs : List Val} {ds : List Dt} {σ : Sg} {ρ : Rho} {r : Ev_} {k : Kn}
theorem DW.dtt {l : List (List Key × Dt)} (S : Sm h X μ σ) (q : DW h X μ v d) (e : dttD σ d = some l) : ∃ n vs, v = .loc n ∧ μ.ob n = some (.dtt vs) ∧ vs.map (·.1) = l.map (·.1) ∧ DRs h X μ (vs.map (·.2)) (l.map (·.2)) := by
  cases d with
  | dtt l' =>
    cases e
    rcases q with q | ⟨n, o, rfl, _, a, b, q⟩
    · cases q with
      | obj _ _ a b q =>
        cases q with
        | dtt k q => exact ⟨_, _, rfl, b, k, q⟩
    · cases q with
      | dtt k q => exact ⟨_, _, rfl, b, k, q⟩
  | ref k =>
    obtain ⟨n, rfl, hk⟩ := q.ref
    dsimp only [dttD] at e
    split at e
    · rename_i l' hc
      cases e
      obtain ⟨o, a, b⟩ := S.ob _ _ _ hk hc
      cases b with
      | dtt k b => exact ⟨n, _, rfl, a, k, b⟩
    · cases e
  | _ => cases e
/-! ### what is fresh becomes a cell -/
/-! new objects -/
end
end Wn
/-! plain data: what is done to cells -/
namespace Wn
open PySem PySem.Spec PyProof.Rows L2 LamX He
section
variable {h h' : Hd} {X O : List Nat} {μ μ' : Mu} {v : Val} {d : Dt} {vs : List Val} {ds : List Dt} {σ : Sg} {ρ : Rho} {r : Ev_} {k : Kn}
/-! a cell, by its handle -/
/-! ### dicts whose keys are tuples -/
/-! what is read while nothing changes -/
/-! ### stores into cells -/
end
end Wn
/-! plain data: cells that are walked, cells from which is taken -/
namespace Wn
open PySem PySem.Spec PyProof.Rows L2 LamX He
section
variable {h h' : Hd} {X O : List Nat} {μ μ' : Mu} {v : Val} {d : Dt} {vs : List Val} {ds : List Dt} {σ : Sg} {ρ : Rho} {r : Ev_} {k : Kn}
/-! a list against an empty one -/
/-! a list as a cell: append, remove -/
/-! a dict taken out of a list -/
/-! d.pop(k, x) -/
/-! list(d) -/
/-! sorted(..) as a new list -/
/-! ### a cell's list is walked -/
/-! slices, a tuple's whole as well -/
end
end Wn
/-! a world of cells: what it holds, how it is read and written -/
namespace Wn
open PySem PySem.Spec PyProof.Rows L2 LamX He
/-! ### lists with keys -/
section
variable {κ κ' α β : Type} [DecidableEq κ] [DecidableEq κ']
theorem gG_cons {p : κ × α} {l : List (κ × α)} {k : κ} : gG (p :: l) k = if p.1 = k then some p.2 else gG l k := by
  unfold gG
  rw [List.find?_cons]
  by_cases c : p.1 = k
  · rw [if_pos c, decide_eq_true c]; rfl
  · rw [if_neg c, decide_eq_false c]
theorem gG_none {k : κ} : ∀ {l : List (κ × α)}, gG l k = none ↔ k ∉ l.map (·.1)
  | [] => ⟨fun _ => List.not_mem_nil, fun _ => rfl⟩
  | p :: l => by
    rw [gG_cons, List.map_cons, List.mem_cons, not_or]
    by_cases c : p.1 = k
    · rw [if_pos c]
      exact ⟨fun z => (nomatch z), fun z => absurd c.symm z.1⟩
    · rw [if_neg c, gG_none]
      exact ⟨fun z => ⟨fun y => c y.symm, z⟩, fun z => z.2⟩
theorem any_key {k : κ} {l : List (κ × α)} : (l.any fun p => decide (p.1 = k)) = true ↔ k ∈ l.map (·.1) := by
  rw [List.any_eq_true]
  exact ⟨fun ⟨p, h1, h2⟩ => List.mem_map.mpr ⟨p, h1, of_decide_eq_true h2⟩, fun h => by
    obtain ⟨p, h1, h2⟩ := List.mem_map.mp h
    exact ⟨p, h1, decide_eq_true h2⟩⟩
theorem gP_old {k : κ} {v : α} {l : List (κ × α)} (h : k ∈ l.map (·.1)) : gP l k v = l.map fun p => if p.1 = k then (p.1, v) else p := by
  unfold gP
  rw [if_pos (any_key.mpr h)]
theorem gP_new {k : κ} {v : α} {l : List (κ × α)} (h : k ∉ l.map (·.1)) : gP l k v = l ++ [(k, v)] := by
  unfold gP
  rw [if_neg (fun z => h (any_key.mp z))]
theorem gG_app {k : κ} : ∀ {l m : List (κ × α)}, gG (l ++ m) k = (gG l k).or (gG m k)
  | [], m => rfl
  | p :: l, m => by
    rw [List.cons_append, gG_cons, gG_cons]
    split
    · rfl
    · exact gG_app
theorem gG_gP {k k' : κ} {v : α} {l : List (κ × α)} : gG (gP l k v) k' = if k' = k then some v else gG l k' := by
  by_cases c : k ∈ l.map (·.1)
  · rw [gP_old c]
    induction l with
    | nil => cases c
    | cons p l ih =>
      rw [List.map_cons, gG_cons, gG_cons]
      by_cases d : p.1 = k
      · rw [if_pos d]
        by_cases e : k' = k
        · rw [if_pos e, if_pos (d.trans e.symm)]
        · rw [if_neg e]
          have e1 : ¬ p.1 = k' := fun z => e (z.symm.trans d)
          rw [if_neg e1, if_neg e1]
          by_cases c' : k ∈ l.map (·.1)
          · rw [ih c', if_neg e]
          · have : (l.map fun p => if p.1 = k then (p.1, v) else p) = l := by
              conv => rhs; rw [← List.map_id l]
              refine List.map_congr_left fun q hq => ?_
              rw [if_neg (fun z => c' (List.mem_map.mpr ⟨q, hq, z⟩))]
              rfl
            rw [this]
      · rw [if_neg d]
        have c' : k ∈ l.map (·.1) := by
          rcases List.mem_cons.mp c with z | z
          · exact absurd z.symm d
          · exact z
        rw [ih c']
        by_cases e : p.1 = k'
        · rw [if_pos e, if_pos e, if_neg (fun z => d (e.trans z))]
        · rw [if_neg e, if_neg e]
  · rw [gP_new c, gG_app]
    by_cases e : k' = k
    · subst e
      rw [if_pos rfl, gG_none.mpr c]
      show gG [(k', v)] k' = some v
      rw [gG_cons, if_pos rfl]
    · rw [if_neg e]
      have : gG [(k, v)] k' = none := by rw [gG_cons, if_neg (fun z => e z.symm)]; rfl
      rw [this]
      cases gG l k' <;> rfl
end
/-! ### the world -/
structure Md where
  P : Int
  N : Int
  alive : List Int
  tabs : List ((Int × Int) × Int)
  units : List (Int × (Int × Bool))
  sets : List (Int × (List Ev × List Int))
  made : Int
inductive Rl where
  | ro | al | ta | un | se | u (s : Int) | t (s : Int) | rg (s : Int) | rw (s : Int) | en (s l : Int)
  deriving DecidableEq
abbrev Hm := Rl → Nat
def tabD (l : List ((Int × Int) × Int)) : List (List Key × Dt) := l.map fun p => ([.inl p.1.1, .inl p.1.2], .int p.2)
def evD (e : Ev) : List (Key × Dt) := [(.inr "number", .int e.num), (.inr "thing", .int e.ser), (.inr "label", .int e.lab), (.inr "word", .str e.wrd), (.inr "armed", .bl e.arm)]
def roD (h : Hm) (m : Md) : List (Key × Dt) := [(.inr "limits", .tup [.int m.P, .int m.N]), (.inr "alive", .ref (h .al)), (.inr "tables", .ref (h .ta)), (.inr "units", .ref (h .un)), (.inr "sets", .ref (h .se)), (.inr "made", .int m.made)]
def unsD (h : Hm) (l : List (Int × (Int × Bool))) : List (Key × Dt) := l.map fun p => (.inl p.1, .ref (h (.u p.1)))
def sesD (h : Hm) (l : List (Int × (List Ev × List Int))) : List (Key × Dt) := l.map fun p => (.inl p.1, .ref (h (.t p.1)))
def setD (h : Hm) (s : Int) : List (Key × Dt) := [(.inr "regs", .ref (h (.rg s))), (.inr "row", .ref (h (.rw s)))]
def rgsD (h : Hm) (s : Int) (es : List Ev) : List Dt := es.map fun e => .ref (h (.en s e.lab))
def uniD (x : Int × Bool) : List Dt := [.int x.1, .bl x.2]
def Md.cel (m : Md) (h : Hm) : Rl → Option Dt
  | .ro => some (.dct (roD h m))
  | .al => some (.lst (m.alive.map .int))
  | .ta => some (.dtt (tabD m.tabs))
  | .un => some (.dct (unsD h m.units))
  | .se => some (.dct (sesD h m.sets))
  | .u s => (gG m.units s).map fun x => .lst (uniD x)
  | .t s => (gG m.sets s).map fun _ => .dct (setD h s)
  | .rg s => (gG m.sets s).map fun x => .lst (rgsD h s x.1)
  | .rw s => (gG m.sets s).map fun x => .lst (x.2.map .int)
  | .en s l => (gG m.sets s).bind fun x => (x.1.find? fun e => decide (e.lab = l)).map fun e => .dct (evD e)
structure Wat (Z : List (Nat × Cel)) (h : Hm) (m : Md) (σ : Sg) : Prop where
  at_ : ∀ r d, m.cel h r = some d → σ[h r]? = some (.dat d)
  inj : ∀ r r' d d', m.cel h r = some d → m.cel h r' = some d' → h r = h r' → r = r'
  out : ∀ z ∈ Z, σ[z.1]? = some z.2
  far : ∀ z ∈ Z, ∀ r d, m.cel h r = some d → h r ≠ z.1
section
variable {Z : List (Nat × Cel)} {h h' : Hm} {m m' : Md} {σ : Sg}
theorem Wat.lt (w : Wat Z h m σ) {r : Rl} {d : Dt} (e : m.cel h r = some d) : h r < σ.length := (List.getElem?_eq_some_iff.mp (w.at_ r d e)).1
/-- cells made, one cell rewritten -/
theorem Wat.news (w : Wat Z h m σ) {es : List Dt} {q : Rl} {dq d0 : Dt} (hq : m.cel h q = some d0)
    (new : ∀ r d, m'.cel h' r = some d → (∃ i, h' r = σ.length + i ∧ es[i]? = some d) ∨ (r = q ∧ d = dq ∧ h' r = h q) ∨ (r ≠ q ∧ h' r = h r ∧ m.cel h r = some d))
    (ni : ∀ r r' d d', m'.cel h' r = some d → m'.cel h' r' = some d' → h' r = h' r' → σ.length ≤ h' r → r = r') : Wat Z h' m' ((σ ++ es.map Cel.dat).set (h q) (.dat dq)) := by
  have hl := w.lt hq
  have old : ∀ {j : Nat}, j < σ.length → j ≠ h q → ((σ ++ es.map Cel.dat).set (h q) (.dat dq))[j]? = σ[j]? := fun {j} h1 h2 => by
    rw [List.getElem?_set_ne (fun z => h2 z.symm), List.getElem?_append_left h1]
  refine ⟨fun r d e => ?_, fun r r' d d' e e' hh => ?_, fun z hz => ?_, fun z hz r d e => ?_⟩
  · rcases new r d e with ⟨i, h1, h2⟩ | ⟨h1, h2, h3⟩ | ⟨h1, h2, h3⟩
    · rw [h1, List.getElem?_set_ne (by omega), List.getElem?_append_right (by omega), List.getElem?_map, show σ.length + i - σ.length = i by omega, h2]
      rfl
    · rw [h3, List.getElem?_set_self (by rw [List.length_append]; omega), h2]
    · rw [h2, old (w.lt h3) (fun z => h1 (w.inj _ _ _ _ h3 hq z))]
      exact w.at_ r d h3
  · by_cases c : σ.length ≤ h' r
    · exact ni r r' d d' e e' hh c
    · have o : ∀ {r : Rl} {d : Dt}, m'.cel h' r = some d → ¬ σ.length ≤ h' r → ∃ d1, m.cel h r = some d1 ∧ h' r = h r := fun {r d} e c => by
        rcases new r d e with ⟨i, h1, h2⟩ | ⟨h1, h2, h3⟩ | ⟨h1, h2, h3⟩
        · omega
        · subst h1; exact ⟨_, hq, h3⟩
        · exact ⟨_, h3, h2⟩
      obtain ⟨d1, a1, a2⟩ := o e c
      obtain ⟨d2, b1, b2⟩ := o e' (by rw [← hh]; exact c)
      exact w.inj r r' d1 d2 a1 b1 (by rw [← a2, ← b2]; exact hh)
  · have := w.out z hz
    rw [old (List.getElem?_eq_some_iff.mp this).1 (fun y => w.far z hz q _ hq y.symm)]
    exact this
  · have l := (List.getElem?_eq_some_iff.mp (w.out z hz)).1
    rcases new r d e with ⟨i, h1, h2⟩ | ⟨h1, h2, h3⟩ | ⟨h1, h2, h3⟩
    · omega
    · rw [h3]; exact w.far z hz q _ hq
    · rw [h2]; exact w.far z hz r _ h3
/-- one cell rewritten -/
theorem Wat.put (w : Wat Z h m σ) {q : Rl} {dq d0 : Dt} (hq : m.cel h q = some d0) (new : ∀ r d, m'.cel h r = some d → (r = q ∧ d = dq) ∨ (r ≠ q ∧ m.cel h r = some d)) : Wat Z h m' (σ.set (h q) (.dat dq)) := by
  have := w.news (h' := h) (m' := m') (es := []) (dq := dq) hq (fun r d e => by
    rcases new r d e with ⟨rfl, b⟩ | ⟨a, b⟩
    · exact .inr (.inl ⟨rfl, b, rfl⟩)
    · exact .inr (.inr ⟨a, rfl, b⟩)) (fun r r' d d' e e' hh hl => by
    exfalso
    rcases new r d e with ⟨rfl, b⟩ | ⟨a, b⟩
    · exact absurd (w.lt hq) (by omega)
    · exact absurd (w.lt b) (by omega))
  rwa [List.map_nil, List.append_nil] at this
/-! reading -/
theorem inl_inj : ∀ a b : Int, (Sum.inl a : Key) = Sum.inl b → a = b := fun _ _ z => Sum.inl.inj z
theorem find_labE {es : List Ev} (nd : (es.map (·.lab)).Nodup) {e : Ev} (he : e ∈ es) : es.find? (fun x => decide (x.lab = e.lab)) = some e := by
  induction es with
  | nil => cases he
  | cons a es ih =>
    rw [List.map_cons, List.nodup_cons] at nd
    rw [List.find?_cons]
    rcases List.mem_cons.mp he with rfl | z
    · rw [decide_eq_true rfl]
    · rw [decide_eq_false (fun y => nd.1 (List.mem_map.mpr ⟨e, z, y.symm⟩))]
      exact ih nd.2 z
end
end Wn
/-! a world of cells: what each write makes of it -/
namespace Wn
open PySem PySem.Spec PyProof.Rows L2 LamX He
def hset (h : Hm) (p : Rl) (j : Nat) : Hm := fun r => if r = p then j else h r
theorem hset_same {h : Hm} {p : Rl} {j : Nat} : hset h p j p = j := if_pos rfl
theorem hset_ne {h : Hm} {p r : Rl} {j : Nat} (n : r ≠ p) : hset h p j r = h r := if_neg n
def Md.putS (m : Md) (s : Int) (x : List Ev × List Int) : Md := { m with sets := gP m.sets s x }
def Md.al (m : Md) (l : List Int) : Md := { m with alive := l }
section
variable {Z : List (Nat × Cel)} {h h' : Hm} {m m' : Md} {σ : Sg}
theorem ses_keys {l : List (Int × (List Ev × List Int))} : (sesD h l).map (·.1) = l.map fun p => Sum.inl p.1 := by
  unfold sesD
  rw [List.map_map]
  rfl
theorem inl_keys {α : Type} {l : List (Int × α)} {s : Int} : (Sum.inl s : Key) ∈ (l.map fun p => (Sum.inl p.1 : Key)) ↔ s ∈ l.map (·.1) := by
  simp only [List.mem_map]
  exact ⟨fun ⟨p, a, b⟩ => ⟨p, a, inl_inj _ _ b⟩, fun ⟨p, a, b⟩ => ⟨p, a, by rw [b]⟩⟩
theorem cel_t {s : Int} {x : List Ev × List Int} (g : gG m.sets s = some x) : m.cel h (.t s) = some (.dct (setD h s)) := by show (gG m.sets s).map _ = _; rw [g]; rfl
theorem cel_rg {s : Int} {x : List Ev × List Int} (g : gG m.sets s = some x) : m.cel h (.rg s) = some (.lst (rgsD h s x.1)) := by show (gG m.sets s).map _ = _; rw [g]; rfl
theorem cel_rw {s : Int} {x : List Ev × List Int} (g : gG m.sets s = some x) : m.cel h (.rw s) = some (.lst (x.2.map .int)) := by show (gG m.sets s).map _ = _; rw [g]; rfl
theorem cel_en {s l : Int} {x : List Ev × List Int} (g : gG m.sets s = some x) : m.cel h (.en s l) = (x.1.find? fun e => decide (e.lab = l)).map fun e => .dct (evD e) := by show (gG m.sets s).bind _ = _; rw [g]; rfl
theorem putS_same {s : Int} {x : List Ev × List Int} : gG (m.putS s x).sets s = some x := by show gG (gP m.sets s x) s = _; rw [gG_gP, if_pos rfl]
theorem putS_ne {s k : Int} {x : List Ev × List Int} (n : k ≠ s) : gG (m.putS s x).sets k = gG m.sets k := by show gG (gP m.sets s x) k = _; rw [gG_gP, if_neg n]
/-- what another set's cells hold is as before -/
theorem cel_other {s : Int} {x : List Ev × List Int} (r : Rl) (d : Dt) (e : (m.putS s x).cel h r = some d) (hr : r ≠ .se) (h1 : r ≠ .t s) (h2 : r ≠ .rg s) (h3 : r ≠ .rw s) (h4 : ∀ l, r ≠ .en s l) : m.cel h r = some d := by
  cases r with
  | se => exact absurd rfl hr
  | t k =>
    have n : k ≠ s := fun z => h1 (by rw [z])
    have e : (gG (m.putS s x).sets k).map _ = some d := e
    rw [putS_ne n] at e
    exact e
  | rg k =>
    have n : k ≠ s := fun z => h2 (by rw [z])
    have e : (gG (m.putS s x).sets k).map _ = some d := e
    rw [putS_ne n] at e
    exact e
  | rw k =>
    have n : k ≠ s := fun z => h3 (by rw [z])
    have e : (gG (m.putS s x).sets k).map _ = some d := e
    rw [putS_ne n] at e
    exact e
  | en k l =>
    have n : k ≠ s := fun z => h4 l (by rw [z])
    have e : (gG (m.putS s x).sets k).bind _ = some d := e
    rw [putS_ne n] at e
    exact e
  | _ => exact e
/-- of the registrations each is one of the old ones -/
def SubL (es' es : List Ev) : Prop := ∀ l e, es'.find? (fun e => decide (e.lab = l)) = some e → es.find? (fun e => decide (e.lab = l)) = some e
theorem SubL.refl (es : List Ev) : SubL es es := fun _ _ z => z
theorem SubL.of {es' es : List Ev} (nd : (es.map (·.lab)).Nodup) (h : ∀ e ∈ es', e ∈ es) : SubL es' es := fun l e z => by
  have m := List.mem_of_find?_eq_some z
  have p := List.find?_some z
  have p : e.lab = l := by simpa using p
  rw [← p]
  exact find_labE nd (h e m)
/-- a new set -/
theorem Wat.newS (w : Wat Z h m σ) {s : Int} (n : s ∉ m.sets.map (·.1)) : Wat Z (hset (hset (hset h (.rg s) σ.length) (.rw s) (σ.length + 1)) (.t s) (σ.length + 2)) (m.putS s ([], [])) ((σ ++ [Cel.dat (.lst []), .dat (.lst []), .dat (.dct [(.inr "regs", .ref σ.length), (.inr "row", .ref (σ.length + 1))])]).set (h .se) (.dat (.dct (gP (sesD h m.sets) (.inl s) (.ref (σ.length + 2)))))) := by
  have g0 : gG m.sets s = none := gG_none.mpr n
  have ne : ∀ x : Rl, x ≠ .rg s → x ≠ .rw s → x ≠ .t s → hset (hset (hset h (.rg s) σ.length) (.rw s) (σ.length + 1)) (.t s) (σ.length + 2) x = h x := fun x h1 h2 h3 => by rw [hset_ne h3, hset_ne h2, hset_ne h1]
  have e1 : hset (hset (hset h (.rg s) σ.length) (.rw s) (σ.length + 1)) (.t s) (σ.length + 2) (.rg s) = σ.length := by rw [hset_ne (r := .rg s) (p := .t s) nofun, hset_ne (r := .rg s) (p := .rw s) nofun, hset_same]
  have e2 : hset (hset (hset h (.rg s) σ.length) (.rw s) (σ.length + 1)) (.t s) (σ.length + 2) (.rw s) = σ.length + 1 := by rw [hset_ne (r := .rw s) (p := .t s) nofun, hset_same]
  have e3 : hset (hset (hset h (.rg s) σ.length) (.rw s) (σ.length + 1)) (.t s) (σ.length + 2) (.t s) = σ.length + 2 := hset_same
  generalize hset (hset (hset h (.rg s) σ.length) (.rw s) (σ.length + 1)) (.t s) (σ.length + 2) = h' at ne e1 e2 e3 ⊢
  have key : ∀ r d, (m.putS s ([], [])).cel h' r = some d → (r = .rg s ∧ d = .lst []) ∨ (r = .rw s ∧ d = .lst []) ∨ (r = .t s ∧ d = .dct [(.inr "regs", .ref σ.length), (.inr "row", .ref (σ.length + 1))]) ∨ (r = .se ∧ d = .dct (gP (sesD h m.sets) (.inl s) (.ref (σ.length + 2)))) ∨ (r ≠ .se ∧ h' r = h r ∧ m.cel h r = some d) := by
    intro r d z
    by_cases c1 : r = .rg s
    · subst c1; rw [cel_rg putS_same] at z; cases z; exact .inl ⟨rfl, rfl⟩
    by_cases c2 : r = .rw s
    · subst c2; rw [cel_rw putS_same] at z; cases z; exact .inr (.inl ⟨rfl, rfl⟩)
    by_cases c3 : r = .t s
    · subst c3; rw [cel_t putS_same] at z; cases z; exact .inr (.inr (.inl ⟨rfl, by unfold setD; rw [e1, e2]⟩))
    by_cases c4 : r = .se
    · subst c4
      cases z
      refine .inr (.inr (.inr (.inl ⟨rfl, ?_⟩)))
      congr 1
      show sesD h' (gP m.sets s ([], [])) = _
      rw [gP_new n, gP_new (by rw [ses_keys, inl_keys]; exact n)]
      unfold sesD
      rw [List.map_append]
      congr 1
      · refine List.map_congr_left fun p hp => ?_
        rw [ne (.t p.1) nofun nofun fun q => n (List.mem_map.mpr ⟨p, hp, by injection q⟩)]
      · show [((Sum.inl s : Key), Dt.ref (h' (.t s)))] = _
        rw [e3]
    refine .inr (.inr (.inr (.inr ⟨c4, ne r c1 c2 c3, ?_⟩)))
    by_cases c5 : ∃ l, r = .en s l
    · obtain ⟨l, rfl⟩ := c5
      rw [cel_en putS_same] at z
      cases z
    have z : (m.putS s ([], [])).cel h r = some d := by
      rw [← z]
      cases r with
      | ro =>
        show some (Dt.dct (roD h _)) = some (.dct (roD h' _))
        unfold roD
        rw [ne .al nofun nofun nofun, ne .ta nofun nofun nofun, ne .un nofun nofun nofun, ne .se nofun nofun nofun]
      | un =>
        show some (Dt.dct (unsD h _)) = some (.dct (unsD h' _))
        congr 2
        exact List.map_congr_left fun (x : Int × (Int × Bool)) _ => by rw [ne (.u x.1) nofun nofun nofun]
      | se => exact absurd rfl c4
      | t k =>
        have nk : k ≠ s := fun q => c3 (by rw [q])
        show (gG _ k).map (fun _ => Dt.dct (setD h k)) = (gG _ k).map fun _ => .dct (setD h' k)
        unfold setD
        rw [ne (.rg k) (fun q => nk (by injection q)) nofun nofun, ne (.rw k) nofun (fun q => nk (by injection q)) nofun]
      | rg k =>
        show (gG _ k).map (fun (x : List Ev × List Int) => Dt.lst (rgsD h k x.1)) = (gG _ k).map fun (x : List Ev × List Int) => .lst (rgsD h' k x.1)
        congr 1
        funext x
        congr 1
        exact List.map_congr_left fun y _ => by rw [ne (.en k y.lab) nofun nofun nofun]
      | _ => rfl
    exact cel_other r d z c4 c3 c1 c2 fun l y => c5 ⟨l, y⟩
  have := w.news (h' := h') (m' := m.putS s ([], [])) (es := [.lst [], .lst [], .dct [(.inr "regs", .ref σ.length), (.inr "row", .ref (σ.length + 1))]]) (q := .se) (dq := .dct (gP (sesD h m.sets) (.inl s) (.ref (σ.length + 2)))) rfl (fun r d z => by
    rcases key r d z with ⟨rfl, rfl⟩ | ⟨rfl, rfl⟩ | ⟨rfl, rfl⟩ | ⟨rfl, b⟩ | ⟨a, b, c⟩
    · exact .inl ⟨0, e1, rfl⟩
    · exact .inl ⟨1, e2, rfl⟩
    · exact .inl ⟨2, e3, rfl⟩
    · exact .inr (.inl ⟨rfl, b, ne .se nofun nofun nofun⟩)
    · exact .inr (.inr ⟨a, b, c⟩)) (fun r r' d d' z z' hh hl => by
    have o : ∀ {r d}, (m.putS s ([], [])).cel h' r = some d → σ.length ≤ h' r → (r = .rg s ∧ h' r = σ.length) ∨ (r = .rw s ∧ h' r = σ.length + 1) ∨ (r = .t s ∧ h' r = σ.length + 2) := fun {r d} z hl => by
      rcases key r d z with ⟨rfl, _⟩ | ⟨rfl, _⟩ | ⟨rfl, _⟩ | ⟨rfl, b⟩ | ⟨a, b, c⟩
      · exact .inl ⟨rfl, e1⟩
      · exact .inr (.inl ⟨rfl, e2⟩)
      · exact .inr (.inr ⟨rfl, e3⟩)
      · exfalso; rw [ne .se nofun nofun nofun] at hl; exact absurd (w.lt (r := .se) rfl) (by omega)
      · exfalso; rw [b] at hl; exact absurd (w.lt c) (by omega)
    rcases o z hl with ⟨a, b⟩ | ⟨a, b⟩ | ⟨a, b⟩ <;> rcases o z' (by rw [← hh]; exact hl) with ⟨c, d⟩ | ⟨c, d⟩ | ⟨c, d⟩ <;> first | (exfalso; omega) | rw [a, c])
  exact this
/-! what lies outside -/
theorem Wat.app (w : Wat Z h m σ) (τ : Sg) : Wat Z h m (σ ++ τ) := ⟨fun r d e => by rw [List.getElem?_append_left (w.lt e)]; exact w.at_ r d e, w.inj, fun z hz => by
  have := w.out z hz
  rw [List.getElem?_append_left (List.getElem?_eq_some_iff.mp this).1]
  exact this, w.far⟩
theorem Wat.sys {b x : Nat} {c d d' : Cel} (w : Wat [(b, c), (x, d)] h m σ) (bx : b ≠ x) : Wat [(b, c), (x, d')] h m (σ.set x d') := by
  have o1 := w.out (b, c) List.mem_cons_self
  have o2 := w.out (x, d) (List.mem_cons_of_mem _ List.mem_cons_self)
  refine ⟨fun r q e => ?_, w.inj, fun z hz => ?_, fun z hz r q e => ?_⟩
  · rw [List.getElem?_set_ne (fun y => w.far (x, d) (List.mem_cons_of_mem _ List.mem_cons_self) r q e y.symm)]
    exact w.at_ r q e
  · rcases List.mem_cons.mp hz with rfl | hz
    · rw [List.getElem?_set_ne (fun y => bx y.symm)]
      exact o1
    · rcases List.mem_cons.mp hz with rfl | hz
      · exact List.getElem?_set_self (List.getElem?_eq_some_iff.mp o2).1
      · cases hz
  · rcases List.mem_cons.mp hz with rfl | hz
    · exact w.far (b, c) List.mem_cons_self r q e
    · rcases List.mem_cons.mp hz with rfl | hz
      · exact w.far (x, d) (List.mem_cons_of_mem _ List.mem_cons_self) r q e
      · cases hz
end
end Wn
namespace Wn
open PySem PySem.Spec PyProof.Rows L2 LamX He
set_option hygiene false
local macro_rules
  | `(tactic| simp_arith! [$xs,*] $[$l:location]?) => `(tactic| simp only [oK_some, isbD, Option.bind_some, Option.map_some, pC, pV, pO, pNil, pCons, pTup, pLst, pOp, pUn, pFn, pTest, pAnd, pOr, pNot, pIf, pNotV, pOrV, pYes, pOrT, pAndT, pChain, pP0, pP, pSl, pIt, pItW, pRng1, pRng2, pEnm, pLc, gN, gT, unpD, wipeE, qNil, qSet, qOwn, qExpr, qRet, qRetO, qRetN, qIf, qBrk, qCnt, qPar, qPar3, qAsg, qUnp, qRel, qApp, qExt, addLD_lst, qFor, runD, startD, pCall, pMeth, onSy, pMake, pMakeK, pFnS, mak_, lstD, dctD, addD_int, addD_lst, mulLD_lst, subD, modD, ltD, leD, gtD, geD, cmpD, nonD, isD, isntD, keyD, getD_, negD, lenD, listD, tupleD, minD, maxD, absD, intD, intBD, num_, alv_, lim_, lns_, List.getElem?_cons_zero, List.getElem?_cons_succ, List.getElem?_nil, List.set_cons_zero, List.set_cons_succ, List.map_cons, List.map_nil, List.length_cons, List.length_nil, List.cons_append, List.nil_append, List.append_nil, List.replicate, List.flatten_cons, List.flatten_nil, Nat.reduceAdd, Nat.reduceSub, Nat.reduceLeDiff, Nat.reduceLT, Nat.reduceEqDiff, Int.reduceLT, Int.reduceLE, Int.reduceNeg, Int.reduceAdd, Int.reduceToNat, ite_true, ite_false, if_true, if_false, reduceIte, Bool.false_eq_true, Bool.true_eq_false, Bool.not_true, Bool.not_false, and_self, and_true, true_and, Nat.zero_add, Nat.le_refl, or_true, true_or, or_self, not_true, not_false_iff, atI0, atI1, atI2, atI3, atI4, atI5, eqD_int, neD_int, eqD_str, neD_str, $xs,*] $[$l]?)
  | `(tactic| simp_arith! $[$l:location]?) => `(tactic| simp only [oK_some, isbD, Option.bind_some, Option.map_some, pC, pV, pO, pNil, pCons, pTup, pLst, pOp, pUn, pFn, pTest, pAnd, pOr, pNot, pIf, pNotV, pOrV, pYes, pOrT, pAndT, pChain, pP0, pP, pSl, pIt, pItW, pRng1, pRng2, pEnm, pLc, gN, gT, unpD, wipeE, qNil, qSet, qOwn, qExpr, qRet, qRetO, qRetN, qIf, qBrk, qCnt, qPar, qPar3, qAsg, qUnp, qRel, qApp, qExt, addLD_lst, qFor, runD, startD, pCall, pMeth, onSy, pMake, pMakeK, pFnS, mak_, lstD, dctD, addD_int, addD_lst, mulLD_lst, subD, modD, ltD, leD, gtD, geD, cmpD, nonD, isD, isntD, keyD, getD_, negD, lenD, listD, tupleD, minD, maxD, absD, intD, intBD, num_, alv_, lim_, lns_, List.getElem?_cons_zero, List.getElem?_cons_succ, List.getElem?_nil, List.set_cons_zero, List.set_cons_succ, List.map_cons, List.map_nil, List.length_cons, List.length_nil, List.cons_append, List.nil_append, List.append_nil, List.replicate, List.flatten_cons, List.flatten_nil, Nat.reduceAdd, Nat.reduceSub, Nat.reduceLeDiff, Nat.reduceLT, Nat.reduceEqDiff, Int.reduceLT, Int.reduceLE, Int.reduceNeg, Int.reduceAdd, Int.reduceToNat, ite_true, ite_false, if_true, if_false, reduceIte, Bool.false_eq_true, Bool.true_eq_false, Bool.not_true, Bool.not_false, and_self, and_true, true_and, Nat.zero_add, Nat.le_refl, or_true, true_or, or_self, not_true, not_false_iff, atI0, atI1, atI2, atI3, atI4, atI5, eqD_int, neD_int, eqD_str, neD_str] $[$l]?)
local macro_rules
  | `(tactic| dsimp! [$xs,*] $[$l:location]?) => `(tactic| simp only [mChain, isiM, sDst2, neD0M, Wn.R.bind_ok, Wn.R.bind_no, Wn.R.cut_ok, Wn.R.cut_no, sThen_nx, sThen_rt, sThen_bk, sThen_ct, mC, mV, mNil, mCons, mTup, mLst, mOp, mUn, mFn, mMt, boolM, mTest, mAnd, mOr, mNot, mIf, mBl, mAndV, mOrV, mNotV, mAndT, mOrT, truM, List.isEmpty_cons, List.isEmpty_nil, addM, subM, mulM, modM, fdivM, powM, negM, ltM, leM, gtM, geM, cmpI, isM', isntM, isNon, getM, dgetM, slM, mSl, mP, mP0, lenM, listM, tupleM, minM, maxM, absM, intM, sortedM, mBm, lstOf, appM, popM, extM, idxM, remLM, sNil, sSeq, sSet, sExpr, sRet, sRetN, sIf, sBrk, sCnt, sPar, sPar3, sAsg, tgN, tgT, unp, stoM, dstoM, sSto, Wk.items, iSeq, iRng1, iRng2, iEnm, mCall, mMeth, sysOf, onSys, mMethK, mMake, mMakeK, makM, mYes, mListR1, mListR2, intBM, startV, seqOf, keyOf, List.getElem?_cons_zero, List.getElem?_cons_succ, List.getElem?_nil, List.set_cons_zero, List.set_cons_succ, List.map_cons, List.map_nil, List.length_cons, List.length_nil, List.cons_append, List.nil_append, List.append_nil, List.replicate, List.flatten_cons, List.flatten_nil, Nat.reduceAdd, Nat.reduceSub, Nat.reduceLeDiff, Nat.reduceLT, Nat.reduceEqDiff, Int.reduceLT, Int.reduceLE, Int.reduceNeg, Int.reducePow, ite_true, ite_false, if_true, if_false, reduceIte, Bool.false_eq_true, Bool.true_eq_false, Bool.not_true, Bool.not_false, and_self, and_true, true_and, Mu.put_same, Mu.new_same, Mu.put_nx, Mu.new_nx, Nat.zero_add, Nat.le_refl, Goes_nx, Gets_ok, Rets_nx, Rets_rt, CMul, CDiv, CPow, or_true, true_or, or_self, not_true, not_false_iff, mDm, dctV, popDM, getDM, mDisp, mPrs, kvOf, decide_false, decide_true, Int.reduceToNat, Nat.reducePow, Int.reduceAdd, Int.reduceSub, Int.reduceMul, $xs,*] $[$l]?)
  | `(tactic| dsimp! $[$l:location]?) => `(tactic| simp only [mChain, isiM, sDst2, neD0M, Wn.R.bind_ok, Wn.R.bind_no, Wn.R.cut_ok, Wn.R.cut_no, sThen_nx, sThen_rt, sThen_bk, sThen_ct, mC, mV, mNil, mCons, mTup, mLst, mOp, mUn, mFn, mMt, boolM, mTest, mAnd, mOr, mNot, mIf, mBl, mAndV, mOrV, mNotV, mAndT, mOrT, truM, List.isEmpty_cons, List.isEmpty_nil, addM, subM, mulM, modM, fdivM, powM, negM, ltM, leM, gtM, geM, cmpI, isM', isntM, isNon, getM, dgetM, slM, mSl, mP, mP0, lenM, listM, tupleM, minM, maxM, absM, intM, sortedM, mBm, lstOf, appM, popM, extM, idxM, remLM, sNil, sSeq, sSet, sExpr, sRet, sRetN, sIf, sBrk, sCnt, sPar, sPar3, sAsg, tgN, tgT, unp, stoM, dstoM, sSto, Wk.items, iSeq, iRng1, iRng2, iEnm, mCall, mMeth, sysOf, onSys, mMethK, mMake, mMakeK, makM, mYes, mListR1, mListR2, intBM, startV, seqOf, keyOf, List.getElem?_cons_zero, List.getElem?_cons_succ, List.getElem?_nil, List.set_cons_zero, List.set_cons_succ, List.map_cons, List.map_nil, List.length_cons, List.length_nil, List.cons_append, List.nil_append, List.append_nil, List.replicate, List.flatten_cons, List.flatten_nil, Nat.reduceAdd, Nat.reduceSub, Nat.reduceLeDiff, Nat.reduceLT, Nat.reduceEqDiff, Int.reduceLT, Int.reduceLE, Int.reduceNeg, Int.reducePow, ite_true, ite_false, if_true, if_false, reduceIte, Bool.false_eq_true, Bool.true_eq_false, Bool.not_true, Bool.not_false, and_self, and_true, true_and, Mu.put_same, Mu.new_same, Mu.put_nx, Mu.new_nx, Nat.zero_add, Nat.le_refl, Goes_nx, Gets_ok, Rets_nx, Rets_rt, CMul, CDiv, CPow, or_true, true_or, or_self, not_true, not_false_iff, mDm, dctV, popDM, getDM, mDisp, mPrs, kvOf, decide_false, decide_true, Int.reduceToNat, Nat.reducePow, Int.reduceAdd, Int.reduceSub, Int.reduceMul] $[$l]?)

/-! ### the text by places -/
def top (i : Nat) : Stmt := PySem.Challenge.pw_waitnumbers_k25_texts_of_calls.main.body.getD i (.Pass ⟨0, 0, 0, 0⟩)
abbrev s_BadText___init__ : Stmt := inClass (top 1) 0
abbrev s_show_argument : Stmt := top 10
abbrev s_show_call : Stmt := top 11
abbrev s_is_number_text : Stmt := top 12
abbrev s_is_argument : Stmt := top 13
abbrev s_argument_in : Stmt := top 14
abbrev s_call_in : Stmt := top 15
abbrev s_read_call : Stmt := top 16
abbrev s_show_calls : Stmt := top 17
abbrev s_read_calls : Stmt := top 18
abbrev s__law_bag : Stmt := top 20
abbrev s__law_take : Stmt := top 21
abbrev s__law_of : Stmt := top 22
abbrev s__law_number : Stmt := top 23
abbrev s__law_call : Stmt := top 24
abbrev s__law_text : Stmt := top 25
abbrev s_law : Stmt := top 26
/-! ### what the walk asks of the top -/
structure Tx (K : PySem.W.Frag) (mg : Str → Option Value) : Prop where
  g_ARGUMENTS : mg "ARGUMENTS" = some (.ref (ga K "ARGUMENTS"))
  d_ARGUMENTS_new_source : ∃ a, PySem.W.nsIn K (ga K "ARGUMENTS") "new_source" = some (some (.ref a)) ∧ ∀ H : Hp, SqT K H a (List.map (Dv.v K) [.str "integer"])
  d_ARGUMENTS_new_set : ∃ a, PySem.W.nsIn K (ga K "ARGUMENTS") "new_set" = some (some (.ref a)) ∧ ∀ H : Hp, SqT K H a (List.map (Dv.v K) [.str "integer"])
  d_ARGUMENTS_copy : ∃ a, PySem.W.nsIn K (ga K "ARGUMENTS") "copy" = some (some (.ref a)) ∧ ∀ H : Hp, SqT K H a (List.map (Dv.v K) [.str "integer", .str "integer", .str "optional"])
  d_ARGUMENTS_close : ∃ a, PySem.W.nsIn K (ga K "ARGUMENTS") "close" = some (some (.ref a)) ∧ ∀ H : Hp, SqT K H a (List.map (Dv.v K) [.str "integer", .str "integer"])
  d_ARGUMENTS_fork : ∃ a, PySem.W.nsIn K (ga K "ARGUMENTS") "fork" = some (some (.ref a)) ∧ ∀ H : Hp, SqT K H a (List.map (Dv.v K) [.str "integer"])
  d_ARGUMENTS_end : ∃ a, PySem.W.nsIn K (ga K "ARGUMENTS") "end" = some (some (.ref a)) ∧ ∀ H : Hp, SqT K H a (List.map (Dv.v K) [.str "integer"])
  d_ARGUMENTS_arrive : ∃ a, PySem.W.nsIn K (ga K "ARGUMENTS") "arrive" = some (some (.ref a)) ∧ ∀ H : Hp, SqT K H a (List.map (Dv.v K) [.str "integer", .str "integer", .str "integer"])
  d_ARGUMENTS_finish : ∃ a, PySem.W.nsIn K (ga K "ARGUMENTS") "finish" = some (some (.ref a)) ∧ ∀ H : Hp, SqT K H a (List.map (Dv.v K) [.str "integer", .str "integer"])
  d_ARGUMENTS_read : ∃ a, PySem.W.nsIn K (ga K "ARGUMENTS") "read" = some (some (.ref a)) ∧ ∀ H : Hp, SqT K H a (List.map (Dv.v K) [.str "integer", .str "integer", .str "optional"])
  d_ARGUMENTS_add : ∃ a, PySem.W.nsIn K (ga K "ARGUMENTS") "add" = some (some (.ref a)) ∧ ∀ H : Hp, SqT K H a (List.map (Dv.v K) [.str "integer", .str "integer", .str "integer", .str "integer", .str "word"])
  d_ARGUMENTS_change : ∃ a, PySem.W.nsIn K (ga K "ARGUMENTS") "change" = some (some (.ref a)) ∧ ∀ H : Hp, SqT K H a (List.map (Dv.v K) [.str "integer", .str "integer", .str "integer", .str "word"])
  d_ARGUMENTS_remove : ∃ a, PySem.W.nsIn K (ga K "ARGUMENTS") "remove" = some (some (.ref a)) ∧ ∀ H : Hp, SqT K H a (List.map (Dv.v K) [.str "integer", .str "integer", .str "integer"])
  d_ARGUMENTS_wait : ∃ a, PySem.W.nsIn K (ga K "ARGUMENTS") "wait" = some (some (.ref a)) ∧ ∀ H : Hp, SqT K H a (List.map (Dv.v K) [.str "integer", .str "integer", .str "integer"])
  d_ARGUMENTS_numbers : ∃ a, PySem.W.nsIn K (ga K "ARGUMENTS") "numbers" = some (some (.ref a)) ∧ ∀ H : Hp, SqT K H a (List.map (Dv.v K) [.str "integer"])
  d_ARGUMENTS_same : ∃ a, PySem.W.nsIn K (ga K "ARGUMENTS") "same" = some (some (.ref a)) ∧ ∀ H : Hp, SqT K H a (List.map (Dv.v K) [.str "integer", .str "integer", .str "integer", .str "integer"])
  d_ARGUMENTS_units : ∃ a, PySem.W.nsIn K (ga K "ARGUMENTS") "units" = some (some (.ref a)) ∧ ∀ H : Hp, SqT K H a (List.map (Dv.v K) [.str "integer", .str "integer"])
  g_BadText : mg "BadText" = some (.ref (ga K "BadText"))
  t_DIGITS : ∃ t, mg "DIGITS" = some (.str "0123456789" t)
  t_EDGE : ∃ t, mg "EDGE" = some (.str "edge" t)
  t_LEVEL : ∃ t, mg "LEVEL" = some (.str "level" t)
  i_MOST_DIGITS : ∃ t, mg "MOST_DIGITS" = some (.int 9 t)
  t_NOTHING : ∃ t, mg "NOTHING" = some (.str "-" t)
  t_ONCE : ∃ t, mg "ONCE" = some (.str "once" t)
  g__law_bag : mg "_law_bag" = some (.ref (ga K "_law_bag"))
  g__law_call : mg "_law_call" = some (.ref (ga K "_law_call"))
  g__law_number : mg "_law_number" = some (.ref (ga K "_law_number"))
  g__law_of : mg "_law_of" = some (.ref (ga K "_law_of"))
  g__law_take : mg "_law_take" = some (.ref (ga K "_law_take"))
  g__law_text : mg "_law_text" = some (.ref (ga K "_law_text"))
  free_abs : mg "abs" = none
  free_all : mg "all" = none
  g_argument_in : mg "argument_in" = some (.ref (ga K "argument_in"))
  g_call_in : mg "call_in" = some (.ref (ga K "call_in"))
  free_enumerate : mg "enumerate" = none
  free_int : mg "int" = none
  g_is_argument : mg "is_argument" = some (.ref (ga K "is_argument"))
  g_is_number_text : mg "is_number_text" = some (.ref (ga K "is_number_text"))
  free_isinstance : mg "isinstance" = none
  g_law : mg "law" = some (.ref (ga K "law"))
  free_len : mg "len" = none
  free_list : mg "list" = none
  free_max : mg "max" = none
  free_min : mg "min" = none
  free_range : mg "range" = none
  g_read_call : mg "read_call" = some (.ref (ga K "read_call"))
  g_read_calls : mg "read_calls" = some (.ref (ga K "read_calls"))
  free_repr : mg "repr" = none
  g_show_argument : mg "show_argument" = some (.ref (ga K "show_argument"))
  g_show_call : mg "show_call" = some (.ref (ga K "show_call"))
  g_show_calls : mg "show_calls" = some (.ref (ga K "show_calls"))
  free_str : mg "str" = none
  free_tuple : mg "tuple" = none
  free_zip : mg "zip" = none
  x_BadText : XT K "BadText" "ValueError" "ValueError.__new__" "ValueError.__init__" [.type "ValueError", .type "Exception", .type "BaseException", .type "object"] ["caption", "line"]
  o_BadText : PySem.W.mroIn K (ga K "BadText") (.type "object") = some true
  f_BadText___init__ : FD K "__init__" "BadText.__init__" s_BadText___init__ [] [] (mA "BadText" "__init__" K)
  f_show_argument : FD K "show_argument" "show_argument" s_show_argument [] [] (gA "show_argument" K)
  f_show_call : FD K "show_call" "show_call" s_show_call [] [] (gA "show_call" K)
  f_is_number_text : FD K "is_number_text" "is_number_text" s_is_number_text [] [] (gA "is_number_text" K)
  f_is_argument : FD K "is_argument" "is_argument" s_is_argument [] [] (gA "is_argument" K)
  f_argument_in : FD K "argument_in" "argument_in" s_argument_in [] [] (gA "argument_in" K)
  f_call_in : FD K "call_in" "call_in" s_call_in [] [] (gA "call_in" K)
  f_read_call : FD K "read_call" "read_call" s_read_call [] [] (gA "read_call" K)
  f_show_calls : FD K "show_calls" "show_calls" s_show_calls [] [] (gA "show_calls" K)
  f_read_calls : FD K "read_calls" "read_calls" s_read_calls [] [] (gA "read_calls" K)
  f__law_bag : FD K "_law_bag" "_law_bag" s__law_bag [] [] (gA "_law_bag" K)
  f__law_take : FD K "_law_take" "_law_take" s__law_take [] [] (gA "_law_take" K)
  f__law_of : FD K "_law_of" "_law_of" s__law_of [] [] (gA "_law_of" K)
  f__law_number : FD K "_law_number" "_law_number" s__law_number [] [] (gA "_law_number" K)
  f__law_call : FD K "_law_call" "_law_call" s__law_call [] [] (gA "_law_call" K)
  f__law_text : FD K "_law_text" "_law_text" s__law_text [] [] (gA "_law_text" K)
  f_law : FD K "law" "law" s_law [] [] (gA "law" K)
def fcL : List Fc := [
  .fa (.glo "ARGUMENTS"),
  .dkt "ARGUMENTS" "new_source" [.str "integer"],
  .dkt "ARGUMENTS" "new_set" [.str "integer"],
  .dkt "ARGUMENTS" "copy" [.str "integer", .str "integer", .str "optional"],
  .dkt "ARGUMENTS" "close" [.str "integer", .str "integer"],
  .dkt "ARGUMENTS" "fork" [.str "integer"],
  .dkt "ARGUMENTS" "end" [.str "integer"],
  .dkt "ARGUMENTS" "arrive" [.str "integer", .str "integer", .str "integer"],
  .dkt "ARGUMENTS" "finish" [.str "integer", .str "integer"],
  .dkt "ARGUMENTS" "read" [.str "integer", .str "integer", .str "optional"],
  .dkt "ARGUMENTS" "add" [.str "integer", .str "integer", .str "integer", .str "integer", .str "word"],
  .dkt "ARGUMENTS" "change" [.str "integer", .str "integer", .str "integer", .str "word"],
  .dkt "ARGUMENTS" "remove" [.str "integer", .str "integer", .str "integer"],
  .dkt "ARGUMENTS" "wait" [.str "integer", .str "integer", .str "integer"],
  .dkt "ARGUMENTS" "numbers" [.str "integer"],
  .dkt "ARGUMENTS" "same" [.str "integer", .str "integer", .str "integer", .str "integer"],
  .dkt "ARGUMENTS" "units" [.str "integer", .str "integer"],
  .fa (.glo "BadText"),
  .fa (.str "DIGITS" "0123456789"),
  .fa (.str "EDGE" "edge"),
  .fa (.str "LEVEL" "level"),
  .fa (.int "MOST_DIGITS" 9),
  .fa (.str "NOTHING" "-"),
  .fa (.str "ONCE" "once"),
  .fa (.glo "_law_bag"),
  .fa (.glo "_law_call"),
  .fa (.glo "_law_number"),
  .fa (.glo "_law_of"),
  .fa (.glo "_law_take"),
  .fa (.glo "_law_text"),
  .fa (.free "abs"),
  .fa (.free "all"),
  .fa (.glo "argument_in"),
  .fa (.glo "call_in"),
  .fa (.free "enumerate"),
  .fa (.free "int"),
  .fa (.glo "is_argument"),
  .fa (.glo "is_number_text"),
  .fa (.free "isinstance"),
  .fa (.glo "law"),
  .fa (.free "len"),
  .fa (.free "list"),
  .fa (.free "max"),
  .fa (.free "min"),
  .fa (.free "range"),
  .fa (.glo "read_call"),
  .fa (.glo "read_calls"),
  .fa (.free "repr"),
  .fa (.glo "show_argument"),
  .fa (.glo "show_call"),
  .fa (.glo "show_calls"),
  .fa (.free "str"),
  .fa (.free "tuple"),
  .fa (.free "zip"),
  .exc "BadText" [.type "ValueError", .type "Exception", .type "BaseException", .type "object"] "ValueError.__new__" ["caption", "line"],
  .mro "BadText"]
def fwL : List DefW := [
  ⟨(mA "BadText" "__init__"), "__init__", "BadText.__init__", s_BadText___init__, [], []⟩,
  ⟨(gA "show_argument"), "show_argument", "show_argument", s_show_argument, [], []⟩,
  ⟨(gA "show_call"), "show_call", "show_call", s_show_call, [], []⟩,
  ⟨(gA "is_number_text"), "is_number_text", "is_number_text", s_is_number_text, [], []⟩,
  ⟨(gA "is_argument"), "is_argument", "is_argument", s_is_argument, [], []⟩,
  ⟨(gA "argument_in"), "argument_in", "argument_in", s_argument_in, [], []⟩,
  ⟨(gA "call_in"), "call_in", "call_in", s_call_in, [], []⟩,
  ⟨(gA "read_call"), "read_call", "read_call", s_read_call, [], []⟩,
  ⟨(gA "show_calls"), "show_calls", "show_calls", s_show_calls, [], []⟩,
  ⟨(gA "read_calls"), "read_calls", "read_calls", s_read_calls, [], []⟩,
  ⟨(gA "_law_bag"), "_law_bag", "_law_bag", s__law_bag, [], []⟩,
  ⟨(gA "_law_take"), "_law_take", "_law_take", s__law_take, [], []⟩,
  ⟨(gA "_law_of"), "_law_of", "_law_of", s__law_of, [], []⟩,
  ⟨(gA "_law_number"), "_law_number", "_law_number", s__law_number, [], []⟩,
  ⟨(gA "_law_call"), "_law_call", "_law_call", s__law_call, [], []⟩,
  ⟨(gA "_law_text"), "_law_text", "_law_text", s__law_text, [], []⟩,
  ⟨(gA "law"), "law", "law", s_law, [], []⟩]
def tsL : List Tab := [((fun K => ga K "ARGUMENTS"), ["new_source", "new_set", "copy", "close", "fork", "end", "arrive", "finish", "read", "add", "change", "remove", "wait", "numbers", "same", "units"])]
def tfL : List Defn := []
theorem tx_of {K : PySem.W.Frag} {mg : Str → Option Value} {w : World} {h : Heap} (X : K.In h) (G : h.Ns mainGlobals mg) (c : SaysW fcL fwL tsL tfL w h K) : Tx K mg where
  g_ARGUMENTS := glo_ok X G (c.fact 0 (f := .fa (.glo "ARGUMENTS")))
  d_ARGUMENTS_new_source := dktB_ok (c.fact 1 (f := .dkt "ARGUMENTS" "new_source" [.str "integer"]))
  d_ARGUMENTS_new_set := dktB_ok (c.fact 2 (f := .dkt "ARGUMENTS" "new_set" [.str "integer"]))
  d_ARGUMENTS_copy := dktB_ok (c.fact 3 (f := .dkt "ARGUMENTS" "copy" [.str "integer", .str "integer", .str "optional"]))
  d_ARGUMENTS_close := dktB_ok (c.fact 4 (f := .dkt "ARGUMENTS" "close" [.str "integer", .str "integer"]))
  d_ARGUMENTS_fork := dktB_ok (c.fact 5 (f := .dkt "ARGUMENTS" "fork" [.str "integer"]))
  d_ARGUMENTS_end := dktB_ok (c.fact 6 (f := .dkt "ARGUMENTS" "end" [.str "integer"]))
  d_ARGUMENTS_arrive := dktB_ok (c.fact 7 (f := .dkt "ARGUMENTS" "arrive" [.str "integer", .str "integer", .str "integer"]))
  d_ARGUMENTS_finish := dktB_ok (c.fact 8 (f := .dkt "ARGUMENTS" "finish" [.str "integer", .str "integer"]))
  d_ARGUMENTS_read := dktB_ok (c.fact 9 (f := .dkt "ARGUMENTS" "read" [.str "integer", .str "integer", .str "optional"]))
  d_ARGUMENTS_add := dktB_ok (c.fact 10 (f := .dkt "ARGUMENTS" "add" [.str "integer", .str "integer", .str "integer", .str "integer", .str "word"]))
  d_ARGUMENTS_change := dktB_ok (c.fact 11 (f := .dkt "ARGUMENTS" "change" [.str "integer", .str "integer", .str "integer", .str "word"]))
  d_ARGUMENTS_remove := dktB_ok (c.fact 12 (f := .dkt "ARGUMENTS" "remove" [.str "integer", .str "integer", .str "integer"]))
  d_ARGUMENTS_wait := dktB_ok (c.fact 13 (f := .dkt "ARGUMENTS" "wait" [.str "integer", .str "integer", .str "integer"]))
  d_ARGUMENTS_numbers := dktB_ok (c.fact 14 (f := .dkt "ARGUMENTS" "numbers" [.str "integer"]))
  d_ARGUMENTS_same := dktB_ok (c.fact 15 (f := .dkt "ARGUMENTS" "same" [.str "integer", .str "integer", .str "integer", .str "integer"]))
  d_ARGUMENTS_units := dktB_ok (c.fact 16 (f := .dkt "ARGUMENTS" "units" [.str "integer", .str "integer"]))
  g_BadText := glo_ok X G (c.fact 17 (f := .fa (.glo "BadText")))
  t_DIGITS := str_ok X G (c.fact 18 (f := .fa (.str "DIGITS" "0123456789")))
  t_EDGE := str_ok X G (c.fact 19 (f := .fa (.str "EDGE" "edge")))
  t_LEVEL := str_ok X G (c.fact 20 (f := .fa (.str "LEVEL" "level")))
  i_MOST_DIGITS := int_ok X G (c.fact 21 (f := .fa (.int "MOST_DIGITS" 9)))
  t_NOTHING := str_ok X G (c.fact 22 (f := .fa (.str "NOTHING" "-")))
  t_ONCE := str_ok X G (c.fact 23 (f := .fa (.str "ONCE" "once")))
  g__law_bag := glo_ok X G (c.fact 24 (f := .fa (.glo "_law_bag")))
  g__law_call := glo_ok X G (c.fact 25 (f := .fa (.glo "_law_call")))
  g__law_number := glo_ok X G (c.fact 26 (f := .fa (.glo "_law_number")))
  g__law_of := glo_ok X G (c.fact 27 (f := .fa (.glo "_law_of")))
  g__law_take := glo_ok X G (c.fact 28 (f := .fa (.glo "_law_take")))
  g__law_text := glo_ok X G (c.fact 29 (f := .fa (.glo "_law_text")))
  free_abs := free_ok X G (c.fact 30 (f := .fa (.free "abs")))
  free_all := free_ok X G (c.fact 31 (f := .fa (.free "all")))
  g_argument_in := glo_ok X G (c.fact 32 (f := .fa (.glo "argument_in")))
  g_call_in := glo_ok X G (c.fact 33 (f := .fa (.glo "call_in")))
  free_enumerate := free_ok X G (c.fact 34 (f := .fa (.free "enumerate")))
  free_int := free_ok X G (c.fact 35 (f := .fa (.free "int")))
  g_is_argument := glo_ok X G (c.fact 36 (f := .fa (.glo "is_argument")))
  g_is_number_text := glo_ok X G (c.fact 37 (f := .fa (.glo "is_number_text")))
  free_isinstance := free_ok X G (c.fact 38 (f := .fa (.free "isinstance")))
  g_law := glo_ok X G (c.fact 39 (f := .fa (.glo "law")))
  free_len := free_ok X G (c.fact 40 (f := .fa (.free "len")))
  free_list := free_ok X G (c.fact 41 (f := .fa (.free "list")))
  free_max := free_ok X G (c.fact 42 (f := .fa (.free "max")))
  free_min := free_ok X G (c.fact 43 (f := .fa (.free "min")))
  free_range := free_ok X G (c.fact 44 (f := .fa (.free "range")))
  g_read_call := glo_ok X G (c.fact 45 (f := .fa (.glo "read_call")))
  g_read_calls := glo_ok X G (c.fact 46 (f := .fa (.glo "read_calls")))
  free_repr := free_ok X G (c.fact 47 (f := .fa (.free "repr")))
  g_show_argument := glo_ok X G (c.fact 48 (f := .fa (.glo "show_argument")))
  g_show_call := glo_ok X G (c.fact 49 (f := .fa (.glo "show_call")))
  g_show_calls := glo_ok X G (c.fact 50 (f := .fa (.glo "show_calls")))
  free_str := free_ok X G (c.fact 51 (f := .fa (.free "str")))
  free_tuple := free_ok X G (c.fact 52 (f := .fa (.free "tuple")))
  free_zip := free_ok X G (c.fact 53 (f := .fa (.free "zip")))
  x_BadText := exc_okW PySem.F.excBase_ValueError PySem.F.store_ValueError (c.fact 54 (f := .exc "BadText" [.type "ValueError", .type "Exception", .type "BaseException", .type "object"] "ValueError.__new__" ["caption", "line"]))
  o_BadText := of_decide_eq_true (c.fact 55 (f := .mro "BadText"))
  f_BadText___init__ := c.def_ 0 (d := ⟨(mA "BadText" "__init__"), "__init__", "BadText.__init__", s_BadText___init__, [], []⟩)
  f_show_argument := c.def_ 1 (d := ⟨(gA "show_argument"), "show_argument", "show_argument", s_show_argument, [], []⟩)
  f_show_call := c.def_ 2 (d := ⟨(gA "show_call"), "show_call", "show_call", s_show_call, [], []⟩)
  f_is_number_text := c.def_ 3 (d := ⟨(gA "is_number_text"), "is_number_text", "is_number_text", s_is_number_text, [], []⟩)
  f_is_argument := c.def_ 4 (d := ⟨(gA "is_argument"), "is_argument", "is_argument", s_is_argument, [], []⟩)
  f_argument_in := c.def_ 5 (d := ⟨(gA "argument_in"), "argument_in", "argument_in", s_argument_in, [], []⟩)
  f_call_in := c.def_ 6 (d := ⟨(gA "call_in"), "call_in", "call_in", s_call_in, [], []⟩)
  f_read_call := c.def_ 7 (d := ⟨(gA "read_call"), "read_call", "read_call", s_read_call, [], []⟩)
  f_show_calls := c.def_ 8 (d := ⟨(gA "show_calls"), "show_calls", "show_calls", s_show_calls, [], []⟩)
  f_read_calls := c.def_ 9 (d := ⟨(gA "read_calls"), "read_calls", "read_calls", s_read_calls, [], []⟩)
  f__law_bag := c.def_ 10 (d := ⟨(gA "_law_bag"), "_law_bag", "_law_bag", s__law_bag, [], []⟩)
  f__law_take := c.def_ 11 (d := ⟨(gA "_law_take"), "_law_take", "_law_take", s__law_take, [], []⟩)
  f__law_of := c.def_ 12 (d := ⟨(gA "_law_of"), "_law_of", "_law_of", s__law_of, [], []⟩)
  f__law_number := c.def_ 13 (d := ⟨(gA "_law_number"), "_law_number", "_law_number", s__law_number, [], []⟩)
  f__law_call := c.def_ 14 (d := ⟨(gA "_law_call"), "_law_call", "_law_call", s__law_call, [], []⟩)
  f__law_text := c.def_ 15 (d := ⟨(gA "_law_text"), "_law_text", "_law_text", s__law_text, [], []⟩)
  f_law := c.def_ 16 (d := ⟨(gA "law"), "law", "law", s_law, [], []⟩)
section
variable {K : PySem.W.Frag} {mg : Str → Option Value}
end
/-! ### the head: the top is run -/
abbrev RwH : PySem.W.OpenRow := PySem.W.OpenLaw.row PySem.Challenge.rw_waitnumbers_k25_texts_of_calls
abbrev hk : PySem.W.Hook := hookW 6 fcL fwL tsL tfL
def obs (s : PySem.W.SharedT) : AlW := obsW 6 fcL fwL tsL tfL (HandSHeadRun.getT s)
theorem obs_eq (s : PySem.W.SharedT) : obs s = hk.obs s.abs := obsW_eq (HandSHeadRun.getT_eq s)
def loose0 : List Str := ["__name__", "BadText", "LEVEL", "EDGE", "ONCE", "ARGUMENTS", "DIGITS", "MOST_DIGITS", "NOTHING", "show_argument", "show_call", "is_number_text", "is_argument", "argument_in", "call_in", "read_call", "show_calls", "read_calls", "_law_bag", "_law_take", "_law_of", "_law_number", "_law_call", "_law_text"]
def loose : List Str := loose0
theorem run_lst_false : RunB RwH 60000 false (fun w s => (lookP RwH w s, seenP RwH (PySem.W.view RwH.prog [26]) loose w s, tbP 6 tsL tfL w s)) (fun w => (true, PySem.W.openGood (PySem.W.view RwH.prog [26]) loose, (valT [] tsL w, true))) := by
  intro w os
  kernel_rfl
theorem run_lst_true : RunB RwH 60000 true (fun w s => (lookP RwH w s, seenP RwH (PySem.W.view RwH.prog [26]) loose w s, tbP 6 tsL tfL w s)) (fun w => (true, PySem.W.openGood (PySem.W.view RwH.prog [26]) loose, (valT [] tsL w, true))) := by
  intro w os
  kernel_rfl
theorem run_lst : RunP RwH 60000 (fun w s => (lookP RwH w s, seenP RwH (PySem.W.view RwH.prog [26]) loose w s, tbP 6 tsL tfL w s)) (fun w => (true, PySem.W.openGood (PySem.W.view RwH.prog [26]) loose, (valT [] tsL w, true))) := RunB.both run_lst_false run_lst_true
theorem run_look : RunP RwH 60000 (lookP RwH) (fun _ => true) := run_lst.map fun _ p => p.1
theorem run_seen : RunP RwH 60000 (seenP RwH (PySem.W.view RwH.prog [26]) loose) (fun _ => PySem.W.openGood (PySem.W.view RwH.prog [26]) loose) := run_lst.map fun _ p => p.2.1
theorem run_tab : RunP RwH 60000 (tbP 6 tsL tfL) (fun w => (valT [] tsL w, true)) := run_lst.map fun _ p => p.2.2
theorem run_fc0_false : RunB RwH 60000 false (fcP 6 fcL) (fun _ => true) := by
  intro w os
  kernel_rfl
theorem run_fc0_true : RunB RwH 60000 true (fcP 6 fcL) (fun _ => true) := by
  intro w os
  kernel_rfl
theorem run_fc0 : RunP RwH 60000 (fcP 6 fcL) (fun _ => true) := RunB.both run_fc0_false run_fc0_true
theorem run_fw0_false : RunB RwH 60000 false (fwP 6 fwL) (fun _ => (true, (fwL).map DefW.val)) := by
  intro w os
  kernel_rfl
theorem run_fw0_true : RunB RwH 60000 true (fwP 6 fwL) (fun _ => (true, (fwL).map DefW.val)) := by
  intro w os
  kernel_rfl
theorem run_fw0 : RunP RwH 60000 (fwP 6 fwL) (fun _ => (true, (fwL).map DefW.val)) := RunB.both run_fw0_false run_fw0_true
theorem run (w : World) : HandSHeadRun.RunEq RwH (PySem.W.view RwH.prog [26]) hk obs 60000 loose w := run_of (H := hk) run_look run_seen (ob_of run_tab run_fc0 run_fw0) w
/-! ### texts at the law's level: str(x), sep.join(..) -/
/-- str of a number or a text -/
def strM : List Val → Mu → R Val
  | [.int i], μ => if i.natAbs ≤ 1000000000000000000000 then .ok (.str (toString i)) μ else .no
  | [.str a], μ => .ok (.str a) μ
  | _, _ => .no
theorem log2_small {n : Nat} (h : n ≤ 1000000000000000000000) : n.log2 < 1920 := by
  by_cases z : n = 0
  · subst z; decide
  · exact (Nat.log2_lt z).mpr (Nat.lt_of_le_of_lt h (Nat.lt_of_lt_of_le (show 1000000000000000000000 < 2 ^ 80 by decide) (Nat.pow_le_pow_right (by decide) (by decide))))
theorem call_strIS {X : Cx} : CallR X (.type "str") (fun xs H Q => (∃ i, xs = [.int i] ∧ i.natAbs.log2 < 1920 ∧ Q (.str (toString i)) H) ∨ ∃ a, xs = [.str a] ∧ Q (.str a) H) := fun pins s σ H vs us Q I r h => by
  rcases h with h | h
  · exact call_str_int pins s σ H vs us Q I r h
  · obtain ⟨a, rfl, q⟩ := h
    cases r with
    | cons r1 r2 =>
      cases r2
      obtain ⟨t, rfl⟩ := _root_.id r1
      exact PySem.P.str_of_str ⟨.str a, H, I, ⟨t, rfl⟩, q⟩
theorem p_str {K : PySem.W.Frag} : PrimA K (fun xs H Q => (∃ i : Int, xs = [.int i] ∧ i.natAbs.log2 < 1920 ∧ Q (.str (toString i)) H) ∨ ∃ a, xs = [.str a] ∧ Q (.str a) H) strM := by
  intro E w μ H xs us Q S r hp
  unfold strM at hp
  split at hp
  · cases r with
    | cons r1 r2 =>
      cases r2
      cases r1
      split at hp
      · rename_i hi
        exact .inl ⟨_, rfl, log2_small hi, hp w H _ S (.str _) .refl⟩
      · exact hp.elim
  · cases r with
    | cons r1 r2 =>
      cases r2
      cases r1
      exact .inr ⟨_, rfl, hp w H _ S (.str _) .refl⟩
  · exact hp.elim
/-- texts alone -/
def jStrV : List Val → Option (List Str)
  | [] => some []
  | .str a :: vs => (jStrV vs).map (a :: ·)
  | _ :: _ => none
theorem jStrV_rel {K : PySem.W.Frag} {ad : Adr} {b : Nat} {H : Hp} : ∀ {vs : List Val} {us : List V} {ys : List Str}, jStrV vs = some ys → VRs K ad b H vs us → us = ys.map V.str
  | [], _, _, h, r => by cases h; cases r; rfl
  | v :: vs, us, ys, h, r => by
    cases r with
    | cons r1 r2 =>
      cases v with
      | str a =>
        obtain ⟨zs, h1, rfl⟩ := Option.map_eq_some_iff.mp (show (jStrV vs).map (a :: ·) = some ys from h)
        cases r1
        rw [jStrV_rel h1 r2]
        rfl
      | _ => cases h
def joinFitM (a : Str) (ys : List Str) : Prop := (ys.map (·.length)).sum + ys.length * a.length ≤ 16777216
instance (a : Str) (ys : List Str) : Decidable (joinFitM a ys) := by unfold joinFitM; infer_instance
/-- what a list or a tuple holds -/
def jItsV : Val → Mu → Option (List Val)
  | .tup vs, _ => some vs
  | .loc n, μ => seqOf μ n
  | _, _ => none
def joinR : Val → Val → Mu → R Val
  | .str a, y, μ => match (jItsV y μ).bind jStrV with
    | some ys => if joinFitM a ys then .ok (.str (Txt.join a ys)) μ else .no
    | none => .no
  | _, _, _ => .no
theorem jItsV_rel {K : PySem.W.Frag} {w : Wt} {μ : Mu} {H : Hp} (S : Sim K w μ H) {y : Val} {u : V} {vs : List Val} (h : jItsV y μ = some vs) (r : VR K w.ad μ.nx H y u) : ∃ p us, u = .ref p ∧ (SqL K H p us ∨ SqT K H p us) ∧ VRs K w.ad μ.nx H vs us := by
  cases y with
  | tup l =>
    cases h
    obtain ⟨a, us, rfl, hq, rq⟩ := vr_tup r
    exact ⟨a, us, rfl, .inr hq, rq⟩
  | loc n =>
    obtain ⟨us, hq, rq⟩ := seqOf_sq S h
    cases r
    exact ⟨_, us, rfl, .inl hq, rq⟩
  | _ => cases h
section
variable {X : Cx} {E : XK} {o e : Expr} {mo me : ME}
theorem pm_join {apos pos : Pos} {a : Str} (ho : PM X E o (mC (.str a))) (he : PM X E e me) (hs : starEach [e] X.env = [(false, eval e X.env)] := by rfl) (hbase : attributeBase o "join" X.env (eval o X.env) = eval o X.env := by rfl) (hline : (apos.endLine == pos.line) = true := by rfl) :
    PM X E (.Call (.Attribute o "join" apos) [e] [] pos) (mOp joinR (mC (.str a)) me) :=
  PE.imp (pe_join ho he hs hbase hline) fun σ H Q ⟨w, ρ, μ, S, EN, hp⟩ => ⟨w, ρ, μ, S, EN, fun w1 H1 u1 S1 r1 g1 => by
    have h1 := Post.grow (show Post X.K (relE X.K) E w μ.nx H Q ((me ρ μ).bind fun y μ => joinR (.str a) y μ) from hp) g1
    cases r1
    refine ⟨⟨a, rfl⟩, w1, ρ, μ, S1, EN.grow g1, Post.bind h1 fun y μ2 w2 H2 u2 S2 r2 g2 h2 => ?_⟩
    have h3 : Post X.K (relE X.K) E w2 μ2.nx H2 Q (match (jItsV y μ2).bind jStrV with
      | some ys => if joinFitM a ys then .ok (.str (Txt.join a ys)) μ2 else .no
      | none => .no) := h2
    cases hy : (jItsV y μ2).bind jStrV with
    | none =>
      rw [hy] at h3
      exact h3.elim
    | some ys =>
      rw [hy] at h3
      obtain ⟨vs, e1, e2⟩ := Option.bind_eq_some_iff.mp hy
      obtain ⟨p, us, rfl, hq, rq⟩ := jItsV_rel S2 e1 r2
      have eu := jStrV_rel e2 rq
      subst eu
      by_cases hf : joinFitM a ys
      · have h4 : Post X.K (relE X.K) E w2 μ2.nx H2 Q (.ok (.str (Txt.join a ys)) μ2) := by
          have h5 : Post X.K (relE X.K) E w2 μ2.nx H2 Q (if joinFitM a ys then .ok (.str (Txt.join a ys)) μ2 else .no) := h3
          rw [if_pos hf] at h5
          exact h5
        exact ⟨a, p, ys, rfl, rfl, hq, hf, h4 w2 H2 _ S2 (.str _) .refl⟩
      · have h5 : Post X.K (relE X.K) E w2 μ2.nx H2 Q (if joinFitM a ys then .ok (.str (Txt.join a ys)) μ2 else .no) := h3
        rw [if_neg hf] at h5
        exact h5.elim⟩
end

/-! ### places of a list (as in P204) -/
/-- the values at these places -/
def pick {α : Type} : List Nat → List α → List α
  | [], _ => []
  | i :: is, l => match l[i]? with
    | some x => x :: pick is l
    | none => []
theorem pick_vals {zs : List V} {ws : List Value} (r : Vals zs ws) : ∀ is : List Nat, Vals (pick is zs) (pick is ws)
  | [] => .nil
  | i :: is => by
    unfold pick
    cases e : zs[i]? with
    | some x =>
      obtain ⟨u, e1, e2⟩ := r.get e
      rw [e1]
      exact .cons e2 (pick_vals r is)
    | none =>
      have : ws[i]? = none := by
        rw [List.getElem?_eq_none_iff] at e ⊢
        have := Vals.length r
        omega
      rw [this]
      exact .nil
theorem pick_vrs {K : PySem.W.Frag} {ad : Adr} {b : Nat} {H : Hp} {xs : List Val} {us : List V} (r : VRs K ad b H xs us) : ∀ is : List Nat, VRs K ad b H (pick is xs) (pick is us)
  | [] => .nil
  | i :: is => by
    unfold pick
    cases e : xs[i]? with
    | some x =>
      obtain ⟨u, e1, e2⟩ := r.get i x e
      rw [e1]
      exact .cons e2 (pick_vrs r is)
    | none =>
      have : us[i]? = none := by
        rw [List.getElem?_eq_none_iff] at e ⊢
        have := r.length
        omega
      rw [this]
      exact .nil

/-! ### a def bound by names alone (as in P61) -/
section
variable {K : PySem.W.Frag}
theorem kbindsN {x qual : Str} {params : Arguments} {body : List Stmt} {scope : Scope} {f : Addr} {fd : FuncData} {ps : List Str} (F : FunD K x qual params body scope [] [] f fd) (n : Nat) (ks : List Str) (g : {α : Type} → List α → List α → List α)
    (hrel : ∀ {vs zs : List V} {us ws : List Value}, Vals vs us → Vals zs ws → Vals (g vs zs) (g us ws))
    (h : ∀ (kV doc pm : Value) (an : Option Addr) (cdv ct : Value) (us ws : List Value), us.length = n → ws.length = ks.length → bindArgs (PySem.W.fnOf x qual params body scope .none kV doc pm an cdv ct) ⟨us, ks.zip ws⟩ = pure (ps.zip (g us ws))) :
    KBn K fd ps n ks (fun us ws => g us ws) (fun vs zs => g vs zs) := by
  obtain ⟨oc, od, dV, kV, doc, pm, an, cdv, ct, osl, rfl, lk, hcd, hD, hK⟩ := F.ex
  rcases hD with ⟨_, rfl⟩ | ⟨e, _⟩
  · exact ⟨fun s us ws X l1 l2 => .of_eq (h kV doc pm an cdv ct us ws l1 l2), fun r1 r2 => hrel r1 r2⟩
  · exact absurd rfl e
end

/-! ### a def at the law's level that is called by keywords alone -/
def mCallK (n l : Nat) (is : List Nat) (d : List Val → Mu → R Val) (m : MA) : ME := fun ρ μ => (m ρ μ).bind fun zs μ => if zs.length = l ∧ (pick is zs).length = n then (d (pick is zs) μ).cut else .no
section
variable {X : Cx} {E : XK} {CX : CXT} {k n nn : Nat} {f : Addr} {fd : FuncData} {ps ks : List Str} {sp : Sp} {x : Str} {p pos : Pos} {kws : List Keyword} {tk : TA} {g : List Value → List Value → List Value} {gV : List V → List V → List V} {mk : MA} {d : List Val → Mu → R Val}
theorem run_gN {pins : List (Addr × Obj)} {σ : L2.St} {H : Hp} {s : Shared} {Q : VK} {us ws : List Value} {vs zs : List V} (F : FnG X.prog X.w X.K X.mg X.base CX k f fd ps sp) (hgd : X.A.guards = some []) (hr : Room k X.A) (hb : KBn X.K fd ps nn ks g gV) (hx : Passes CX X E)
    (I : Inv X pins σ H s) (r : Vals vs us) (rz : Vals zs ws) (l1 : vs.length = nn) (l2 : zs.length = ks.length) (h : sp (gV vs zs) H Q E) : wpAny (model X.prog X.w) X.A (call (.ref f) us (ks.zip ws)) (EP X pins σ Q) X.xe s := by
  have both := hb.rel r rz
  refine wpAny_call (codeAny_mono (F.run X.A X.stack s H ⟨us, ks.zip ws⟩ (g us ws) (gV vs zs) Q E hgd hr I.env0 (hb.to s us ws I.kIn (r.length.symm.trans l1) (rz.length.symm.trans l2)) both h) fun out s' done => ?_)
  cases out with
  | error z => exact hx pins σ H s z s' I done
  | ok fl =>
    cases fl with
    | ret u => exact I.after done
    | next => exact False.elim done
    | brk => exact False.elim done
    | cont => exact False.elim done
theorem pe_gK0 (F : FnG X.prog X.w X.K X.mg X.base CX k f fd ps sp) (hgd : X.A.guards = some []) (hr : Room k X.A) (hg : Gl X x) (hm : X.mg x = some (.ref f)) (hk : PySem.W.keepIn X.K (.ref f) = true) (hb : KBn X.K fd ps 0 ks g gV) (hx : Passes CX X E) (hkw : PK X kws tk)
    (hall : (backToKw pos (keywordEach kws X.env)).all (·.1.isSome) = true := by rfl) (hks : (backToKw pos (keywordEach kws X.env)).filterMap (·.1) = ks := by rfl)
    (hdb : (x == ("__debug__" : Str)) = false := by decide) (hpl : ((backTo pos (starEach [] X.env)).any (·.1) || (backToKw pos (keywordEach kws X.env)).any (·.1.isNone)) = false := by rfl) :
    PE X (.Call (.Name x p) [] kws pos) (fun σ H Q => tk σ H fun zs H2 => zs.length = ks.length ∧ sp (gV [] zs) H2 Q E) := by
  refine ⟨fun pins s σ H Q I h => ?_⟩
  refine wpAny_Call_Name_kw (ld_glob I hg hm ?_ hdb)
  refine PySem.W.callWith_KW0 (first := []) (h₀ := X.base) I.ok.mod.kin hk hall (thn (hkw.run pos pins s σ H _ I h) fun ws s3 ⟨zs, H3, I3, rz, l2, q3⟩ => ⟨I3.kIn, ?_⟩) hpl
  rw [hks]
  exact run_gN (us := []) (vs := []) F hgd hr hb hx I3 .nil rz rfl l2 q3
theorem pm_callK0 {is : List Nat} (F : FnG X.prog X.w X.K X.mg X.base CX0 k f fd ps (spM X.K n d)) (hgd : X.A.guards = some []) (hr : Room k X.A) (hg : Gl X x) (hm : X.mg x = some (.ref f)) (hk : PySem.W.keepIn X.K (.ref f) = true) (hb : KBn X.K fd ps 0 ks g fun _ zs => pick is zs) (hkw : PMK X E kws mk)
    (hall : (backToKw pos (keywordEach kws X.env)).all (·.1.isSome) = true := by rfl) (hks : (backToKw pos (keywordEach kws X.env)).filterMap (·.1) = ks := by rfl)
    (hdb : (x == ("__debug__" : Str)) = false := by decide) (hpl : ((backTo pos (starEach [] X.env)).any (·.1) || (backToKw pos (keywordEach kws X.env)).any (·.1.isNone)) = false := by rfl) :
    PM X E (.Call (.Name x p) [] kws pos) (mCallK n ks.length is d mk) :=
  PE.imp (pe_gK0 F hgd hr hg hm hk hb (E := E0') pass0 hkw hall hks hdb hpl) fun σ H Q ⟨w, ρ, μ, S, EN, hp⟩ => ⟨w, ρ, μ, S, EN, Post.bind hp fun zs μ1 w1 H1 us S1 r1 g1 h1 => by
    split at h1
    · rename_i hl
      refine ⟨by rw [r1.length]; exact hl.1, ?_⟩
      have rp := pick_vrs r1 is
      refine ⟨rp.length.trans hl.2, w1, μ1, _, S1, rp, ?_⟩
      cases hd : d (pick is zs) μ1 with
      | no => rw [hd] at h1; exact h1
      | er c fs μ2 => rw [hd] at h1; exact h1.elim
      | ok a μ2 => rw [hd] at h1; exact h1
    · exact h1.elim⟩
end
section
variable {K : PySem.W.Frag} {mg : Str → Option Value}
end

/-! ### more of texts at the law's level: split, int(text), text[i], the signs of a text -/
theorem vrs_strs {K : PySem.W.Frag} {ad : Adr} {b : Nat} {H : Hp} : ∀ l : List Str, VRs K ad b H (l.map Val.str) (l.map V.str)
  | [] => .nil
  | a :: l => .cons (.str a) (vrs_strs l)
def splM (b : Str) : Val → Mu → R Val
  | .str a, μ => if a.length ≤ 1000000 ∧ (b.length == 0) = false then .ok (.loc μ.nx) (μ.new (.lst ((Txt.split a b).map Val.str))) else .no
  | _, _ => .no
def intSM : List Val → Mu → R Val
  | [.str a], μ => match PySem.intText? a with
    | some n => if a.length ≤ 640 then .ok (.int n) μ else .no
    | none => .no
  | _, _ => .no
theorem p_intS {K : PySem.W.Frag} : PrimA K (fun xs H Q => ∃ a n, xs = [.str a] ∧ PySem.intText? a = some n ∧ a.length ≤ 640 ∧ Q (.int n) H) intSM := by
  intro E w μ H xs us Q S r hp
  unfold intSM at hp
  split at hp
  · cases r with
    | cons r1 r2 =>
      cases r2
      cases r1
      split at hp
      · rename_i n hn
        split at hp
        · rename_i hl
          exact ⟨_, n, rfl, hn, hl, hp w H _ S (.int _) .refl⟩
        · exact hp.elim
      · exact hp.elim
  · exact hp.elim
/-- a sign as a text -/
def sgn (c : Nat) : Str := ⟨#[c]⟩
def ixSM : Val → Val → Mu → R Val
  | .str z, .int i, μ => match z.cps[i.toNat]? with
    | some c => if 0 ≤ i ∧ i < z.length ∧ z.length ≤ 1000000 then .ok (.str (sgn c)) μ else .no
    | none => .no
  | _, _, _ => .no
def inSgM : Val → Val → Mu → R Val
  | .str x, .str z, μ => match x.cps.toList with
    | [c] => .ok (.bl (decide (c ∈ z.cps.toList))) μ
    | _ => .no
  | _, _, _ => .no
/-- the signs of a text, as texts -/
def sgns (x : Str) : List Val := x.cps.toList.map fun c => .str (sgn c)
def iStrM (m : ME) : MI := fun ρ μ => (m ρ μ).bind fun v μ => match v with
  | .str x => .ok (.seq (.tup (sgns x))) μ
  | _ => .no
theorem relI_str {K : PySem.W.Frag} {w : Wt} {b : Nat} {H : Hp} {x : Str} : relI K w b H (.seq (.tup (sgns x))) (Its x) := by
  intro w' μ' H' g S vs hv i
  have hv : some (sgns x) = some vs := hv
  cases hv
  have e : (sgns x)[i]? = (x.cps[i]?).map fun c => .str (sgn c) := by
    unfold sgns
    rw [List.getElem?_map, Array.getElem?_toList]
  rw [e]
  refine ⟨fun h => ?_, fun v h => ?_⟩
  · have h := Option.map_eq_none_iff.mp h
    exact Array.getElem?_eq_none_iff.mp h
  · obtain ⟨c, h1, rfl⟩ := Option.map_eq_some_iff.mp h
    refine ⟨(Array.getElem?_eq_some_iff.mp h1).1, fun y H2 q => ?_⟩
    obtain ⟨rfl, c', h2, rfl⟩ := q
    rw [h1] at h2
    cases h2
    exact ⟨w', S, .str _, .refl⟩
section
variable {X : Cx} {E : XK} {o e tg a b : Expr} {mo me ma mb : ME} {pos : Pos}
theorem pmi_str (h : PM X E e me) : PMI X E tg e (iStrM me) :=
  PI.imp (pi_str h) fun σ H R ⟨w, ρ, μ, S, EN, hp⟩ => ⟨w, ρ, μ, S, EN, Post.bind hp fun x μ1 w1 H1 u1 S1 r1 g1 h1 => by
    cases x with
    | str x =>
      cases r1
      exact ⟨x, rfl, h1 w1 H1 _ S1 relI_str .refl⟩
    | _ => exact h1.elim⟩
theorem pm_split {apos pos : Pos} {z : Str} (ho : PM X E o mo) (he : PM X E e (mC (.str z))) (hs : starEach [e] X.env = [(false, eval e X.env)] := by rfl) (hbase : attributeBase o "split" X.env (eval o X.env) = eval o X.env := by rfl) (hline : (apos.endLine == pos.line) = true := by rfl) :
    PM X E (.Call (.Attribute o "split" apos) [e] [] pos) (mUn (splM z) mo) :=
  PE.imp (pe_split ho he hs hbase hline) fun σ H Q ⟨w, ρ, μ, S, EN, hp⟩ => ⟨w, ρ, μ, S, EN, Post.bind hp fun x μ1 w1 H1 u1 S1 r1 g1 h1 => by
    cases x with
    | str a =>
      cases r1
      refine ⟨⟨a, rfl⟩, w1, ρ, μ1, S1, EN.grow g1, fun w2 H2 u2 S2 r2 g2 => ?_⟩
      cases r2
      have h2 := Post.grow h1 g2
      by_cases hc : a.length ≤ 1000000 ∧ (z.length == 0) = false
      · have h3 : Post X.K (relE X.K) E w2 μ1.nx H2 Q (if a.length ≤ 1000000 ∧ (z.length == 0) = false then .ok (.loc μ1.nx) (μ1.new (.lst ((Txt.split a z).map Val.str))) else .no) := h2
        rw [if_pos hc] at h3
        refine ⟨a, z, rfl, rfl, hc.2, by have : sizeLine = 16777216 := by decide
                                         omega, fun p np => ?_⟩
        obtain ⟨w4, S4, g4, e4⟩ := S2.newL np (vrs_strs (Txt.split a z))
        exact h3 w4 _ _ S4 (by rw [← e4]; exact VR.loc (Nat.lt_succ_self _)) g4
      · have h3 : Post X.K (relE X.K) E w2 μ1.nx H2 Q (if a.length ≤ 1000000 ∧ (z.length == 0) = false then .ok (.loc μ1.nx) (μ1.new (.lst ((Txt.split a z).map Val.str))) else .no) := h2
        rw [if_neg hc] at h3
        exact h3.elim
    | _ => exact h1.elim⟩
theorem pm_ixS (ha : PM X E a ma) (hb : PM X E b mb) (hs : PlainIxT b := by exact fun _ _ => rfl) : PM X E (.Subscript a b pos) (mOp ixSM ma mb) :=
  PE.imp (pe_item_str ha hb hs) fun σ H Q ⟨w, ρ, μ, S, EN, hp⟩ => ⟨w, ρ, μ, S, EN, Post.bind hp fun x μ1 w1 H1 u1 S1 r1 g1 h1 => ⟨w1, ρ, μ1, S1, EN.grow g1, Post.bind h1 fun y μ2 w2 H2 u2 S2 r2 g2 h2 => by
    have r1 := VR.grow g2 r1
    unfold ixSM at h2
    split at h2
    · rename_i z i μ'
      cases r1
      cases r2
      split at h2
      · rename_i c hc
        split at h2
        · rename_i hl
          exact ⟨z, i, c, rfl, rfl, hl.1, by omega, hl.2.1, hc, h2 w2 H2 _ S2 (.str _) .refl⟩
        · exact h2.elim
      · exact h2.elim
    · exact h2.elim⟩⟩
theorem c_inSg : CmpP X .In inSgM := by
  refine ⟨_, op_in_sign, ?_⟩
  intro E w μ H x y u v Q S r1 r2 hp
  unfold inSgM at hp
  split at hp
  · rename_i x z
    cases r1
    cases r2
    split at hp
    · rename_i c hc
      have ex : x = ⟨#[c]⟩ := by
        cases x with
        | mk cps =>
          have : cps = #[c] := by rw [← Array.toList_inj]; exact hc
          rw [this]
      subst ex
      exact ⟨c, z, rfl, rfl, hp w H _ S (.bl _) .refl⟩
    · exact hp.elim
  · exact hp.elim
end

/-! ### ARGUMENTS.get(word, ()) at the law's level -/
section
variable {X : Cx} {o e f : Expr} {apos cpos : Pos} {td ty tx : TE} {d : Addr} {es : Array DictEntry} {n : Nat}
theorem pe_dget2K (D : KDict X.K X.w d es n) (ho : PE X o td) (he : PE X e ty) (hf : PE X f tx) (m : M2 X o "get" apos e f cpos) : PE X (.Call (.Attribute o "get" apos) [e, f] [] cpos)
    (fun σ H Q => td σ H fun x H1 => x = .ref d ∧ ty σ H1 fun y H2 => tx σ H2 fun _ H3 => ∃ (k : Str) (u0 : Value) (v0 : V), y = .str k ∧ PySem.W.nsIn X.K d k = some (some u0) ∧ RelV v0 u0 ∧ Q v0 H3) := by
  refine ⟨fun pins s σ H Q I h => ?_⟩
  refine wpAny_Call_method m.base m.few m.line PySem.F.plainAttrs_dict PySem.F.slot_dict_get PySem.F.type_dict_get (thn (ho.run pins s σ H _ I h) fun u s1 ⟨x, H1, I1, rx, ex, q1⟩ => ?_)
  subst ex
  obtain rfl : u = Value.ref d := rx
  refine ⟨kd_type D I1, (fun _ e => by cases e; exact ⟨_, I1.kIn _ _ D.at_, rfl⟩), ?_⟩
  rw [m.trees]
  refine Calls.callWith_builtin rfl (Calls.evalArgs_plain (Calls.spliced_cons (thn (he.run pins s1 σ H1 _ I1 q1) fun iv s2 ⟨y, H2, I2, ry, q2⟩ =>
    Calls.spliced_cons (thn (hf.run pins s2 σ H2 _ I2 q2) fun fv s3 ⟨z, H3, I3, rz, k, u0, v0, ey, hk, hv, q3⟩ => Calls.spliced_nil ?_))))
  subst ey
  obtain ⟨t, rfl⟩ := ry
  refine call_meetsIn PySem.F.slot_dict_get (kd_type D I3) PySem.F.entry_dict_get (PySem.F.args_dict_get_3 _ _ _) (meets_dict_get_default (PySem.strKind X.prog X.w) d (PySem.strKind_is X.prog X.w k t) D.low fv) ⟨_, PySem.W.mapOf_K (prog := X.prog) I3.kIn D.at_ D.lit, ?_⟩
  rw [PySem.W.find_K D.at_ hk]
  exact ⟨v0, H3, I3.tok _, hv, q3⟩
end
def KND : List (Str × List Str) := [("new_source", ["integer"]), ("new_set", ["integer"]), ("copy", ["integer", "integer", "optional"]), ("close", ["integer", "integer"]), ("fork", ["integer"]), ("end", ["integer"]), ("arrive", ["integer", "integer", "integer"]),
  ("finish", ["integer", "integer"]), ("read", ["integer", "integer", "optional"]), ("add", ["integer", "integer", "integer", "integer", "word"]), ("change", ["integer", "integer", "integer", "word"]), ("remove", ["integer", "integer", "integer"]), ("wait", ["integer", "integer", "integer"]),
  ("numbers", ["integer"]), ("same", ["integer", "integer", "integer", "integer"]), ("units", ["integer", "integer"])]
def kndOf (z : Str) : Option (List Str) := (KND.find? fun p => decide (p.1 = z)).map (·.2)
def ArgD (K : PySem.W.Frag) (w : World) : Prop := ∃ es n, KDict K w (ga K "ARGUMENTS") es n
section
variable {K : PySem.W.Frag} {mg : Str → Option Value}
theorem knd_fact (T : Tx K mg) {z : Str} {ks : List Str} (h : kndOf z = some ks) : ∃ a, PySem.W.nsIn K (ga K "ARGUMENTS") z = some (some (.ref a)) ∧ ∀ H : Hp, SqT K H a (ks.map V.str) := by
  obtain ⟨p, h1, rfl⟩ := Option.map_eq_some_iff.mp h
  have hz : p.1 = z := by simpa using List.find?_some h1
  have hm := List.mem_of_find?_eq_some h1
  subst hz
  unfold KND at hm
  simp only [List.mem_cons, List.not_mem_nil, or_false] at hm
  rcases hm with rfl | rfl | rfl | rfl | rfl | rfl | rfl | rfl | rfl | rfl | rfl | rfl | rfl | rfl | rfl | rfl
  · exact T.d_ARGUMENTS_new_source
  · exact T.d_ARGUMENTS_new_set
  · exact T.d_ARGUMENTS_copy
  · exact T.d_ARGUMENTS_close
  · exact T.d_ARGUMENTS_fork
  · exact T.d_ARGUMENTS_end
  · exact T.d_ARGUMENTS_arrive
  · exact T.d_ARGUMENTS_finish
  · exact T.d_ARGUMENTS_read
  · exact T.d_ARGUMENTS_add
  · exact T.d_ARGUMENTS_change
  · exact T.d_ARGUMENTS_remove
  · exact T.d_ARGUMENTS_wait
  · exact T.d_ARGUMENTS_numbers
  · exact T.d_ARGUMENTS_same
  · exact T.d_ARGUMENTS_units
end
def argsK : Val → Mu → R Val
  | .str z, μ => match kndOf z with
    | some ks => .ok (.tup (ks.map Val.str)) μ
    | none => .no
  | _, _ => .no
def mArgs (me mf : ME) : ME := fun ρ μ => (me ρ μ).bind fun x μ => (mf ρ μ).bind fun _ μ => argsK x μ
section
variable {X : Cx} {E : XK} {e f : Expr} {me mf : ME} {p apos cpos : Pos}
theorem pm_argsGet (T : Tx X.K X.mg) (AD : ArgD X.K X.w) (hg : Gl X "ARGUMENTS") (he : PM X E e me) (hf : PM X E f mf) (m : M2 X (.Name "ARGUMENTS" p) "get" apos e f cpos := by exact ⟨rfl, rfl, rfl, rfl⟩) :
    PM X E (.Call (.Attribute (.Name "ARGUMENTS" p) "get" apos) [e, f] [] cpos) (mArgs me mf) := by
  obtain ⟨es, n, D⟩ := AD
  exact PE.imp (pe_dget2K D (pe_glob (v := .ref (ga X.K "ARGUMENTS")) hg T.g_ARGUMENTS rfl) he hf m) fun σ H Q ⟨w, ρ, μ, S, EN, hp⟩ => by
    refine ⟨rfl, w, ρ, μ, S, EN, Post.bind hp fun x μ1 w1 H1 u1 S1 r1 g1 h1 => ⟨w1, ρ, μ1, S1, EN.grow g1, Post.bind h1 fun z μ2 w2 H2 u2 S2 r2 g2 h2 => ?_⟩⟩
    replace r1 := VR.grow g2 r1
    unfold argsK at h2
    split at h2
    · rename_i k
      cases r1
      split at h2
      · rename_i ks hk
        obtain ⟨a, e1, e2⟩ := knd_fact T hk
        exact ⟨k, _, .ref a, rfl, e1, rfl, h2 w2 H2 _ S2 (.tup (e2 H2) (vrs_strs ks)) .refl⟩
      · exact h2.elim
    · exact h2.elim
end

/-! ### word, *parts = a list -/
theorem star1_list {prog : Program} {w : World} {A : Around} {E : Value → Shared → Prop} {s : Shared} {l : Addr} {x : Value} {xs : List Value} {Q : List Value → Shared → Prop} (hh : A.handled = none) (hl : s.heap.IsList l (x :: xs).toArray) (hz : xs.length < 16384)
    (h : ∀ (h2 : Heap) (tk : Nat), (∀ b o, s.heap.get? b = some o → h2.get? b = some o) → Q [x, .ref h2.objs.size] { s with heap := h2.push { cls := .type "list", data := .seq xs.toArray }, toks := tk }) : wpAny (model prog w) A (unpackItems (.ref l) 2 (some 1)) Q E s := by
  have hlt : l ≠ s.heap.objs.size := by obtain ⟨o, ho, _⟩ := hl; exact Nat.ne_of_lt (Heap.lt_size ho)
  have hll : l < s.heap.objs.size := by obtain ⟨o, ho, _⟩ := hl; exact Heap.lt_size ho
  unfold unpackItems
  refine wpAny_bind ?_
  unfold notIterableAtAll
  refine wpAny_bind (wpAny_specialOf hl.typeIs PySem.F.slot_list_iter.lookup ?_)
  refine wpAny_pure ?_
  simp only [Bool.false_eq_true, if_false]
  refine wpAny_bind (wpAny_holding (wpAny_pyIter_list hl ?_))
  refine wpAny_bind (wpAny_holding (PySem.W.kun_draw hlt 1 0 _ _ ⟨_, Heap.get?_push_size _ rfl, rfl, rfl⟩ (hl.push _) (by simp) fun h₁ hit₁ hs₁ => ?_))
  have hl₁ : h₁.IsList l (x :: xs).toArray := (hl.push _).extBut hs₁.extBut hlt
  rw [Nat.zero_add] at hit₁
  have hit₁' := hit₁
  obtain ⟨oi, hoi, _⟩ := hit₁'
  have hl₁' := hl₁
  obtain ⟨ol, hol, _⟩ := hl₁'
  have ef : List.take 1 (List.drop 0 (x :: xs).toArray.toList) = [x] := rfl
  rw [ef, if_neg (show ¬ ([x].length < 1) by simp)]
  refine wpAny_bind (wpAny_holding (PySem.W.kun_collect (s := { s with heap := h₁ }) (T := "list_iterator") (.inr (.inr (.inl rfl))) (Walks.list (A := A.in1) hh s.heap.objs.size l hlt (x :: xs).toArray) (fun j u st => st.1.typeIs) (k := 1) (by simp) ⟨hit₁, hl₁⟩ (Heap.lt_size hoi) (Heap.lt_size hol) (fun h₂ tk hk => ?_) (by rw [sizeLine_eq]; simp; omega)))
  have el : (List.drop 1 (x :: xs).toArray.toList) = xs := rfl
  rw [el]
  show wpAny _ _ (if xs.length < 2 - 1 - 1 then _ else _) _ _ _
  rw [if_neg (by omega)]
  show wpAny _ _ (newList (xs.take (xs.length - (2 - 1 - 1))) >>= fun d => pure ([x] ++ [d] ++ xs.drop (xs.length - (2 - 1 - 1)))) _ _ _
  rw [show 2 - 1 - 1 = 0 from rfl, Nat.sub_zero, List.take_length, List.drop_length]
  have he : ∀ b o, s.heap.get? b = some o → h₂.get? b = some o := fun b o e => hk b o (Nat.ne_of_lt (Heap.lt_size e)) (hs₁.extBut b o (Nat.ne_of_lt (Heap.lt_size e)) (Heap.get?_push_of_some _ e))
  refine wpAny_bind (wpAny_newList ?_ (by rw [sizeLine_eq]; omega))
  exact wpAny_pure (h h₂ tk he)
def gStar (K : PySem.W.Frag) (t : TGs) : TG := fun v σ H Q => ∃ a x xs, v = .ref a ∧ SqL K H a (x :: xs) ∧ xs.length < 16384 ∧ ∀ D, H D = none → t [x, .ref D] σ (upd H D (.lst xs)) Q
section
variable {X : Cx} {E : XK} {e : Expr} {m : ME} {pos : Pos}
theorem pg_star {es es' : List Expr} {k : Nat} {t : TGs} (hc : X.calm = true) (h : PGs X es' t) (he : (assignEach es X.env).map (·.2) = (assignEach es' X.env).map (·.2) := by rfl)
    (hn : (assignEach es X.env).length = 2 := by rfl) (hst : (assignEach es X.env).findIdx? (·.1) = some 1 := by rfl) : PG X (.Tuple es k pos) (gStar X.K t) := by
  refine ⟨fun pins s σ H v u Q I r hw => ?_⟩
  obtain ⟨a, x, xs, e1, hq, hl, hw⟩ := hw
  subst e1
  cases r
  obtain ⟨its, rv, ht, hz⟩ := I.list hq
  cases rv with
  | @cons _ u0 _ us0 r0 rs =>
    rw [assign_Tuple]
    refine wpAny_bind (wpAny_standAt ?_)
    unfold unpack
    rw [hn, hst]
    have hl' := rs.length
    refine wpAny_bind (wpAny_holding (star1_list (I.ok.hd hc) ht.isList (by omega) fun h2 tk k2 => ?_))
    have I0 := I.kept (t' := tk) k2
    have hf : H h2.objs.size = none := I0.hok.fresh (Nat.le_refl _)
    have I1 := I0.laid (t' := tk) (o := .lst xs) (h' := h2.push { cls := .type "list", data := .seq us0.toArray }) (fun b o q => Heap.get?_push_of_some _ q) (Nat.le_refl _) ⟨by rw [sizeLine_eq]; omega, us0, 0, rs, Heap.get?_push_size _ rfl⟩
    have h3 := h.run pins _ σ _ [x, .ref h2.objs.size] [u0, .ref h2.objs.size] Q I1 (.cons r0 (.cons rfl .nil)) (hw _ hf)
    rw [← he] at h3
    exact h3
def sStar (i j : Nat) (m : ME) : MS := fun ρ μ => (m ρ μ).bind fun v μ => match v with
  | .loc n => match μ.ob n with
    | some (.lst (x :: xs)) => if xs.length < 16384 then .ok (.nx ((ρ.set i (some x)).set j (some (.loc μ.nx)))) (μ.new (.lst xs)) else .no
    | _ => .no
  | _ => .no
theorem pms_star {i j : Nat} {x y : Str} {p q r pt : Pos} {k : Nat} (hc : X.calm = true) (he : PM X E e m) (hN : X.N.Nodup) (hi : X.N[i]? = some x) (hj : X.N[j]? = some y) (hx : Loc X.env.scope x) (hy : Loc X.env.scope y)
    (hs : swapsWithSole [.Tuple [.Name x p, .Starred (.Name y q) r] k pt] e pos.line X.env = pure false := by rfl) (hw : swappedStores [.Tuple [.Name x p, .Starred (.Name y q) r] k pt] e X.env = pure none := by rfl)
    (h1 : (assignEach [.Tuple [.Name x p, .Starred (.Name y q) r] k pt] X.env).map (·.2) = [assign (.Tuple [.Name x p, .Starred (.Name y q) r] k pt) X.env] := by rfl)
    (fx : X.fn x = true ∨ X.env.scope.names.lookup x = some .local := by first | exact .inl rfl | exact .inr rfl | assumption) (fy : X.fn y = true ∨ X.env.scope.names.lookup y = some .local := by first | exact .inl rfl | exact .inr rfl | assumption) :
    PMS X E (.Assign [.Tuple [.Name x p, .Starred (.Name y q) r] k pt] e pos) (sStar i j m) :=
  PS.imp (ps_asg he (pg_star hc (pmgs_cons (px := p) hN hi hx (pmgs_cons (px := q) hN hj hy pmgs_nil fy) fx)) hs hw h1) fun D σ H ⟨w, ρ, μ, S, EN, hp⟩ => ⟨w, ρ, μ, S, EN, PostS.bind hp fun v μ1 w1 H1 u1 S1 r1 g1 h1 => by
    split at h1
    · rename_i n
      cases r1
      split at h1
      · rename_i z zs hn
        split at h1
        · rename_i hl
          obtain ⟨us, q1, q2⟩ := S1.ok _ _ hn
          cases q2 with
          | @cons _ _ u0 us0 r0 rs =>
            refine ⟨_, u0, us0, rfl, .of q1, by rw [rs.length]; exact hl, fun D hD => ?_⟩
            obtain ⟨w4, S4, g4, e4⟩ := S1.newL hD rs
            exact ⟨w4, _, _, [z, .loc μ1.nx], _, (EN.grow g1).grow g4, .cons (VR.grow g4 r0) (.cons (by rw [← e4]; exact VR.loc (Nat.lt_succ_self _)) .nil), rfl, fun σ' EN' _ => h1 w4 _ σ' S4 EN' g4⟩
        · exact h1.elim
      · exact h1.elim
    · exact h1.elim⟩
end

/-! ### a list behind a star in a display; zip of two lists -/
def mStar (a : ME) (r : MA) : MA := fun ρ μ => (a ρ μ).bind fun x μ => match x with
  | .loc n => match seqOf μ n with
    | some vs => (r ρ μ).bind fun ys μ => .ok (vs ++ ys) μ
    | none => .no
  | _ => .no
section
variable {X : Cx} {E : XK} {e e2 : Expr} {m : ME} {pos p : Pos}
theorem pma_star {es : List Expr} {mr : MA} (he : PM X E e m) (hr : PMA X E es mr) (hs : starEach (.Starred e p :: es) X.env = (true, eval e X.env) :: starEach es X.env := by rfl) : PMA X E (.Starred e p :: es) (mStar m mr) :=
  PA.imp (StX.pa_star he hr hs) fun σ H Q ⟨w, ρ, μ, S, EN, hp⟩ => ⟨w, ρ, μ, S, EN, Post.bind hp fun x μ1 w1 H1 u1 S1 r1 g1 h1 => by
    split at h1
    · rename_i n
      split at h1
      · rename_i vs hs
        obtain ⟨us, q1, q2⟩ := seqOf_sq S1 hs
        cases r1 with
        | loc hn =>
          exact ⟨_, us, rfl, .inr q1, w1, ρ, μ1, S1, EN.grow g1, Post.bind h1 fun ys μ2 w2 H2 u2 S2 r2 g2 h2 => h2 w2 H2 _ S2 ((VRs.grow g2 q2).app r2) .refl⟩
      · exact h1.elim
    · exact h1.elim⟩
def zip2M (xs ys : List Val) : List Val := (xs.zip ys).map fun p => .tup [p.1, p.2]
def itm2 (a b : Nat) (μ : Mu) : Option (List Val) := match seqOf μ a, seqOf μ b with
  | some xs, some ys => if xs.length = ys.length then some (zip2M xs ys) else none
  | _, _ => none
def iZip2 (m : MA) : MI := fun ρ μ => (m ρ μ).bind fun vs μ => match vs with
  | [.loc a, .loc b] => match itm2 a b μ with
    | some _ => .ok (.fn (itm2 a b)) μ
    | none => .no
  | _ => .no
theorem itm2_eq {a b : Nat} {μ : Mu} {vs : List Val} (h : itm2 a b μ = some vs) : ∃ xs ys, seqOf μ a = some xs ∧ seqOf μ b = some ys ∧ xs.length = ys.length ∧ vs = zip2M xs ys := by
  unfold itm2 at h
  split at h
  · rename_i xs ys e1 e2
    split at h
    · rename_i l
      cases h
      exact ⟨xs, ys, e1, e2, l, rfl⟩
    · cases h
  · cases h
theorem zip2_get {xs ys : List Val} (i : Nat) {v : Val} (h : (zip2M xs ys)[i]? = some v) : ∃ x y, xs[i]? = some x ∧ ys[i]? = some y ∧ v = .tup [x, y] := by
  unfold zip2M at h
  rw [List.getElem?_map] at h
  obtain ⟨p, hp, rfl⟩ := Option.map_eq_some_iff.mp h
  obtain ⟨h1, h2⟩ := List.getElem?_zip_eq_some.mp hp
  exact ⟨_, _, h1, h2, rfl⟩
theorem relI_zip2 {K : PySem.W.Frag} {w : Wt} {b : Nat} {H : Hp} {n m : Nat} (h1 : n < b) (h2 : m < b) : relI K w b H (.fn (itm2 n m)) (Itz K (w.ad n) (w.ad m)) := by
  intro w' μ' H' g' S' vs hvs i
  obtain ⟨xs, ys, e1, e2, l1, rfl⟩ := itm2_eq hvs
  have a1 := g'.ad n h1
  have a2 := g'.ad m h2
  obtain ⟨us, q1, r1⟩ := seqOf_sq S' e1
  obtain ⟨us2, q2, r2⟩ := seqOf_sq S' e2
  rw [a1] at q1
  rw [a2] at q2
  have z1 := r1.length
  have z2 := r2.length
  refine ⟨fun hn => ?_, fun v hv => ?_⟩
  · have hl : xs.length ≤ i := by
      have := List.getElem?_eq_none_iff.mp hn
      unfold zip2M at this
      rw [List.length_map, List.length_zip] at this
      omega
    exact ⟨us, us2, q1, q2, by omega⟩
  · obtain ⟨x, y, hx, hy, rfl⟩ := zip2_get i hv
    obtain ⟨u, t1, t2⟩ := r1.get i _ hx
    obtain ⟨u2, t3, t4⟩ := r2.get i _ hy
    refine ⟨⟨us, us2, u, u2, q1, q2, t1, t3⟩, fun v H2 yl => ?_⟩
    obtain ⟨T, c1, c2, rfl, hT, rfl, f1, f2⟩ := yl
    have d1 := f1 us q1
    have d2 := f2 us2 q2
    rw [t1] at d1
    rw [t3] at d2
    cases d1
    cases d2
    obtain ⟨S2, g2⟩ := S'.same (H' := upd H' T (.tup [u, u2])) (fun b o h => by rw [upd_ne (ne_of_none h hT)]; exact h)
    exact ⟨w', S2, VR.tup (.inl (.inl upd_same)) (.cons (VR.grow g2 t2) (.cons (VR.grow g2 t4) .nil)), g2⟩
theorem pmi_zip2 {mr : MA} {elts : List Expr} {kk : Nat} {tpos : Pos} (hg : Gl X "zip") (hm : X.mg "zip" = none) (h : PMA X E [e, e2] mr) (hs : starEach [e, e2] X.env = (false, eval e X.env) :: starEach [e2] X.env := by rfl) (hpl : (backTo pos (starEach [e2] X.env)).any (·.1) = false := by rfl) : PMI X E (.Tuple elts kk tpos) (.Call (.Name "zip" p) [e, e2] [] pos) (iZip2 mr) :=
  PI.imp (pi_zip hg hm h hs hpl) fun σ H R ⟨w, ρ, μ, S, EN, hp⟩ => ⟨w, ρ, μ, S, EN, Post.bind hp fun x μ1 w1 H1 u1 S1 r1 g1 h1 => by
    split at h1
    · rename_i n m
      cases r1 with
      | cons r1 r2 =>
      cases r2 with
      | cons r2 r3 =>
        cases r3
        cases r1 with
        | loc hn =>
        cases r2 with
        | loc hm =>
          split at h1
          · rename_i vs hv
            obtain ⟨xs, ys, e1, e2, _⟩ := itm2_eq hv
            obtain ⟨us, q1, _⟩ := seqOf_sq S1 e1
            obtain ⟨us2, q2, _⟩ := seqOf_sq S1 e2
            exact ⟨_, _, us, us2, rfl, q1, q2, h1 w1 H1 _ S1 (relI_zip2 hn hm) .refl⟩
          · exact h1.elim
    · exact h1.elim⟩
end

/-! ### zip over two iterators of any kind while the pairs it gave out are held -/
namespace Zpm
open PySem PySem.Sem PySem.W
section
variable {prog : Program} {w : World} {A : Around} {E : Value → Shared → Prop} {s : Shared} {z TI TO i1 i2 T : Addr} {fp1 fp2 : List Addr} {n1 n2 i : Nat} {P1 P2 : Nat → Value → Prop} {St1 St2 : Nat → Heap → Prop} {f : Bool} {oT : Obj}
theorem item_held {Q : Value → Shared → Prop} (S : ZipSep2 z TI TO i1 i2 fp1 fp2) (D1 : Draws prog w A i1 fp1 n1 P1 St1) (D2 : Draws prog w A i2 fp2 n2 P2 St2)
    (hz : IsZipHeld s.heap z TI TO T f) (hT : s.heap.get? T = some oT) (hTI : IsTupOf2 s.heap TI (.ref i1) (.ref i2)) (st1 : St1 i s.heap) (st2 : St2 i s.heap) (hlt1 : i < n1) (hlt2 : i < n2)
    (hQ : ∀ x1 x2 h' tk, P1 i x1 → P2 i x2 → IsZipHeld h' z TI TO T true → St1 (i + 1) h' → St2 (i + 1) h' → IsTupOf2 h' s.heap.objs.size x1 x2 → h'.objs.size = s.heap.objs.size + 1 →
      (∀ c o, c ≠ z → c ≠ i1 → c ≠ i2 → s.heap.get? c = some o → h'.get? c = some o) → Q (.ref s.heap.objs.size) { s with heap := h', toks := tk }) :
    wpAny (model prog w) A (Builtin.«zip.__next__» ⟨[.ref z], []⟩) (fun fin s' => ∃ v, fin = .done (.ret v) ∧ Q v s') E s := by
  obtain ⟨hp, g, d, tk0, os⟩ := s
  show wpAny _ _ (field (.ref z) 2 >>= _) _ _ _
  refine wpAny_bind (wpAny_field hz rfl (x := .bool false) rfl ?_)
  show wpAny _ _ (field (.ref z) 3 >>= _) _ _ _
  refine wpAny_bind (wpAny_field hz rfl (x := .ref TI) rfl ?_)
  refine wpAny_bind (wpAny_seqItems hTI rfl ?_)
  show wpAny _ _ (Builtin.SmallTypes.ownedTupleIsFree (.ref z) >>= _) _ _ _
  refine wpAny_bind (wpAny_tupleHeld_zip hz hT fun g0 hz0 hs0 => ?_)
  replace hs0 : Heap.SameBut z hp g0 := hs0
  simp only [Bool.false_eq_true, if_false]
  refine wpAny_bind ?_
  rw [← Array.forIn_toList]
  simp only [List.forIn_cons, List.forIn_nil]
  refine wpAny_bind (wpAny_bind (wpAny_holding ?_))
  show wpAny _ _ (Builtin.SmallTypes.nextOf (.ref i1) >>= _) _ _ ⟨g0, g, d, tk0, os⟩
  refine wpAny_bind (D1.item i _ _ _ hlt1 (D1.over st1 hs0 S.zf1) fun x1 p1 tk1 hx1 sn1 hp1 => wpAny_pure ?_)
  replace hp1 : Heap.SameBut i1 g0 p1 := hp1
  refine wpAny_pure ?_
  refine wpAny_bind (wpAny_bind (wpAny_holding ?_))
  show wpAny _ _ (Builtin.SmallTypes.nextOf (.ref i2) >>= _) _ _ ⟨p1, g, d, tk1, os⟩
  refine wpAny_bind (D2.item i _ _ _ hlt2 (D2.over (D2.over st2 hs0 S.zf2) hp1 S.sep1_2) fun x2 p2 tk2 hx2 sn2 hp2 => wpAny_pure ?_)
  replace hp2 : Heap.SameBut i2 p1 p2 := hp2
  refine wpAny_pure (wpAny_pure ?_)
  show wpAny _ _ (newTuple [x1, x2] >>= _) _ _ ⟨p2, g, d, tk2, os⟩
  refine wpAny_bind (wpAny_newTuple ?_)
  have hsz : p2.objs.size = hp.objs.size := by rw [hp2.1, hp1.1, hs0.1]
  have hz3 : IsZipHeld p2 z TI TO T true := hp2.extBut _ _ S.zi2 (hp1.extBut _ _ S.zi1 hz0)
  have hk : ∀ c o, c ≠ z → c ≠ i1 → c ≠ i2 → hp.get? c = some o → p2.get? c = some o := fun c o c1 c2 c3 e => hp2.extBut _ _ c3 (hp1.extBut _ _ c2 (hs0.extBut _ _ c1 e))
  have j1 : St1 (i + 1) p2 := D1.over sn1 hp2 S.sep2_1
  refine wpAny_pure ⟨_, rfl, ?_⟩
  show Q (.ref p2.objs.size) ⟨p2.push { cls := .type "tuple", data := .seq #[x1, x2] }, g, d, tk2, os⟩
  have hpr : IsTupOf2 (p2.push { cls := .type "tuple", data := .seq #[x1, x2] }) p2.objs.size x1 x2 := Heap.get?_push_size _ rfl
  have hz4 : (p2.push { cls := .type "tuple", data := .seq #[x1, x2] }).objs.size = p2.objs.size + 1 := Heap.size_push ..
  rw [hsz] at hpr hz4 ⊢
  exact hQ x1 x2 _ tk2 hx1 hx2 (Heap.get?_push_of_some _ hz3) (D1.frame _ _ _ j1 fun b _ o e => Heap.get?_push_of_some _ e) (D2.frame _ _ _ sn2 fun b _ o e => Heap.get?_push_of_some _ e) hpr hz4 fun c o c1 c2 c3 e => Heap.get?_push_of_some _ (hk c o c1 c2 c3 e)

theorem end_held {Q : Fin → Shared → Prop} (S : ZipSep2 z TI TO i1 i2 fp1 fp2) (D1 : Draws prog w A i1 fp1 n1 P1 St1)
    (hz : IsZipHeld s.heap z TI TO T f) (hT : s.heap.get? T = some oT) (hTI : IsTupOf2 s.heap TI (.ref i1) (.ref i2)) (st1 : St1 n1 s.heap)
    (hE : ∀ h' tk e, (∀ c o, c ≠ z → c ≠ i1 → c ≠ i2 → s.heap.get? c = some o → h'.get? c = some o) → (∃ o, h'.get? e = some o ∧ o.cls = .type "StopIteration") → E (.ref e) { s with heap := h', toks := tk }) :
    wpAny (model prog w) A (Builtin.«zip.__next__» ⟨[.ref z], []⟩) Q E s := by
  obtain ⟨hp, g, d, tk0, os⟩ := s
  show wpAny _ _ (field (.ref z) 2 >>= _) _ _ _
  refine wpAny_bind (wpAny_field hz rfl (x := .bool false) rfl ?_)
  show wpAny _ _ (field (.ref z) 3 >>= _) _ _ _
  refine wpAny_bind (wpAny_field hz rfl (x := .ref TI) rfl ?_)
  refine wpAny_bind (wpAny_seqItems hTI rfl ?_)
  show wpAny _ _ (Builtin.SmallTypes.ownedTupleIsFree (.ref z) >>= _) _ _ _
  refine wpAny_bind (wpAny_tupleHeld_zip hz hT fun g0 hz0 hs0 => ?_)
  replace hs0 : Heap.SameBut z hp g0 := hs0
  simp only [Bool.false_eq_true, if_false]
  refine wpAny_bind ?_
  rw [← Array.forIn_toList]
  simp only [List.forIn_cons, List.forIn_nil]
  refine wpAny_bind (wpAny_bind (wpAny_holding ?_))
  show wpAny _ _ (Builtin.SmallTypes.nextOf (.ref i1) >>= _) _ _ ⟨g0, g, d, tk0, os⟩
  refine wpAny_bind (D1.done ⟨g0, g, d, tk0, os⟩ _ _ (D1.over st1 hs0 S.zf1) fun q e hq he => ?_)
  replace hq : Heap.ExtBut i1 g0 q := hq
  exact hE q tk0 e (fun c o cz c1 _ x => hq _ _ c1 (hs0.extBut _ _ cz x)) he
theorem next_held {Q : Option Value → Shared → Prop} (S : ZipSep2 z TI TO i1 i2 fp1 fp2) (D1 : Draws prog w A.in1 i1 fp1 n1 P1 St1) (D2 : Draws prog w A.in1 i2 fp2 n2 P2 St2)
    (hz : IsZipHeld s.heap z TI TO T f) (hT : s.heap.get? T = some oT) (hTI : IsTupOf2 s.heap TI (.ref i1) (.ref i2)) (st1 : St1 i s.heap) (st2 : St2 i s.heap) (hlt1 : i < n1) (hlt2 : i < n2)
    (hQ : ∀ x1 x2 h' tk, P1 i x1 → P2 i x2 → IsZipHeld h' z TI TO T true → St1 (i + 1) h' → St2 (i + 1) h' → IsTupOf2 h' s.heap.objs.size x1 x2 → h'.objs.size = s.heap.objs.size + 1 →
      (∀ c o, c ≠ z → c ≠ i1 → c ≠ i2 → s.heap.get? c = some o → h'.get? c = some o) → Q (some (.ref s.heap.objs.size)) { s with heap := h', toks := tk }) :
    wpAny (model prog w) A (pyNext (.ref z)) Q E s := by
  have hTy : s.TypeIs (.ref z) "zip" := ⟨_, hz, rfl⟩
  unfold pyNext
  exact wpAny_bind (wpAny_attempt (wpAny_callSpecial?_slot (name := Str.ofString "__next__") hTy F.slot_zip_next
    (wpAny_call_entry F.slot_zip_next hTy F.entry_zip_next
      (item_held S D1 D2 hz hT hTI st1 st2 hlt1 hlt2 fun x1 x2 h' tk y1 y2 a1 a3 a4 a5 a6 a7 => wpAny_pure (hQ x1 x2 h' tk y1 y2 a1 a3 a4 a5 a6 a7)) (F.args_zip_next_1 _))))
theorem stop_held {Q : Option Value → Shared → Prop} (S : ZipSep2 z TI TO i1 i2 fp1 fp2) (D1 : Draws prog w A.in1 i1 fp1 n1 P1 St1)
    (hz : IsZipHeld s.heap z TI TO T f) (hT : s.heap.get? T = some oT) (hTI : IsTupOf2 s.heap TI (.ref i1) (.ref i2)) (st1 : St1 n1 s.heap)
    (hQ : ∀ h' tk, (∀ c o, c ≠ z → c ≠ i1 → c ≠ i2 → s.heap.get? c = some o → h'.get? c = some o) → Q none { s with heap := h', toks := tk }) : wpAny (model prog w) A (pyNext (.ref z)) Q E s := by
  have hTy : s.TypeIs (.ref z) "zip" := ⟨_, hz, rfl⟩
  unfold pyNext
  refine wpAny_bind (wpAny_attempt (wpAny_callSpecial?_slot (name := Str.ofString "__next__") hTy F.slot_zip_next
    (wpAny_call_entry F.slot_zip_next hTy F.entry_zip_next (end_held S D1 hz hT hTI st1 fun h' tk e hk he => ?_) (F.args_zip_next_1 _))))
  obtain ⟨o, ho, hc⟩ := he
  refine wpAny_bind (wpAny_isInstance (T := "StopIteration") (b := true) ⟨o, ho, hc⟩ isSubtype_stop ?_)
  exact wpAny_pure (hQ _ _ hk)
end
end Zpm

/-! ### list(zip(..)) over two iterators of any kind, of one length -/
namespace Zpm
open PySem PySem.Sem PySem.W
/-- where the zip stands: before its first pair, or behind a pair that is held -/
structure ZAt (St1 St2 : Nat → Heap → Prop) (z TI TO i1 i2 S : Addr) (h : Heap) (i : Nat) : Prop where
  ti : IsTupOf2 h TI (.ref i1) (.ref i2)
  s1 : St1 i h
  s2 : St2 i h
  at_ : (IsZip h z TI TO .none ∧ ∃ a1 a2, IsTupOf2 h TO a1 a2) ∨ ∃ T f oT, IsZipHeld h z TI TO T f ∧ h.get? T = some oT ∧ T ≠ z ∧ T ≠ i1 ∧ T ≠ i2 ∧ T ≠ S
structure ZG (P1 P2 : Nat → Value → Prop) (lo : Addr) (h : Heap) (as : List Addr) : Prop where
  rise : as.Pairwise (· < ·)
  above : ∀ a ∈ as, lo < a
  pairs : ∀ (j : Nat) (a : Addr), as[j]? = some a → ∃ x1 x2, P1 j x1 ∧ P2 j x2 ∧ IsTupOf2 h a x1 x2
theorem ZG.there {P1 P2 : Nat → Value → Prop} {lo : Addr} {h : Heap} {as : List Addr} (g : ZG P1 P2 lo h as) {a : Addr} (ha : a ∈ as) : a < h.objs.size := by
  obtain ⟨j, hj⟩ := List.mem_iff_getElem?.mp ha
  obtain ⟨_, _, _, _, e⟩ := g.pairs j a hj
  exact Heap.lt_size e
theorem ZG.low {P1 P2 : Nat → Value → Prop} {lo lo' : Addr} {h : Heap} {as : List Addr} (g : ZG P1 P2 lo h as) (hl : lo' ≤ lo) : ZG P1 P2 lo' h as := ⟨g.rise, fun a ha => Nat.lt_of_le_of_lt hl (g.above a ha), g.pairs⟩
section
variable {prog : Program} {w : World} {A : Around} {E : Value → Shared → Prop} {s : Shared} {z TI TO i1 i2 S : Addr} {fp1 fp2 : List Addr} {n i : Nat} {P1 P2 : Nat → Value → Prop} {St1 St2 : Nat → Heap → Prop}
theorem ZAt.zlt {h : Heap} (x : ZAt St1 St2 z TI TO i1 i2 S h i) : ∃ o, h.get? z = some o ∧ o.cls = .type "zip" := by
  rcases x.at_ with ⟨hz, _⟩ | ⟨T, f, oT, hz, _⟩
  · exact ⟨_, hz, rfl⟩
  · exact ⟨_, hz, rfl⟩
theorem ZAt.keep {h h' : Heap} (D1 : Draws prog w A i1 fp1 n P1 St1) (D2 : Draws prog w A i2 fp2 n P2 St2) (x : ZAt St1 St2 z TI TO i1 i2 S h i) (hk : ∀ b o, b ≠ S → h.get? b = some o → h'.get? b = some o) (h1 : S ∉ fp1) (h2 : S ∉ fp2) (hz : z ≠ S) (hti : TI ≠ S) (hto : TO ≠ S) : ZAt St1 St2 z TI TO i1 i2 S h' i := by
  refine ⟨hk _ _ hti x.ti, D1.frame _ _ _ x.s1 fun b hb o e => hk b o (fun q => h1 (q ▸ hb)) e, D2.frame _ _ _ x.s2 fun b hb o e => hk b o (fun q => h2 (q ▸ hb)) e, ?_⟩
  rcases x.at_ with ⟨a, a1, a2, b⟩ | ⟨T, f, oT, a, b, c1, c2, c3, c4⟩
  · exact .inl ⟨hk _ _ hz a, a1, a2, hk _ _ hto b⟩
  · exact .inr ⟨T, f, oT, hk _ _ hz a, hk _ _ c4 b, c1, c2, c3, c4⟩
theorem z_item {Q : Option Value → Shared → Prop} (Z : ZipSep2 z TI TO i1 i2 fp1 fp2) (D1 : Draws prog w A.in1 i1 fp1 n P1 St1) (D2 : Draws prog w A.in1 i2 fp2 n P2 St2) (x : ZAt St1 St2 z TI TO i1 i2 S s.heap i) (hS : S < s.heap.objs.size) (hlt : i < n)
    (hQ : ∀ x1 x2 h' tk, P1 i x1 → P2 i x2 → ZAt St1 St2 z TI TO i1 i2 S h' (i + 1) → IsTupOf2 h' s.heap.objs.size x1 x2 → h'.objs.size = s.heap.objs.size + 1 →
      (∀ c o, c ≠ z → c ≠ TO → c ≠ i1 → c ≠ i2 → s.heap.get? c = some o → h'.get? c = some o) → Q (some (.ref s.heap.objs.size)) { s with heap := h', toks := tk }) : wpAny (model prog w) A (pyNext (.ref z)) Q E s := by
  have lz : z < s.heap.objs.size := by obtain ⟨o, e, _⟩ := x.zlt; exact Heap.lt_size e
  have l1 : i1 < s.heap.objs.size := by obtain ⟨o, e⟩ := D1.live _ _ x.s1; exact Heap.lt_size e
  have l2 : i2 < s.heap.objs.size := by obtain ⟨o, e⟩ := D2.live _ _ x.s2; exact Heap.lt_size e
  rcases x.at_ with ⟨hz, a1, a2, hTO⟩ | ⟨T, f, oT, hz, hT, c1, c2, c3, c4⟩
  · refine wpAny_pyNext_zipD2_item Z D1 D2 hz x.ti hTO x.s1 x.s2 hlt hlt fun x1 x2 h' tk y1 y2 b1 b2 d1 d2 b5 b6 hk => ?_
    exact hQ x1 x2 h' tk y1 y2 ⟨hk _ _ Z.TIz Z.TITO Z.TIi1 Z.TIi2 x.ti, d1, d2, .inr ⟨_, false, _, b1, b5, Nat.ne_of_gt lz, Nat.ne_of_gt l1, Nat.ne_of_gt l2, Nat.ne_of_gt hS⟩⟩ b5 b6 hk
  · refine next_held Z D1 D2 hz hT x.ti x.s1 x.s2 hlt hlt fun x1 x2 h' tk y1 y2 b1 d1 d2 b5 b6 hk => ?_
    exact hQ x1 x2 h' tk y1 y2 ⟨hk _ _ Z.TIz Z.TIi1 Z.TIi2 x.ti, d1, d2, .inr ⟨T, true, oT, b1, hk _ _ c1 c2 c3 hT, c1, c2, c3, c4⟩⟩ b5 b6 fun c o q1 _ q2 q3 e => hk c o q1 q2 q3 e
theorem z_done {Q : Option Value → Shared → Prop} (Z : ZipSep2 z TI TO i1 i2 fp1 fp2) (D1 : Draws prog w A.in1 i1 fp1 n P1 St1) (D2 : Draws prog w A.in1 i2 fp2 n P2 St2) (x : ZAt St1 St2 z TI TO i1 i2 S s.heap n)
    (hQ : ∀ h' tk, (∀ c o, c ≠ z → c ≠ TO → c ≠ i1 → c ≠ i2 → s.heap.get? c = some o → h'.get? c = some o) → Q none { s with heap := h', toks := tk }) : wpAny (model prog w) A (pyNext (.ref z)) Q E s := by
  rcases x.at_ with ⟨hz, a1, a2, hTO⟩ | ⟨T, f, oT, hz, hT, _⟩
  · exact wpAny_pyNext_zipD2_end Z D1 D2 hz x.ti hTO x.s1 x.s2 (Nat.le_refl _) (Nat.le_refl _) (.inl rfl) hQ
  · exact stop_held Z D1 hz hT x.ti x.s1 fun h' tk hk => hQ h' tk fun c o q1 _ q2 q3 e => hk c o q1 q2 q3 e
end
section
variable {prog : Program} {w : World} {A : Around} {s : Shared} {R : Result → Shared → Prop} {z TI TO i1 i2 S : Addr} {fp1 fp2 : List Addr} {n : Nat} {P1 P2 : Nat → Value → Prop} {St1 St2 : Nat → Heap → Prop}
theorem z_loop (Z : ZipSep2 z TI TO i1 i2 fp1 fp2) (D1 : Draws prog w A.in1.in1 i1 fp1 n P1 St1) (D2 : Draws prog w A.in1.in1 i2 fp2 n P2 St2) (hn : n ≤ sizeLine) (h1 : S ∉ fp1) (h2 : S ∉ fp2) (hz : z < S) (hti : TI ≠ S) (hto : TO < S) (hi1 : i1 < S) (hi2 : i2 < S) (res : Value) {h₁ : Heap}
    (hR : ∀ h' tk acc c as, (∀ b o, b ≠ S → b ≠ z → b ≠ TO → b ≠ i1 → b ≠ i2 → h₁.get? b = some o → h'.get? b = some o) → h'.get? S = some { cls := .type "list", dict := none, data := .seq acc c, slots := #[] } → as.length = n → ZG P1 P2 S h' as →
      acc.toList = as.map Value.ref → R (.ok (.ret res)) { s with heap := h', toks := tk }) :
    ∀ (k i : Nat) (h : Heap) (tk c : Nat) (acc : Array Value) (as : List Addr), n - i = k → i ≤ n → ZAt St1 St2 z TI TO i1 i2 S h i → (∀ b o, b ≠ S → b ≠ z → b ≠ TO → b ≠ i1 → b ≠ i2 → h₁.get? b = some o → h.get? b = some o) →
      h.get? S = some { cls := .type "list", dict := none, data := .seq acc c, slots := #[] } → acc.toList = as.map Value.ref → as.length = i → ZG P1 P2 S h as →
      codeAny (model prog w) A (.builtin "list.extend.loop" ⟨[.ref S, .ref z, res], []⟩) R { s with heap := h, toks := tk } := by
  intro k
  induction k with
  | zero =>
    intro i h tk c acc as hk hi hst hkeep hS hacc hal hG
    have hin : i = n := by omega
    subst hin
    refine codeAny_builtin PySem.F.entry_extend_loop ?_
    rw [Around.under_plainId PySem.F.plain_extend_loop _]
    show wpAny _ A.in1 (pyNext (.ref z) >>= _) _ _ _
    refine wpAny_bind (z_done (s := { s with heap := h, toks := tk }) (A := A.in1) Z D1 D2 hst fun h' tk' he => ?_)
    have ab : ∀ a, a ∈ as → ∀ o, h.get? a = some o → h'.get? a = some o := fun a ha o e => he a o (Nat.ne_of_gt (Nat.lt_trans hz (hG.above a ha))) (Nat.ne_of_gt (Nat.lt_trans hto (hG.above a ha))) (Nat.ne_of_gt (Nat.lt_trans hi1 (hG.above a ha))) (Nat.ne_of_gt (Nat.lt_trans hi2 (hG.above a ha))) e
    refine wpAny_pure (hR h' tk' acc c as (fun b o q1 q2 q3 q4 q5 e => he b o q2 q3 q4 q5 (hkeep b o q1 q2 q3 q4 q5 e)) (he S _ (Nat.ne_of_gt hz) (Nat.ne_of_gt hto) (Nat.ne_of_gt hi1) (Nat.ne_of_gt hi2) hS) (by omega) ⟨hG.rise, hG.above, fun j a hj => ?_⟩ hacc)
    obtain ⟨x1, x2, e1, e2, e3⟩ := hG.pairs j a hj
    exact ⟨x1, x2, e1, e2, ab a (List.mem_of_getElem? hj) _ e3⟩
  | succ k ih =>
    intro i h tk c acc as hk hi hst hkeep hS hacc hal hG
    have hlt : i < n := by omega
    have hsz : acc.size = i := by rw [← Array.length_toList, hacc, List.length_map, hal]
    have hSl : S < h.objs.size := Heap.lt_size hS
    refine codeAny_builtin PySem.F.entry_extend_loop ?_
    rw [Around.under_plainId PySem.F.plain_extend_loop _]
    show wpAny _ A.in1 (pyNext (.ref z) >>= _) _ _ _
    refine wpAny_bind (z_item (s := { s with heap := h, toks := tk }) (A := A.in1) Z D1 D2 hst hSl hlt fun x1 x2 h' tk' p1 p2 hst' ht hz' hkp => ?_)
    dsimp only at ht hz' hkp ⊢
    have hS' := hkp S _ (Nat.ne_of_gt hz) (Nat.ne_of_gt hto) (Nat.ne_of_gt hi1) (Nat.ne_of_gt hi2) hS
    have up : ∀ b o, b ≠ S → h'.get? b = some o → (h'.update S (Obj.mapSeq (·.push (Value.ref h.objs.size)))).get? b = some o := fun b o hb e => (Heap.get?_update_other _ _ (Ne.symm hb)).trans e
    show wpAny _ A.in1 (updateSeq S (·.push (Value.ref h.objs.size)) >>= _) _ _ _
    refine wpAny_bind ?_
    refine wpAny_updateSeq hS' rfl (wpAny_pure ⟨plainId_quiet PySem.F.plain_extend_loop _, ih (i + 1) _ tk' _ (acc.push (Value.ref h.objs.size)) (as ++ [h.objs.size]) (by omega) hlt (hst'.keep D1 D2 up h1 h2 (Nat.ne_of_lt hz) hti (Nat.ne_of_lt hto))
      (fun b o q1 q2 q3 q4 q5 e => up b o q1 (hkp b o q2 q3 q4 q5 (hkeep b o q1 q2 q3 q4 q5 e))) (Heap.get?_update_self _ hS' rfl) (by rw [Array.toList_push, hacc, List.map_append]; rfl) (by rw [List.length_append, hal]; rfl) ⟨?_, ?_, ?_⟩⟩) (by rw [hsz]; omega) (by show (acc.push (Value.ref h.objs.size)).size ≤ sizeLine + 1; rw [Array.size_push, hsz]; omega)
    · refine List.pairwise_append.mpr ⟨hG.rise, List.pairwise_singleton _ _, fun a ha b hb => ?_⟩
      rw [List.mem_singleton.mp hb]
      exact hG.there ha
    · intro a ha
      rcases List.mem_append.mp ha with ha | ha
      · exact hG.above a ha
      · rw [List.mem_singleton.mp ha]; exact hSl
    · intro j b hj
      rcases Nat.lt_trichotomy j as.length with q | q | q
      · rw [List.getElem?_append_left q] at hj
        obtain ⟨x1', x2', e1, e2, e3⟩ := hG.pairs j b hj
        have hb := hG.above b (List.mem_of_getElem? hj)
        exact ⟨x1', x2', e1, e2, up b _ (Nat.ne_of_gt hb) (hkp b _ (Nat.ne_of_gt (Nat.lt_trans hz hb)) (Nat.ne_of_gt (Nat.lt_trans hto hb)) (Nat.ne_of_gt (Nat.lt_trans hi1 hb)) (Nat.ne_of_gt (Nat.lt_trans hi2 hb)) e3)⟩
      · subst q
        have hb : h.objs.size = b := by simpa using hj
        subst hb
        exact ⟨x1, x2, by rw [hal]; exact p1, by rw [hal]; exact p2, up _ _ (Nat.ne_of_gt hSl) ht⟩
      · have hnone : (as ++ [h.objs.size])[j]? = none := List.getElem?_eq_none (by rw [List.length_append, List.length_singleton]; omega)
        rw [hnone] at hj; cases hj
end
end Zpm

/-! ### list(zip(..)): the call -/
namespace Zpm
open PySem PySem.Sem PySem.W
theorem zip_no_len : typeLookup (.type "zip") "__len__" = pure none := am_miss_of_fast (by decide +kernel)
theorem zip_no_hint : typeLookup (.type "zip") "__length_hint__" = pure none := am_miss_of_fast (by decide +kernel)
section
variable {prog : Program} {w : World} {A : Around} {E : Value → Shared → Prop} {s : Shared} {z TI TO i1 i2 : Addr} {fp1 fp2 : List Addr} {n : Nat} {P1 P2 : Nat → Value → Prop} {St1 St2 : Nat → Heap → Prop}
theorem z_hint (hT : s.TypeIs (.ref z) "zip") {Q : Bool → Shared → Prop} (h : Q true s) : wpAny (model prog w) A (Builtin.List.listLengthHint (.ref z)) Q E s := by
  unfold Builtin.List.listLengthHint
  refine wpAny_bind (wpAny_specialOf hT zip_no_len ?_)
  refine wpAny_bind (wpAny_specialOf hT zip_no_hint ?_)
  exact wpAny_pure h
theorem z_extend {R : Result → Shared → Prop} (Z : ZipSep2 z TI TO i1 i2 fp1 fp2) (D1 : Draws prog w A.in1.in1 i1 fp1 n P1 St1) (D2 : Draws prog w A.in1.in1 i2 fp2 n P2 St2) (hn : n ≤ sizeLine) (hz : IsZip s.heap z TI TO .none) (hti : IsTupOf2 s.heap TI (.ref i1) (.ref i2)) (hto : ∃ a1 a2, IsTupOf2 s.heap TO a1 a2)
    (st1 : St1 0 s.heap) (st2 : St2 0 s.heap) (S : Addr) (lz : z < S) (lTI : TI < S) (lTO : TO < S) (l1 : i1 < S) (l2 : i2 < S) (f1 : S ∉ fp1) (f2 : S ∉ fp2) (res : Value) (c₀ : Nat) (hS : s.heap.get? S = some { cls := .type "list", data := .seq #[] c₀ })
    (hR : ∀ h' tk acc c as, (∀ b o, b ≠ S → b ≠ z → b ≠ TO → b ≠ i1 → b ≠ i2 → s.heap.get? b = some o → h'.get? b = some o) → h'.get? S = some { cls := .type "list", dict := none, data := .seq acc c, slots := #[] } → as.length = n → ZG P1 P2 S h' as →
      acc.toList = as.map Value.ref → R (.ok (.ret res)) { s with heap := h', toks := tk }) :
    wpAny (model prog w) A.in1 (Builtin.List.listExtendWith (.ref S) (.ref z) res)
      (fun fin s' => match fin with | .done f => R (.ok f) s' | .again c' => c'.quiet = true ∧ codeAny (model prog w) A c' R s') (fun e s' => R (.error e) s') s := by
  have key : ∀ (h : Heap) (c₁ tk : Nat), (∀ b o, b ≠ S → s.heap.get? b = some o → h.get? b = some o) → h.get? S = some { cls := .type "list", data := .seq #[] c₁ } →
      codeAny (model prog w) A (.builtin "list.extend.loop" ⟨[.ref S, .ref z, res], []⟩) R { s with heap := h, toks := tk } := by
    intro h c₁ tk hk hS₁
    have kz := hk z _ (Nat.ne_of_lt lz) hz
    obtain ⟨a1, a2, eto⟩ := hto
    refine z_loop (s := s) (h₁ := s.heap) Z D1 D2 hn f1 f2 lz (Nat.ne_of_lt lTI) lTO l1 l2 res hR n 0 h tk c₁ #[] [] (Nat.sub_zero _) (Nat.zero_le _) ?_ (fun b o q1 _ _ _ _ e => hk b o q1 e) hS₁ rfl rfl ⟨List.Pairwise.nil, (fun _ ha => nomatch ha), (fun j a hj => by simp at hj)⟩
    exact ⟨hk _ _ (Nat.ne_of_lt lTI) hti, D1.frame _ _ _ st1 fun b hb o e => hk b o (fun q => f1 (q ▸ hb)) e, D2.frame _ _ _ st2 fun b hb o e => hk b o (fun q => f2 (q ▸ hb)) e, .inl ⟨kz, a1, a2, hk _ _ (Nat.ne_of_lt lTO) eto⟩⟩
  have hTy : s.TypeIs (.ref z) "zip" := ⟨_, hz, rfl⟩
  unfold Builtin.List.listExtendWith
  refine wpAny_bind (wpAny_typeOf (T := "zip") hTy ?_)
  have h1 : Builtin.List.listSameRef (.ref S) (.ref z) = false := by simp [Builtin.List.listSameRef, Nat.ne_of_gt lz]
  have h2 : (Value.type "zip" == Value.type "list") = false := by decide
  have h3 : (Value.type "zip" == Value.type "tuple") = false := by decide
  simp only [h1, h2, h3, Bool.or_false, Bool.false_eq_true, if_false]
  refine wpAny_bind (wpAny_pyIter_zip hz ?_)
  refine wpAny_bind (wpAny_holding (z_hint hTy ?_))
  refine wpAny_ite_split (fun _ => ?_) (fun _ => wpAny_pure ⟨plainId_quiet PySem.F.plain_extend_loop _, key _ c₀ _ (fun b o _ e => e) hS⟩)
  refine wpAny_bind (wpAny_rule ?_)
  refine wpAny_bind ?_
  show wpAny _ _ (updateSeq S (·.push .none) >>= fun _ => updateSeq S (·.pop)) _ _ _
  refine wpAny_bind (wpAny_updateSeq hS rfl ?_)
  have hS₂ := Heap.get?_update_self (Obj.mapSeq (·.push Value.none)) hS rfl
  refine wpAny_updateSeq (hz := by seq_fits) hS₂ rfl ?_
  have hS₃ := Heap.get?_update_self (Obj.mapSeq (·.pop)) hS₂ rfl
  refine wpAny_pure ⟨plainId_quiet PySem.F.plain_extend_loop _, key _ _ _ (fun b o hb e => ?_) hS₃⟩
  exact (Heap.get?_update_other _ _ (Ne.symm hb)).trans ((Heap.get?_update_other _ _ (Ne.symm hb)).trans e)
theorem z_init {R : Result → Shared → Prop} (Z : ZipSep2 z TI TO i1 i2 fp1 fp2) (D1 : Draws prog w A.in1.in1 i1 fp1 n P1 St1) (D2 : Draws prog w A.in1.in1 i2 fp2 n P2 St2) (hn : n ≤ sizeLine) (hz : IsZip s.heap z TI TO .none) (hti : IsTupOf2 s.heap TI (.ref i1) (.ref i2)) (hto : ∃ a1 a2, IsTupOf2 s.heap TO a1 a2)
    (st1 : St1 0 s.heap) (st2 : St2 0 s.heap) (S : Addr) (lz : z < S) (lTI : TI < S) (lTO : TO < S) (l1 : i1 < S) (l2 : i2 < S) (f1 : S ∉ fp1) (f2 : S ∉ fp2) (hS : s.heap.get? S = some { cls := .type "list", data := .seq #[] })
    (hR : ∀ h' tk acc c as, (∀ b o, b ≠ S → b ≠ z → b ≠ TO → b ≠ i1 → b ≠ i2 → s.heap.get? b = some o → h'.get? b = some o) → h'.get? S = some { cls := .type "list", dict := none, data := .seq acc c, slots := #[] } → as.length = n → ZG P1 P2 S h' as →
      acc.toList = as.map Value.ref → R (.ok (.ret .none)) { s with heap := h', toks := tk }) :
    wpAny (model prog w) A.in1 (Builtin.«list.__init__» ⟨[.ref S, .ref z], []⟩)
      (fun fin s' => match fin with | .done f => R (.ok f) s' | .again c' => c'.quiet = true ∧ codeAny (model prog w) A c' R s') (fun e s' => R (.error e) s') s := by
  show wpAny _ _ (do let old ← Builtin.List.listItems (.ref S); Builtin.List.listUpdate (.ref S) (fun _ => #[]); letGo old.toList.reverse; Builtin.List.listExtendWith (.ref S) (.ref z) .none) _ _ s
  refine wpAny_bind ?_
  unfold Builtin.List.listItems
  refine wpAny_bind (wpAny_seqItems hS rfl (wpAny_pure ?_))
  show wpAny _ _ (updateSeq S (fun _ => #[]) >>= fun _ => letGo (#[] : Array Value).toList.reverse >>= fun _ => Builtin.List.listExtendWith (.ref S) (.ref z) .none) _ _ s
  refine wpAny_bind (wpAny_updateSeq hS rfl ?_)
  have hS₂ := Heap.get?_update_self (Obj.mapSeq (fun _ => (#[] : Array Value))) hS rfl
  have oth : ∀ b o, b ≠ S → s.heap.get? b = some o → (s.heap.update S (Obj.mapSeq (fun _ => (#[] : Array Value)))).get? b = some o :=
    fun b o hb e => (Heap.get?_update_other _ _ (Ne.symm hb)).trans e
  refine wpAny_bind (wpAny_letGo ?_)
  obtain ⟨a1, a2, eto⟩ := hto
  refine z_extend Z D1 D2 hn (oth _ _ (Nat.ne_of_lt lz) hz) (oth _ _ (Nat.ne_of_lt lTI) hti) ⟨a1, a2, oth _ _ (Nat.ne_of_lt lTO) eto⟩ (D1.frame _ _ _ st1 fun b hb o e => oth b o (fun q => f1 (q ▸ hb)) e) (D2.frame _ _ _ st2 fun b hb o e => oth b o (fun q => f2 (q ▸ hb)) e) S lz lTI lTO l1 l2 f1 f2 .none _ hS₂ (fun h' tk acc c as hk hS' hl hG hacc => ?_)
  exact hR h' tk acc c as (fun b o q1 q2 q3 q4 q5 e => hk b o q1 q2 q3 q4 q5 (oth b o q1 e)) hS' hl hG hacc
/-- list(z), z a zip over two iterators that stand at the start -/
theorem z_call {Q : Value → Shared → Prop} (Z : ZipSep2 z TI TO i1 i2 fp1 fp2) (D1 : Draws prog w A.in1.in1.in1 i1 fp1 n P1 St1) (D2 : Draws prog w A.in1.in1.in1 i2 fp2 n P2 St2) (hn : n ≤ sizeLine) (hz : IsZip s.heap z TI TO .none) (hti : IsTupOf2 s.heap TI (.ref i1) (.ref i2)) (hto : ∃ a1 a2, IsTupOf2 s.heap TO a1 a2)
    (st1 : St1 0 s.heap) (st2 : St2 0 s.heap) (b1 : ∀ b ∈ fp1, b < s.heap.objs.size) (b2 : ∀ b ∈ fp2, b < s.heap.objs.size)
    (hQ : ∀ h' tk acc c as, (∀ b o, b ≠ z → b ≠ TO → b ≠ i1 → b ≠ i2 → s.heap.get? b = some o → h'.get? b = some o) → h'.get? s.heap.objs.size = some { cls := .type "list", dict := none, data := .seq acc c, slots := #[] } → as.length = n → ZG P1 P2 s.heap.objs.size h' as →
      acc.toList = as.map Value.ref → Q (.ref s.heap.objs.size) { s with heap := h', toks := tk }) :
    wpAny (model prog w) A (call (.type "list") [.ref z]) Q E s := by
  refine callType_codes (Q₁ := fun obj s₁ => obj = .ref s.heap.objs.size ∧ s₁ = { s with heap := s.heap.push { cls := .type "list", data := .seq #[] } }) PySem.F.called_list (PySem.F.typeCall_list_1 _) PySem.F.entry_list_init
    (code_list_new _ ⟨rfl, rfl⟩) fun obj s₁ h₁ => ?_
  obtain ⟨rfl, rfl⟩ := h₁
  have hS : (s.heap.push { cls := .type "list", data := .seq #[] }).get? s.heap.objs.size = some { cls := .type "list", data := .seq #[] } := Heap.get?_push_size _ rfl
  obtain ⟨a1, a2, eto⟩ := hto
  refine ⟨⟨_, hS, rfl⟩, PySem.F.args_list_init_2 _ _, z_init (A := A.in1) Z D1 D2 hn (Heap.get?_push_of_some _ hz) (Heap.get?_push_of_some _ hti) ⟨a1, a2, Heap.get?_push_of_some _ eto⟩ (D1.frame _ _ _ st1 fun b _ o e => Heap.get?_push_of_some _ e) (D2.frame _ _ _ st2 fun b _ o e => Heap.get?_push_of_some _ e)
    s.heap.objs.size (Heap.lt_size hz) (Heap.lt_size hti) (Heap.lt_size eto) (b1 _ Z.mem1) (b2 _ Z.mem2) (fun q => Nat.lt_irrefl _ (b1 _ q)) (fun q => Nat.lt_irrefl _ (b2 _ q)) hS (fun h' tk acc c as hk hS' hl hG hacc => ?_)⟩
  exact ⟨rfl, hQ h' tk acc c as (fun b o q2 q3 q4 q5 e => hk b o (Nat.ne_of_lt (Heap.lt_size e)) q2 q3 q4 q5 (Heap.get?_push_of_some _ e)) hS' hl hG hacc⟩
end
end Zpm

/-! ### list(zip(a list, a tuple)) -/
def putP : Hp → List Addr → List (V × V) → Hp
  | H, a :: as, p :: kvs => putP (upd H a (.tup [p.1, p.2])) as kvs
  | H, _, _ => H
theorem putP_off {b : Addr} : ∀ (as : List Addr) (kvs : List (V × V)) (H : Hp), b ∉ as → putP H as kvs b = H b
  | [], _, _, _ => rfl
  | _ :: _, [], _, _ => rfl
  | a :: as, p :: kvs, H, h => by
    show putP (upd H a (.tup [p.1, p.2])) as kvs b = H b
    rw [putP_off as kvs _ (fun z => h (List.mem_cons_of_mem _ z)), upd_ne (fun z => h (by rw [z]; exact List.mem_cons_self))]
theorem putP_at : ∀ (as : List Addr) (kvs : List (V × V)) (H : Hp), as.length = kvs.length → as.Nodup → Paired (fun (t : Addr) (p : V × V) => putP H as kvs t = some (.tup [p.1, p.2])) as kvs
  | [], [], _, _, _ => .nil
  | [], _ :: _, _, h, _ => by cases h
  | _ :: _, [], _, h, _ => by cases h
  | a :: as, p :: kvs, H, h, hn => by
    have hn' := List.nodup_cons.mp hn
    have ih := putP_at as kvs (upd H a (.tup [p.1, p.2])) (Nat.succ.inj h) hn'.2
    refine .cons ?_ ih
    show putP (upd H a (.tup [p.1, p.2])) as kvs a = some (.tup [p.1, p.2])
    rw [putP_off as kvs _ hn'.1, upd_same]
theorem ne_of {a b : Nat} (h : a < b ∨ b < a) : a ≠ b := by omega
theorem nmem2 {c x y : Nat} (h1 : c ≠ x) (h2 : c ≠ y) : c ∉ [x, y] := by simp [h1, h2]
theorem lt2 {x y n : Nat} (h1 : x < n) (h2 : y < n) : ∀ c ∈ [x, y], c < n := fun c h => by
  rcases List.mem_cons.mp h with z | z
  · rw [z]; exact h1
  · rw [List.mem_singleton.mp z]; exact h2
theorem ne4 {b B : Nat} (h : b < B) : b ≠ B + 4 ∧ b ≠ B + 3 ∧ b ≠ B ∧ b ≠ B + 1 := by omega
theorem sepZ (B a b : Nat) (la : a < B) (lb : b < B) : ZipSep2 (B + 4) (B + 2) (B + 3) B (B + 1) [B, a] [B + 1, b] :=
  ⟨ne_of (by omega), ne_of (by omega), ne_of (by omega), ne_of (by omega), List.mem_cons_self, nmem2 (by omega) (by omega), nmem2 (by omega) (by omega), ne_of (by omega), List.mem_cons_self, nmem2 (by omega) (by omega), nmem2 (by omega) (by omega), nmem2 (by omega) (by omega), nmem2 (by omega) (by omega)⟩
section
variable {X : Cx} {e e2 : Expr} {ta : TA} {p q pos zpos : Pos}
theorem items_laidZ {pins : List (Addr × Obj)} {σ : L2.St} {H : Hp} {s : Shared} {h' : Heap} {tk : Nat} {xs ys : List V} {its its2 : List Value} {acc : Array Value} {c : Nat} {as : List Addr} {S : Addr} (I : Inv X pins σ H s) (hz : xs.length ≤ sizeLine) (hxy : xs.length = ys.length) (r1 : Vals xs its) (r2 : Vals ys its2)
    (hk : ∀ b o, s.heap.get? b = some o → h'.get? b = some o) (hlo : s.heap.objs.size ≤ S) (hS : h'.get? S = some { cls := .type "list", dict := none, data := .seq acc c, slots := #[] }) (hl : as.length = xs.length) (hG : Zpm.ZG (fun i v => its.toArray[i]? = some v) (fun i v => its2.toArray[i]? = some v) S h' as) (hacc : acc.toList = as.map Value.ref) :
    ∃ H' : Hp, (∀ b o, H b = some o → H' b = some o) ∧ H S = none ∧ (∀ t ∈ as, H t = none) ∧ S ∉ as ∧ H' S = some (.lst (as.map V.ref)) ∧ Paired (fun (t : Addr) (q : V × V) => H' t = some (.tup [q.1, q.2])) as (xs.zip ys) ∧ Inv X pins σ H' { s with heap := h', toks := tk } := by
  have lk : (xs.zip ys).length = xs.length := by rw [List.length_zip]; omega
  have hSn : S ∉ as := fun z => Nat.lt_irrefl _ (hG.above _ z)
  have nd : as.Nodup := List.Pairwise.imp (fun {a b} (h : a < b) => Nat.ne_of_lt h) hG.rise
  have new : ∀ t ∈ as, H t = none := fun t ht => I.hok.fresh (Nat.le_trans hlo (Nat.le_of_lt (hG.above t ht)))
  have newS : H S = none := I.hok.fresh hlo
  have atP := putP_at as (xs.zip ys) (upd H S (.lst (as.map V.ref))) (by omega) nd
  have off : ∀ b, b ∉ as → b ≠ S → putP (upd H S (.lst (as.map V.ref))) as (xs.zip ys) b = H b := fun b h1 h2 => by rw [putP_off as _ _ h1, upd_ne h2]
  have low : ∀ b o, s.heap.get? b = some o → b ∉ as ∧ b ≠ S := fun b o e => ⟨fun z => absurd (Heap.lt_size e) (Nat.not_lt.mpr (Nat.le_trans hlo (Nat.le_of_lt (hG.above b z)))), Nat.ne_of_lt (Nat.lt_of_lt_of_le (Heap.lt_size e) hlo)⟩
  have kp : ∀ b u, H b = some u → (putP (upd H S (.lst (as.map V.ref))) as (xs.zip ys)) b = some u := fun b u e => by
    rw [off b (fun z => by rw [new b z] at e; cases e) (fun z => by rw [z, newS] at e; cases e)]
    exact e
  have eS : putP (upd H S (.lst (as.map V.ref))) as (xs.zip ys) S = some (.lst (as.map V.ref)) := by rw [putP_off as _ _ hSn, upd_same]
  refine ⟨putP (upd H S (.lst (as.map V.ref))) as (xs.zip ys), kp, newS, new, hSn, eS, atP, ?_⟩
  refine I.call' (ch := []) rfl ⟨fun b o q _ _ _ => hk b o q, fun b o q _ _ _ => ⟨o.slots, hk b o q⟩, fun b o q n _ => ?_, fun b o q _ => ⟨o, hk b o q⟩, fun b xs q => kp b _ q, fun b o u q => kp b _ q, fun b ps q => ⟨#[], by rw [kp b _ q]; simp⟩⟩ (fun b u q => ?_) I.bare fun b z => by simp at z
  · obtain ⟨z1, z2⟩ := low b o q
    rw [off b z1 z2]
    exact n
  · by_cases hb : b ∈ as
    · obtain ⟨j, pk, e1, e2, e3⟩ := LiI.paired_ix atP hb
      rw [e3] at q
      cases q
      obtain ⟨x1, x2, f1, f2, f3⟩ := hG.pairs j b e1
      obtain ⟨g1, g2⟩ := List.getElem?_zip_eq_some.mp e2
      obtain ⟨u1, w1, w2⟩ := r1.get g1
      obtain ⟨u2, w3, w4⟩ := r2.get g2
      have q1 : x1 = u1 := by
        have : its[j]? = some x1 := by simpa using f1
        rw [w1] at this
        exact (Option.some.inj this).symm
      have q2 : x2 = u2 := by
        have : its2[j]? = some x2 := by simpa using f2
        rw [w3] at this
        exact (Option.some.inj this).symm
      subst q1 q2
      exact ⟨by show 2 ≤ sizeLine; decide, [x1, x2], .cons w2 (.cons w4 .nil), ⟨_, f3, rfl, _, rfl⟩⟩
    · by_cases hb2 : b = S
      · rw [hb2] at q ⊢
        rw [eS] at q
        cases q
        refine ⟨by rw [List.length_map]; omega, acc.toList, c, by rw [hacc]; exact LiI.vals_refs as, ?_⟩
        rw [Array.toArray_toList]
        exact hS
      · rw [off b hb hb2] at q
        exact (I.hok b u q).stay (fun d v _ y => hk d v y) (fun d y => kp d _ y) fun d xs y => kp d _ y
def tListZip (K : PySem.W.Frag) (ta : TA) : TE := fun σ H Q => ta σ H fun vs H1 => ∃ a b xs ys, vs = [.ref a, .ref b] ∧ SqL K H1 a xs ∧ SqT K H1 b ys ∧ xs.length = ys.length ∧
  ∀ (H' : Hp) (p : Addr) (ts : List Addr), (∀ b o, H1 b = some o → H' b = some o) → H1 p = none → (∀ t ∈ ts, H1 t = none) → p ∉ ts → H' p = some (.lst (ts.map V.ref)) → Paired (fun (t : Addr) (q : V × V) => H' t = some (.tup [q.1, q.2])) ts (xs.zip ys) → Q (.ref p) H'
theorem pe_listZipM (hc : X.calm = true) (ha : PA X [e, e2] ta) (hg : Gl X "list") (hm : X.mg "list" = none) (hv : bootBuiltins "list" = some (.type "list")) (hg2 : Gl X "zip") (hm2 : X.mg "zip" = none)
    (hs : starEach [.Call (.Name "zip" q) [e, e2] [] zpos] X.env = (false, eval (.Call (.Name "zip" q) [e, e2] [] zpos) X.env) :: starEach [] X.env := by rfl)
    (hs2 : starEach [e, e2] X.env = (false, eval e X.env) :: starEach [e2] X.env := by rfl) (hpl : (backTo zpos (starEach [e2] X.env)).any (·.1) = false := by rfl) :
    PE X (.Call (.Name "list" p) [.Call (.Name "zip" q) [e, e2] [] zpos] [] pos) (tListZip X.K ta) := by
  refine ⟨fun pins s σ H Q I hq => ?_⟩
  refine wpAny_Call_Name_kw (ld_blt I hg hm hv ?_)
  refine PyProof.Rows.callWith_type1 ?_ hs rfl
  rw [hs]
  show wpAny _ _ (spliced ((false, eval (.Call (.Name "zip" q) [e, e2] [] zpos) X.env) :: backTo pos (starEach [] X.env))) _ _ s
  refine Calls.spliced_cons ?_
  refine wpAny_Call_Name_kw (ld_blt I hg2 hm2 PyProof.Rows.boot_zip (PyProof.Rows.callWith_type1 (thn (ha.run zpos pins s σ H _ I hq) fun us s1 ⟨vs, H1, I1, r1, q1⟩ => ?_) hs2 hpl))
  obtain ⟨a, b, xs, ys, ex, hqx, hqy, hl, q1⟩ := q1
  subst ex
  cases r1 with
  | cons r rr =>
    cases rr with
    | cons r' rr =>
      cases rr
      cases r
      cases r'
      obtain ⟨its, rv, p1, hz1⟩ := I1.list hqx
      obtain ⟨its2, rv2, p2, _⟩ := I1.tuple hqy
      have la : a < s1.heap.objs.size := p1.lt
      have lb : b < s1.heap.objs.size := by obtain ⟨o2, ho2, _⟩ := id p2; exact Heap.lt_size ho2
      have e1 := rv.length
      have e2 := rv2.length
      have hd := I1.ok.hd hc
      refine zip_begins2 (begins_list a its.toArray) (begins_tuple b its2.toArray) p1.isList p2 fun h' hz hti hto g1 g2 hsz hk => ?_
      refine Calls.spliced_nil ?_
      generalize hB : s1.heap.objs.size = B at *
      have D1 := Draws.list (prog := X.prog) (w := X.w) (A := X.A.in1.in1.in1) hd B a (Nat.ne_of_lt la) its.toArray
      have D2 := Draws.tuple (prog := X.prog) (w := X.w) (A := X.A.in1.in1.in1) hd (B + 1) b (Nat.ne_of_lt (Nat.lt_succ_of_lt lb)) its2.toArray
      have ez : its2.toArray.size = its.toArray.size := by rw [List.size_toArray, List.size_toArray]; omega
      rw [ez] at D2
      refine Zpm.z_call (s := { s1 with heap := h' }) (n := its.toArray.size) (sepZ B a b la lb) D1 D2 (by rw [List.size_toArray]; omega) hz hti ⟨_, _, hto⟩ ⟨⟨_, g1, rfl, rfl⟩, p1.isList.at fun o e => hk a o e⟩ ⟨⟨_, g2, rfl, rfl⟩, Heap.IsTuple.at p2 fun o e => hk b o e⟩ ?_ ?_ fun h2 tk acc c as hk2 hS hl2 hG hacc => ?_
      · show ∀ c ∈ _, c < h'.objs.size
        rw [hsz]
        exact lt2 (Nat.lt_add_of_pos_right (by decide)) (Nat.lt_of_lt_of_le la (Nat.le_add_right _ _))
      · show ∀ c ∈ _, c < h'.objs.size
        rw [hsz]
        exact lt2 (Nat.add_lt_add_left (by decide) _) (Nat.lt_of_lt_of_le lb (Nat.le_add_right _ _))
      · have hk3 : ∀ b o, s1.heap.get? b = some o → h2.get? b = some o := fun b o e => by
          have lt := Heap.lt_size e
          rw [hB] at lt
          obtain ⟨z1, z2, z3, z4⟩ := ne4 lt
          exact hk2 b o z1 z2 z3 z4 (hk b o e)
        obtain ⟨H', k1, k2, k3, k4, k5, k6, J⟩ := items_laidZ (tk := tk) (S := h'.objs.size) I1 hz1 hl rv rv2 hk3 (by rw [hsz, hB]; exact Nat.le_add_right _ _) hS (by rw [hl2, List.size_toArray]; omega) hG hacc
        exact ⟨.ref _, H', J, rfl, q1 H' _ as k1 k2 k3 k4 k5 k6⟩
end

/-! ### list(zip(a list, a tuple)) at the law's level -/
def hole (H : Hp) (p : Addr) : Hp := fun b => if b = p then none else H b
theorem hole_upd {H : Hp} {p : Addr} {o : HO} (h : H p = some o) : H = upd (hole H p) p o := by
  funext b
  by_cases e : b = p
  · rw [e, upd_same]; exact h
  · rw [upd_ne e]
    unfold hole
    rw [if_neg e]
theorem zip_vrs {K : PySem.W.Frag} {ad : Adr} {b : Nat} {H : Hp} : ∀ {xs ys : List Val} {us vs : List V} {ts : List Addr}, VRs K ad b H xs us → VRs K ad b H ys vs → xs.length = ys.length → Paired (fun (t : Addr) (q : V × V) => H t = some (.tup [q.1, q.2])) ts (us.zip vs) → VRs K ad b H (zip2M xs ys) (ts.map V.ref)
  | [], [], _, _, _, .nil, .nil, _, .nil => .nil
  | [], _ :: _, _, _, _, _, _, hl, _ => by cases hl
  | _ :: _, [], _, _, _, _, _, hl, _ => by cases hl
  | x :: xs, y :: ys, _, _, _, .cons r1 r2, .cons q1 q2, hl, .cons p1 p2 => .cons (.tup (.inl (.inl p1)) (.cons r1 (.cons q1 .nil))) (zip_vrs r2 q2 (Nat.succ.inj hl) p2)
theorem paired_in {α β : Type} {F G : α → β → Prop} : ∀ {xs : List α} {ys : List β}, Paired F xs ys → (∀ x y, x ∈ xs → F x y → G x y) → Paired G xs ys
  | _, _, .nil, _ => .nil
  | _, _, .cons h t, g => .cons (g _ _ List.mem_cons_self h) (paired_in t fun x y hx => g x y (List.mem_cons_of_mem _ hx))
def lstZipM : List Val → Mu → R Val
  | [.loc n, .tup ys], μ => match μ.ob n with
    | some (.lst xs) => if xs.length = ys.length then .ok (.loc μ.nx) (μ.new (.lst (zip2M xs ys))) else .no
    | _ => .no
  | _, _ => .no
section
variable {X : Cx} {E : XK} {e e2 : Expr} {mr : MA} {p q pos zpos : Pos}
theorem pm_listZipM (hc : X.calm = true) (ha : PMA X E [e, e2] mr) (hg : Gl X "list") (hm : X.mg "list" = none) (hv : bootBuiltins "list" = some (.type "list")) (hg2 : Gl X "zip") (hm2 : X.mg "zip" = none)
    (hs : starEach [.Call (.Name "zip" q) [e, e2] [] zpos] X.env = (false, eval (.Call (.Name "zip" q) [e, e2] [] zpos) X.env) :: starEach [] X.env := by rfl)
    (hs2 : starEach [e, e2] X.env = (false, eval e X.env) :: starEach [e2] X.env := by rfl) (hpl : (backTo zpos (starEach [e2] X.env)).any (·.1) = false := by rfl) :
    PM X E (.Call (.Name "list" p) [.Call (.Name "zip" q) [e, e2] [] zpos] [] pos) (mFn lstZipM mr) :=
  PE.imp (pe_listZipM hc ha hg hm hv hg2 hm2 hs hs2 hpl) fun σ H Q ⟨w, ρ, μ, S, EN, hp⟩ => ⟨w, ρ, μ, S, EN, Post.bind hp fun vs μ1 w1 H1 us S1 r1 g1 h1 => by
    unfold lstZipM at h1
    split at h1
    · rename_i n ys
      cases r1 with
      | cons r1 r2 =>
      cases r2 with
      | cons r2 r3 =>
        cases r3
        cases r1
        cases r2 with
        | tup q2 ry =>
          split at h1
          · rename_i xs hn
            split at h1
            · rename_i hl
              obtain ⟨us, q1, rx⟩ := S1.ok _ _ hn
              have l1 := rx.length
              have l2 := ry.length
              refine ⟨_, _, us, _, rfl, .of q1, q2, by omega, fun H' p ts k1 k2 k3 k4 k5 k6 => ?_⟩
              have e0 := hole_upd k5
              have kt : ∀ b o, H1 b = some o → hole H' p b = some o := fun b o z => by
                unfold hole
                rw [if_neg (fun y => by rw [y, k2] at z; cases z)]
                exact k1 b o z
              obtain ⟨S2, g2⟩ := S1.same kt
              have k7 : Paired (fun (t : Addr) (q : V × V) => hole H' p t = some (.tup [q.1, q.2])) ts (us.zip _) := paired_in k6 fun t q ht hq => by
                unfold hole
                rw [if_neg (fun y => k4 (by rw [← y]; exact ht))]
                exact hq
              have rs := zip_vrs (VRs.grow g2 rx) (VRs.grow g2 ry) hl k7
              obtain ⟨w4, S4, g4, e4⟩ := S2.newL (p := p) (by unfold hole; rw [if_pos rfl]) rs
              rw [← e0] at S4 g4
              exact h1 w4 _ _ S4 (by rw [← e4]; exact VR.loc (Nat.lt_succ_self _)) (g2.trans g4)
            · exact h1.elim
          · exact h1.elim
    · exact h1.elim⟩
end

/-! ### never taken; defs called by their argument's name (k25) -/
def sNo : MS := fun _ _ => .no
theorem pmss_no {X : Cx} {E : XK} {sts : List Stmt} : PMSs X E sts sNo := ⟨fun pins s σ H D I hw => let ⟨_, _, _, _, _, z⟩ := hw; z.elim⟩
section
variable {K : PySem.W.Frag} {mg : Str → Option Value}
theorem bmK_show_call (T : Tx K mg) {ks : List Str} (h : ks = [("call" : Str)]) : KBn K (fdAt K (gA "show_call" K)) ["call"] 0 ks (fun _ ws => pick [0] ws) (fun _ zs => pick [0] zs) := by
  subst h
  exact kbindsN T.f_show_call 0 ["call"] (fun _ b => pick [0] b) (fun _ r2 => pick_vals r2 _) fun kV doc pm an cdv ct us ws l1 l2 => match us, ws, l1, l2 with | [], [_], _, _ => rfl
theorem bmK_read_call (T : Tx K mg) {ks : List Str} (h : ks = [("text" : Str)]) : KBn K (fdAt K (gA "read_call" K)) ["text"] 0 ks (fun _ ws => pick [0] ws) (fun _ zs => pick [0] zs) := by
  subst h
  exact kbindsN T.f_read_call 0 ["text"] (fun _ b => pick [0] b) (fun _ r2 => pick_vals r2 _) fun kV doc pm an cdv ct us ws l1 l2 => match us, ws, l1, l2 with | [], [_], _, _ => rfl
theorem bmK_read_calls (T : Tx K mg) {ks : List Str} (h : ks = [("text" : Str)]) : KBn K (fdAt K (gA "read_calls" K)) ["text"] 0 ks (fun _ ws => pick [0] ws) (fun _ zs => pick [0] zs) := by
  subst h
  exact kbindsN T.f_read_calls 0 ["text"] (fun _ b => pick [0] b) (fun _ r2 => pick_vals r2 _) fun kV doc pm an cdv ct us ws l1 l2 => match us, ws, l1, l2 with | [], [_], _, _ => rfl
end

def m_show_argument : MS :=
    sSeq (sIf (mTest (mOp isM' (mV 0) (mC .non))) (sRet (mC (.str "-"))) (sNil))
    (sRet (mIf (mTest (mUn isiT (mV 0))) (mV 0) (mFn strM (mCons (mV 0) (mNil)))))
def d_show_argument : List Val → Mu → R Val := runM 1 1 m_show_argument
section
variable {P : Program} {w : World} {K : PySem.W.Frag} {mg : Str → Option Value} {base : Heap}
theorem sm_show_argument : FnScope ["argument"] ["argument"] (defScope s_show_argument) := ⟨rfl, rfl, rfl, by decide +kernel, rfl, by decide +kernel, by decide +kernel⟩
theorem bm_show_argument (T : Tx K mg) : Binds K (fdAt K (gA "show_argument" K)) ["argument"] [] := FunD.bindsN T.f_show_argument fun _ _ _ _ _ _ us hl => match us, hl with | [_], _ => rfl
theorem okm_show_argument (T : Tx K mg) : FnG P w K mg base CX0 1 (gA "show_argument" K) (fdAt K (gA "show_argument" K)) ["argument"] (spM K 1 d_show_argument) := by
  refine okM T.f_show_argument sm_show_argument rfl rfl fun cdv A outer s H hg hr => ?_
  have hu := hr.units
  have hu1 := hu_of hr
  have hu2 := hr.units1
  exact pmss_cons (pms_if (pmt_cmp c_is (pm_var (pv 0)) (pm_non)) (pmss_one (pms_ret (pm_gstr (by rfl) T.t_NOTHING))) (pmss_nil))
      (pmss_one (pms_ret (pm_ifExp (pmt_val (pm_isiT (by rfl) T.free_isinstance (by rfl) T.free_str (by decide +kernel) (pm_var (pv 0)))) (pm_var (pv 0)) (pm_callTy call_strIS p_str (by rfl) T.free_str (by decide +kernel) (pma_cons (pm_var (pv 0)) (pma_nil))))))
end

def m_show_call : MS :=
    sRet (mOp joinR (mC (.str " ")) (mLc (iSeq (mV 0)) [1] (tgN 1) (mYes) (mCall 1 d_show_argument (mCons (mV 1) (mNil)))))
def d_show_call : List Val → Mu → R Val := runM 1 2 m_show_call
section
variable {P : Program} {w : World} {K : PySem.W.Frag} {mg : Str → Option Value} {base : Heap}
theorem sm_show_call : FnScope ["call", "part"] ["call"] (defScope s_show_call) := ⟨rfl, rfl, rfl, by decide +kernel, rfl, by decide +kernel, by decide +kernel⟩
theorem bm_show_call (T : Tx K mg) : Binds K (fdAt K (gA "show_call" K)) ["call"] [] := FunD.bindsN T.f_show_call fun _ _ _ _ _ _ us hl => match us, hl with | [_], _ => rfl
theorem okm_show_call (T : Tx K mg) : FnG P w K mg base CX0 2 (gA "show_call" K) (fdAt K (gA "show_call" K)) ["call"] (spM K 1 d_show_call) := by
  refine okM T.f_show_call sm_show_call rfl rfl fun cdv A outer s H hg hr => ?_
  have hu := hr.units
  have hu1 := hu_of hr
  have hu2 := hr.units1
  exact pmss_one (pms_ret (pm_join (pm_str) (pm_lc (own := [("part", 1)]) rfl sm_show_call.nd (pmi_seq (pm_var (pv 0))) (blkOk_by (N := ["call", "part"]) (sc := defScope s_show_call) (by decide +kernel)) (fun _ _ _ _ _ => pmg_name (i := 1) sm_show_call.nd rfl (by first | exact Or.inl rfl | exact Or.inr rfl)) (fun _ _ _ _ _ => pmts_nil) (fun _ _ _ _ _ => pm_call (okm_show_argument T) hg (hr.mono (by decide)) (by rfl) T.g_show_argument T.f_show_argument.kp (bm_show_argument T) (pma_cons (pm_var (pv 1)) (pma_nil))))))
end

def m_is_number_text_1 : MS :=
    sIf (mOr (mNot (mTest (mChain leM leM (mC (.int 1)) (mFn lenM (mCons (mV 0) (mNil))) (mC (.int 9))))) (mNot (mTest (mFn allM (mCons (mLc (iStrM (mV 0)) [1] (tgN 1) (mYes) (mOp inSgM (mV 1) (mC (.str "0123456789")))) (mNil)))))) (sRet (mC (.bl false))) (sNil)
def m_is_number_text_2 : MS :=
    sRet (mOrT (mOp eqM (mV 0) (mC (.str "0"))) (mOp neM (mOp ixSM (mV 0) (mC (.int 0))) (mC (.str "0"))))
def m_is_number_text : MS :=
    sSeq (m_is_number_text_1)
    (m_is_number_text_2)
def d_is_number_text : List Val → Mu → R Val := runM 1 2 m_is_number_text
section
variable {P : Program} {w : World} {K : PySem.W.Frag} {mg : Str → Option Value} {base : Heap}
theorem sm_is_number_text : FnScope ["text", "sign"] ["text"] (defScope s_is_number_text) := ⟨rfl, rfl, rfl, by decide +kernel, rfl, by decide +kernel, by decide +kernel⟩
theorem bm_is_number_text (T : Tx K mg) : Binds K (fdAt K (gA "is_number_text" K)) ["text"] [] := FunD.bindsN T.f_is_number_text fun _ _ _ _ _ _ us hl => match us, hl with | [_], _ => rfl
theorem okm_is_number_text (T : Tx K mg) : FnG P w K mg base CX0 1 (gA "is_number_text" K) (fdAt K (gA "is_number_text" K)) ["text"] (spM K 1 d_is_number_text) := by
  refine okM T.f_is_number_text sm_is_number_text rfl rfl fun cdv A outer s H hg hr => ?_
  have hu := hr.units
  have hu1 := hu_of hr
  have hu2 := hr.units1
  exact pmss_cons (pms_if (PMW.t (pmw_or (pmt_not (pmt_chain c_le c_le (pm_int) (pm_callB call_len p_len (by rfl) T.free_len PySem.boot_len (pma_cons (pm_var (pv 0)) (pma_nil))) (pm_gint (by rfl) T.i_MOST_DIGITS))) (pmw_or1 (pmt_not (pmt_val (pm_callB (cr_allB rfl) p_all (by rfl) T.free_all (by decide +kernel) (pma_cons (pm_lc (own := [("sign", 1)]) rfl sm_is_number_text.nd (pmi_str (pm_var (pv 0))) (blkOk_by (N := ["text", "sign"]) (sc := defScope s_is_number_text) (by decide +kernel)) (fun _ _ _ _ _ => pmg_name (i := 1) sm_is_number_text.nd rfl (by first | exact Or.inl rfl | exact Or.inr rfl)) (fun _ _ _ _ _ => pmts_nil) (fun _ _ _ _ _ => pm_cmp c_inSg (pm_var (pv 1)) (pm_gstr (by rfl) T.t_DIGITS))) (pma_nil)))))))) (pmss_one (pms_ret (pm_bl))) (pmss_nil))
      (pmss_one (pms_ret (pm_orT (pm_cmp (c_eq hu) (pm_var (pv 0)) (pm_str)) (pm_one (pm_cmp (c_ne hu) (pm_ixS (pm_var (pv 0)) (pm_int)) (pm_str))))))
end

def m_is_argument_1 : MS :=
    sIf (mTest (mOp eqM (mV 1) (mC (.str "word")))) (sRet (mOp inTM (mV 0) (mTup (mCons (mC (.str "level")) (mCons (mC (.str "edge")) (mCons (mC (.str "once")) (mNil))))))) (sNil)
def m_is_argument_2 : MS :=
    sRet (mOrT (mCall 1 d_is_number_text (mCons (mV 0) (mNil))) (mAndT (mOp eqM (mV 1) (mC (.str "optional"))) (mOp eqM (mV 0) (mC (.str "-")))))
def m_is_argument : MS :=
    sSeq (m_is_argument_1)
    (m_is_argument_2)
def d_is_argument : List Val → Mu → R Val := runM 2 2 m_is_argument
section
variable {P : Program} {w : World} {K : PySem.W.Frag} {mg : Str → Option Value} {base : Heap}
theorem sm_is_argument : FnScope ["text", "kind"] ["text", "kind"] (defScope s_is_argument) := ⟨rfl, rfl, rfl, by decide +kernel, rfl, by decide +kernel, by decide +kernel⟩
theorem bm_is_argument (T : Tx K mg) : Binds K (fdAt K (gA "is_argument" K)) ["text", "kind"] [] := FunD.bindsN T.f_is_argument fun _ _ _ _ _ _ us hl => match us, hl with | [_, _], _ => rfl
theorem okm_is_argument (T : Tx K mg) : FnG P w K mg base CX0 2 (gA "is_argument" K) (fdAt K (gA "is_argument" K)) ["text", "kind"] (spM K 2 d_is_argument) := by
  refine okM T.f_is_argument sm_is_argument rfl rfl fun cdv A outer s H hg hr => ?_
  have hu := hr.units
  have hu1 := hu_of hr
  have hu2 := hr.units1
  exact pmss_cons (pms_if (pmt_cmp (c_eq hu) (pm_var (pv 1)) (pm_str)) (pmss_one (pms_ret (pm_cmp c_inT (pm_var (pv 0)) (pm_tup (pma_cons (pm_gstr (by rfl) T.t_LEVEL) (pma_cons (pm_gstr (by rfl) T.t_EDGE) (pma_cons (pm_gstr (by rfl) T.t_ONCE) (pma_nil)))))))) (pmss_nil))
      (pmss_one (pms_ret (pm_orT (pm_call (okm_is_number_text T) hg (hr.mono (by decide)) (by rfl) T.g_is_number_text T.f_is_number_text.kp (bm_is_number_text T) (pma_cons (pm_var (pv 0)) (pma_nil))) (pm_one (pm_andT (pm_cmp (c_eq hu) (pm_var (pv 1)) (pm_str)) (pm_one (pm_cmp (c_eq hu) (pm_var (pv 0)) (pm_gstr (by rfl) T.t_NOTHING))))))))
end

def m_argument_in_1 : MS :=
    sRet (mIf (mTest (mOp eqM (mV 0) (mC (.str "-")))) (mC .non) (mFn intSM (mCons (mV 0) (mNil))))
def m_argument_in : MS :=
    sSeq (sIf (mTest (mOp eqM (mV 1) (mC (.str "word")))) (sRet (mV 0)) (sNil))
    (m_argument_in_1)
def d_argument_in : List Val → Mu → R Val := runM 2 2 m_argument_in
section
variable {P : Program} {w : World} {K : PySem.W.Frag} {mg : Str → Option Value} {base : Heap}
theorem sm_argument_in : FnScope ["text", "kind"] ["text", "kind"] (defScope s_argument_in) := ⟨rfl, rfl, rfl, by decide +kernel, rfl, by decide +kernel, by decide +kernel⟩
theorem bm_argument_in (T : Tx K mg) : Binds K (fdAt K (gA "argument_in" K)) ["text", "kind"] [] := FunD.bindsN T.f_argument_in fun _ _ _ _ _ _ us hl => match us, hl with | [_, _], _ => rfl
theorem okm_argument_in (T : Tx K mg) : FnG P w K mg base CX0 1 (gA "argument_in" K) (fdAt K (gA "argument_in" K)) ["text", "kind"] (spM K 2 d_argument_in) := by
  refine okM T.f_argument_in sm_argument_in rfl rfl fun cdv A outer s H hg hr => ?_
  have hu := hr.units
  have hu1 := hu_of hr
  have hu2 := hr.units1
  exact pmss_cons (pms_if (pmt_cmp (c_eq hu) (pm_var (pv 1)) (pm_str)) (pmss_one (pms_ret (pm_var (pv 0)))) (pmss_nil))
      (pmss_one (pms_ret (pm_ifExp (pmt_cmp (c_eq hu) (pm_var (pv 0)) (pm_gstr (by rfl) T.t_NOTHING)) (pm_non) (pm_callTy call_int_str p_intS (by rfl) T.free_int (by decide +kernel) (pma_cons (pm_var (pv 0)) (pma_nil))))))
end

def m_call_in_1 : MS :=
    sIf (mOr (mTest (mOp eqM (mFn lenM (mCons (mV 3) (mNil))) (mC (.int 0)))) (mTest (mOp neM (mFn lenM (mCons (mV 2) (mNil))) (mFn lenM (mCons (mV 3) (mNil)))))) (sRet (mC .non)) (sNil)
def m_call_in_2 : MS :=
    sIf (mNot (mTest (mFn allM (mCons (mLc (iSeq (mV 4)) [5, 6] (tgT [5, 6]) (mYes) (mCall 2 d_is_argument (mCons (mV 5) (mCons (mV 6) (mNil))))) (mNil))))) (sRet (mC .non)) (sNil)
def m_call_in_3 : MS :=
    sRet (mTup (mCons (mV 1) (mStar (mLc (iSeq (mV 4)) [5, 6] (tgT [5, 6]) (mYes) (mCall 2 d_argument_in (mCons (mV 5) (mCons (mV 6) (mNil))))) (mNil))))
def m_call_in : MS :=
    sSeq (sStar 1 2 (mUn (splM " ") (mV 0)))
    (sSeq (sSet 3 (mArgs (mV 1) (mTup (mNil))))
    (sSeq (m_call_in_1)
    (sSeq (sSet 4 (mFn lstZipM (mCons (mV 2) (mCons (mV 3) (mNil)))))
    (sSeq (m_call_in_2)
    (m_call_in_3)))))
def d_call_in : List Val → Mu → R Val := runM 1 7 m_call_in
section
variable {P : Program} {w : World} {K : PySem.W.Frag} {mg : Str → Option Value} {base : Heap}
theorem sm_call_in : FnScope ["text", "word", "parts", "kinds", "pairs", "part", "kind"] ["text"] (defScope s_call_in) := ⟨rfl, rfl, rfl, by decide +kernel, rfl, by decide +kernel, by decide +kernel⟩
theorem bm_call_in (T : Tx K mg) : Binds K (fdAt K (gA "call_in" K)) ["text"] [] := FunD.bindsN T.f_call_in fun _ _ _ _ _ _ us hl => match us, hl with | [_], _ => rfl
theorem okm_call_in (T : Tx K mg) (AD : ArgD K w) : FnG P w K mg base CX0 3 (gA "call_in" K) (fdAt K (gA "call_in" K)) ["text"] (spM K 1 d_call_in) := by
  refine okM T.f_call_in sm_call_in rfl rfl fun cdv A outer s H hg hr => ?_
  have hu := hr.units
  have hu1 := hu_of hr
  have hu2 := hr.units1
  exact pmss_cons (pms_star (i := 1) (j := 2) rfl (pm_split (pm_var (pv 0)) pm_str) sm_call_in.nd rfl rfl (by first | exact Or.inl rfl | exact Or.inr rfl) (by first | exact Or.inl rfl | exact Or.inr rfl))
      (pmss_cons (pms_set (i := 3) sm_call_in.nd rfl (by first | exact Or.inl rfl | exact Or.inr rfl) (pm_argsGet T AD (by rfl) (pm_var (pv 1)) (pm_tup (pma_nil))))
      (pmss_cons (pms_if (PMW.t (pmw_or (pmt_cmp (c_eq hu) (pm_callB call_len p_len (by rfl) T.free_len PySem.boot_len (pma_cons (pm_var (pv 3)) (pma_nil))) (pm_int)) (pmw_or1 (pmt_cmp (c_ne hu) (pm_callB call_len p_len (by rfl) T.free_len PySem.boot_len (pma_cons (pm_var (pv 2)) (pma_nil))) (pm_callB call_len p_len (by rfl) T.free_len PySem.boot_len (pma_cons (pm_var (pv 3)) (pma_nil))))))) (pmss_one (pms_ret (pm_non))) (pmss_nil))
      (pmss_cons (pms_set (i := 4) sm_call_in.nd rfl (by first | exact Or.inl rfl | exact Or.inr rfl) (pm_listZipM rfl (pma_cons (pm_var (pv 2)) (pma_cons (pm_var (pv 3)) (pma_nil))) (by rfl) T.free_list (by rfl) (by rfl) T.free_zip))
      (pmss_cons (pms_if (pmt_not (pmt_val (pm_callB (cr_allB rfl) p_all (by rfl) T.free_all (by decide +kernel) (pma_cons (pm_lc (own := [("part", 5), ("kind", 6)]) rfl sm_call_in.nd (pmi_seq (pm_var (pv 4))) (blkOk_by (N := ["text", "word", "parts", "kinds", "pairs", "part", "kind"]) (sc := defScope s_call_in) (by decide +kernel)) (fun _ _ _ _ _ => pmg_tup rfl (pmgs_cons (i := 5) sm_call_in.nd rfl (by first | exact Or.inl rfl | exact Or.inr rfl) (pmgs_cons (i := 6) sm_call_in.nd rfl (by first | exact Or.inl rfl | exact Or.inr rfl) (pmgs_nil)))) (fun _ _ _ _ _ => pmts_nil) (fun _ _ _ _ _ => pm_call (okm_is_argument T) hg (hr.mono (by decide)) (by rfl) T.g_is_argument T.f_is_argument.kp (bm_is_argument T) (pma_cons (pm_var (pv 5)) (pma_cons (pm_var (pv 6)) (pma_nil))))) (pma_nil))))) (pmss_one (pms_ret (pm_non))) (pmss_nil))
      (pmss_one (pms_ret (pm_tup (pma_cons (pm_var (pv 1)) (pma_star (pm_lc (own := [("part", 5), ("kind", 6)]) rfl sm_call_in.nd (pmi_seq (pm_var (pv 4))) (blkOk_by (N := ["text", "word", "parts", "kinds", "pairs", "part", "kind"]) (sc := defScope s_call_in) (by decide +kernel)) (fun _ _ _ _ _ => pmg_tup rfl (pmgs_cons (i := 5) sm_call_in.nd rfl (by first | exact Or.inl rfl | exact Or.inr rfl) (pmgs_cons (i := 6) sm_call_in.nd rfl (by first | exact Or.inl rfl | exact Or.inr rfl) (pmgs_nil)))) (fun _ _ _ _ _ => pmts_nil) (fun _ _ _ _ _ => pm_call (okm_argument_in T) hg (hr.mono (by decide)) (by rfl) T.g_argument_in T.f_argument_in.kp (bm_argument_in T) (pma_cons (pm_var (pv 5)) (pma_cons (pm_var (pv 6)) (pma_nil))))) (pma_nil))))))))))
end

def m_read_call : MS :=
    sSeq (sIf (mNot (mTest (mUn isiT (mV 0)))) (sNo) (sNil))
    (sSeq (sSet 1 (mCall 1 d_call_in (mCons (mV 0) (mNil))))
    (sSeq (sIf (mTest (mOp isM' (mV 1) (mC .non))) (sNo) (sNil))
    (sRet (mV 1))))
def d_read_call : List Val → Mu → R Val := runM 1 2 m_read_call
section
variable {P : Program} {w : World} {K : PySem.W.Frag} {mg : Str → Option Value} {base : Heap}
theorem sm_read_call : FnScope ["text", "call"] ["text"] (defScope s_read_call) := ⟨rfl, rfl, rfl, by decide +kernel, rfl, by decide +kernel, by decide +kernel⟩
theorem bm_read_call (T : Tx K mg) : Binds K (fdAt K (gA "read_call" K)) ["text"] [] := FunD.bindsN T.f_read_call fun _ _ _ _ _ _ us hl => match us, hl with | [_], _ => rfl
theorem okm_read_call (T : Tx K mg) (AD : ArgD K w) : FnG P w K mg base CX0 4 (gA "read_call" K) (fdAt K (gA "read_call" K)) ["text"] (spM K 1 d_read_call) := by
  refine okM T.f_read_call sm_read_call rfl rfl fun cdv A outer s H hg hr => ?_
  have hu := hr.units
  have hu1 := hu_of hr
  have hu2 := hr.units1
  exact pmss_cons (pms_if (pmt_not (pmt_val (pm_isiT (by rfl) T.free_isinstance (by rfl) T.free_str (by decide +kernel) (pm_var (pv 0))))) (pmss_no) (pmss_nil))
      (pmss_cons (pms_set (i := 1) sm_read_call.nd rfl (by first | exact Or.inl rfl | exact Or.inr rfl) (pm_call (okm_call_in T AD) hg (hr.mono (by decide)) (by rfl) T.g_call_in T.f_call_in.kp (bm_call_in T) (pma_cons (pm_var (pv 0)) (pma_nil))))
      (pmss_cons (pms_if (pmt_cmp c_is (pm_var (pv 1)) (pm_non)) (pmss_no) (pmss_nil))
      (pmss_one (pms_ret (pm_var (pv 1))))))
end

def m_show_calls : MS :=
    sRet (mOp joinR (mC (.str "\n")) (mLc (iSeq (mV 0)) [1] (tgN 1) (mYes) (mCall 1 d_show_call (mCons (mV 1) (mNil)))))
def d_show_calls : List Val → Mu → R Val := runM 1 2 m_show_calls
section
variable {P : Program} {w : World} {K : PySem.W.Frag} {mg : Str → Option Value} {base : Heap}
theorem sm_show_calls : FnScope ["calls", "call"] ["calls"] (defScope s_show_calls) := ⟨rfl, rfl, rfl, by decide +kernel, rfl, by decide +kernel, by decide +kernel⟩
theorem bm_show_calls (T : Tx K mg) : Binds K (fdAt K (gA "show_calls" K)) ["calls"] [] := FunD.bindsN T.f_show_calls fun _ _ _ _ _ _ us hl => match us, hl with | [_], _ => rfl
theorem okm_show_calls (T : Tx K mg) : FnG P w K mg base CX0 3 (gA "show_calls" K) (fdAt K (gA "show_calls" K)) ["calls"] (spM K 1 d_show_calls) := by
  refine okM T.f_show_calls sm_show_calls rfl rfl fun cdv A outer s H hg hr => ?_
  have hu := hr.units
  have hu1 := hu_of hr
  have hu2 := hr.units1
  exact pmss_one (pms_ret (pm_join (pm_str) (pm_lc (own := [("call", 1)]) rfl sm_show_calls.nd (pmi_seq (pm_var (pv 0))) (blkOk_by (N := ["calls", "call"]) (sc := defScope s_show_calls) (by decide +kernel)) (fun _ _ _ _ _ => pmg_name (i := 1) sm_show_calls.nd rfl (by first | exact Or.inl rfl | exact Or.inr rfl)) (fun _ _ _ _ _ => pmts_nil) (fun _ _ _ _ _ => pm_call (okm_show_call T) hg (hr.mono (by decide)) (by rfl) T.g_show_call T.f_show_call.kp (bm_show_call T) (pma_cons (pm_var (pv 1)) (pma_nil))))))
end

def m_read_calls_1 : MS :=
    sSeq (sSet 4 (mCall 1 d_call_in (mCons (mV 3) (mNil))))
    (sSeq (sIf (mTest (mOp isM' (mV 4) (mC .non))) (sNo) (sNil))
    (sExpr (mBm appM (mV 1) (mCons (mV 4) (mNil)))))
def m_read_calls_2 : MS :=
    sFor (iEnm (mCons (mIf (mTest (mOp neM (mV 0) (mC (.str "")))) (mUn (splM "\n") (mV 0)) (mLst (mNil))) (mNil))) (tgT [2, 3]) (m_read_calls_1)
def m_read_calls : MS :=
    sSeq (sIf (mNot (mTest (mUn isiT (mV 0)))) (sNo) (sNil))
    (sSeq (sSet 1 (mLst (mNil)))
    (sSeq (m_read_calls_2)
    (sRet (mV 1))))
def d_read_calls : List Val → Mu → R Val := runM 1 5 m_read_calls
section
variable {P : Program} {w : World} {K : PySem.W.Frag} {mg : Str → Option Value} {base : Heap}
theorem sm_read_calls : FnScope ["text", "found", "at", "line", "call"] ["text"] (defScope s_read_calls) := ⟨rfl, rfl, rfl, by decide +kernel, rfl, by decide +kernel, by decide +kernel⟩
theorem bm_read_calls (T : Tx K mg) : Binds K (fdAt K (gA "read_calls" K)) ["text"] [] := FunD.bindsN T.f_read_calls fun _ _ _ _ _ _ us hl => match us, hl with | [_], _ => rfl
theorem okm_read_calls (T : Tx K mg) (AD : ArgD K w) : FnG P w K mg base CX0 4 (gA "read_calls" K) (fdAt K (gA "read_calls" K)) ["text"] (spM K 1 d_read_calls) := by
  refine okM T.f_read_calls sm_read_calls rfl rfl fun cdv A outer s H hg hr => ?_
  have hu := hr.units
  have hu1 := hu_of hr
  have hu2 := hr.units1
  exact pmss_cons (pms_if (pmt_not (pmt_val (pm_isiT (by rfl) T.free_isinstance (by rfl) T.free_str (by decide +kernel) (pm_var (pv 0))))) (pmss_no) (pmss_nil))
      (pmss_cons (pms_set (i := 1) sm_read_calls.nd rfl (by first | exact Or.inl rfl | exact Or.inr rfl) (pm_lst (pma_nil)))
      (pmss_cons (pms_for PassesOwn.never rfl (pmi_enm (by rfl) T.free_enumerate (pma_cons (pm_ifExp (pmt_cmp (c_ne hu) (pm_var (pv 0)) (pm_str)) (pm_split (pm_var (pv 0)) pm_str) (pm_lst (pma_nil))) (pma_nil))) (pmg_tup rfl (pmgs_cons (i := 2) sm_read_calls.nd rfl (by first | exact Or.inl rfl | exact Or.inr rfl) (pmgs_cons (i := 3) sm_read_calls.nd rfl (by first | exact Or.inl rfl | exact Or.inr rfl) (pmgs_nil)))) (pmss_cons (pms_set (i := 4) sm_read_calls.nd rfl (by first | exact Or.inl rfl | exact Or.inr rfl) (pm_call (okm_call_in T AD) hg (hr.mono (by decide)) (by rfl) T.g_call_in T.f_call_in.kp (bm_call_in T) (pma_cons (pm_var (pv 3)) (pma_nil))))
      (pmss_cons (pms_if (pmt_cmp c_is (pm_var (pv 4)) (pm_non)) (pmss_no) (pmss_nil))
      (pmss_one (pms_expr (pm_bmL PySem.F.slot_list_append PySem.F.type_list_append mt_append p_append (pm_var (pv 1)) (pma_cons (pm_var (pv 4)) (pma_nil))))))))
      (pmss_one (pms_ret (pm_var (pv 1))))))
end

def m__law_bag_1 : MS :=
    sSet 3 (mOp modM (mFn intM (mCons (mOp addM (mOp addM (mOp addM (mOp mulM (mV 3) (mC (.int 44497))) (mOp modM (mFn intM (mCons (mV 5) (mNil))) (mC (.int 2147483549)))) (mOp mulM (mC (.int 71)) (mV 4))) (mC (.int 9))) (mNil))) (mC (.int 2147483549)))
def m__law_bag : MS :=
    sSeq (sSet 2 (mIf (mTest (mOp ltM (mV 1) (mFn lenM (mCons (mV 0) (mNil))))) (mOp getM (mV 0) (mV 1)) (mC (.int 0))))
    (sSeq (sSet 3 (mOp addM (mOp mulM (mC (.int 5227)) (mV 1)) (mC (.int 229))))
    (sSeq (sFor (iEnm (mCons (mSl (mV 0) (mP0) (mP (mC (.int 40)))) (mNil))) (tgT [4, 5]) (m__law_bag_1))
    (sRet (mLst (mCons (mIf (mTest (mOp geM (mFn absM (mCons (mV 2) (mNil))) (mOp powM (mC (.int 10)) (mC (.int 18))))) (mFn absM (mCons (mV 2) (mNil))) (mC (.int 0))) (mCons (mV 3) (mNil)))))))
def d__law_bag : List Val → Mu → R Val := runM 2 6 m__law_bag
section
variable {P : Program} {w : World} {K : PySem.W.Frag} {mg : Str → Option Value} {base : Heap}
theorem sm__law_bag : FnScope ["_law_script", "_law_at", "_law_cell", "_law_blend", "_law_k", "_law_each"] ["_law_script", "_law_at"] (defScope s__law_bag) := ⟨rfl, rfl, rfl, by decide +kernel, rfl, by decide +kernel, by decide +kernel⟩
theorem bm__law_bag (T : Tx K mg) : Binds K (fdAt K (gA "_law_bag" K)) ["_law_script", "_law_at"] [] := FunD.bindsN T.f__law_bag fun _ _ _ _ _ _ us hl => match us, hl with | [_, _], _ => rfl
theorem okm__law_bag (T : Tx K mg) : FnG P w K mg base CX0 1 (gA "_law_bag" K) (fdAt K (gA "_law_bag" K)) ["_law_script", "_law_at"] (spM K 2 d__law_bag) := by
  refine okM T.f__law_bag sm__law_bag rfl rfl fun cdv A outer s H hg hr => ?_
  have hu := hr.units
  have hu1 := hu_of hr
  have hu2 := hr.units1
  exact pmss_cons (pms_set (i := 2) sm__law_bag.nd rfl (by first | exact Or.inl rfl | exact Or.inr rfl) (pm_ifExp (pmt_cmp c_lt (pm_var (pv 1)) (pm_callB call_len p_len (by rfl) T.free_len PySem.boot_len (pma_cons (pm_var (pv 0)) (pma_nil)))) (pm_ix (pm_var (pv 0)) (pm_var (pv 1))) (pm_int)))
      (pmss_cons (pms_set (i := 3) sm__law_bag.nd rfl (by first | exact Or.inl rfl | exact Or.inr rfl) (pm_bin b_add (pm_bin b_mul (pm_int) (pm_var (pv 1))) (pm_int)))
      (pmss_cons (pms_for PassesOwn.never rfl (pmi_enm (by rfl) T.free_enumerate (pma_cons (pm_slice (pm_var (pv 0)) (pmo_none) (pmo_some (pm_int))) (pma_nil))) (pmg_tup rfl (pmgs_cons (i := 4) sm__law_bag.nd rfl (by first | exact Or.inl rfl | exact Or.inr rfl) (pmgs_cons (i := 5) sm__law_bag.nd rfl (by first | exact Or.inl rfl | exact Or.inr rfl) (pmgs_nil)))) (pmss_one (pms_set (i := 3) sm__law_bag.nd rfl (by first | exact Or.inl rfl | exact Or.inr rfl) (pm_bin b_mod (pm_callTy call_int1 p_int (by rfl) T.free_int (by decide +kernel) (pma_cons (pm_bin b_add (pm_bin b_add (pm_bin b_add (pm_bin b_mul (pm_var (pv 3)) (pm_int)) (pm_bin b_mod (pm_callTy call_int1 p_int (by rfl) T.free_int (by decide +kernel) (pma_cons (pm_var (pv 5)) (pma_nil))) (pm_int))) (pm_bin b_mul (pm_int) (pm_var (pv 4)))) (pm_int)) (pma_nil))) (pm_int)))))
      (pmss_one (pms_ret (pm_lst (pma_cons (pm_ifExp (pmt_cmp c_ge (pm_callB call_abs p_abs (by rfl) T.free_abs (by decide +kernel) (pma_cons (pm_var (pv 2)) (pma_nil))) (pm_bin b_pow (pm_int) (pm_int))) (pm_callB call_abs p_abs (by rfl) T.free_abs (by decide +kernel) (pma_cons (pm_var (pv 2)) (pma_nil))) (pm_int)) (pma_cons (pm_var (pv 3)) (pma_nil))))))))
end

def m__law_take : MS :=
    sSeq (sIf (mTest (mOp gtM (mOp getM (mV 0) (mC (.int 0))) (mC (.int 0)))) (sSeq (sSet 2 (mOp modM (mFn intM (mCons (mOp getM (mV 0) (mC (.int 0))) (mNil))) (mV 1)))
    (sSeq (sSto stoM (mV 0) (mC (.int 0)) (mOp fdivM (mOp getM (mV 0) (mC (.int 0))) (mV 1)))
    (sRet (mV 2)))) (sNil))
    (sSeq (sSto stoM (mV 0) (mC (.int 1)) (mOp modM (mFn intM (mCons (mOp addM (mOp mulM (mOp getM (mV 0) (mC (.int 1))) (mC (.int 38177))) (mC (.int 4001))) (mNil))) (mC (.int 2147483587))))
    (sRet (mOp modM (mOp fdivM (mOp modM (mFn intM (mCons (mOp mulM (mOp fdivM (mOp getM (mV 0) (mC (.int 1))) (mC (.int 11))) (mC (.int 52817))) (mNil))) (mC (.int 2147483629))) (mC (.int 32))) (mV 1))))
def d__law_take : List Val → Mu → R Val := runM 2 3 m__law_take
section
variable {P : Program} {w : World} {K : PySem.W.Frag} {mg : Str → Option Value} {base : Heap}
theorem sm__law_take : FnScope ["_law_bag_here", "_law_many", "_law_digit"] ["_law_bag_here", "_law_many"] (defScope s__law_take) := ⟨rfl, rfl, rfl, by decide +kernel, rfl, by decide +kernel, by decide +kernel⟩
theorem bm__law_take (T : Tx K mg) : Binds K (fdAt K (gA "_law_take" K)) ["_law_bag_here", "_law_many"] [] := FunD.bindsN T.f__law_take fun _ _ _ _ _ _ us hl => match us, hl with | [_, _], _ => rfl
theorem okm__law_take (T : Tx K mg) : FnG P w K mg base CX0 1 (gA "_law_take" K) (fdAt K (gA "_law_take" K)) ["_law_bag_here", "_law_many"] (spM K 2 d__law_take) := by
  refine okM T.f__law_take sm__law_take rfl rfl fun cdv A outer s H hg hr => ?_
  have hu := hr.units
  have hu1 := hu_of hr
  have hu2 := hr.units1
  exact pmss_cons (pms_if (pmt_cmp c_gt (pm_ix (pm_var (pv 0)) (pm_int)) (pm_int)) (pmss_cons (pms_set (i := 2) sm__law_take.nd rfl (by first | exact Or.inl rfl | exact Or.inr rfl) (pm_bin b_mod (pm_callTy call_int1 p_int (by rfl) T.free_int (by decide +kernel) (pma_cons (pm_ix (pm_var (pv 0)) (pm_int)) (pma_nil))) (pm_var (pv 1))))
      (pmss_cons (pms_sto (pm_bin b_fdiv (pm_ix (pm_var (pv 0)) (pm_int)) (pm_var (pv 1))) (pm_var (pv 0)) (pm_int))
      (pmss_one (pms_ret (pm_var (pv 2)))))) (pmss_nil))
      (pmss_cons (pms_sto (pm_bin b_mod (pm_callTy call_int1 p_int (by rfl) T.free_int (by decide +kernel) (pma_cons (pm_bin b_add (pm_bin b_mul (pm_ix (pm_var (pv 0)) (pm_int)) (pm_int)) (pm_int)) (pma_nil))) (pm_int)) (pm_var (pv 0)) (pm_int))
      (pmss_one (pms_ret (pm_bin b_mod (pm_bin b_fdiv (pm_bin b_mod (pm_callTy call_int1 p_int (by rfl) T.free_int (by decide +kernel) (pma_cons (pm_bin b_mul (pm_bin b_fdiv (pm_ix (pm_var (pv 0)) (pm_int)) (pm_int)) (pm_int)) (pma_nil))) (pm_int)) (pm_int)) (pm_var (pv 1))))))
end

def m__law_of : MS :=
    sRet (mOp getM (mV 1) (mCall 2 d__law_take (mCons (mV 0) (mCons (mFn lenM (mCons (mV 1) (mNil))) (mNil)))))
def d__law_of : List Val → Mu → R Val := runM 2 2 m__law_of
section
variable {P : Program} {w : World} {K : PySem.W.Frag} {mg : Str → Option Value} {base : Heap}
theorem sm__law_of : FnScope ["_law_bag_here", "_law_some"] ["_law_bag_here", "_law_some"] (defScope s__law_of) := ⟨rfl, rfl, rfl, by decide +kernel, rfl, by decide +kernel, by decide +kernel⟩
theorem bm__law_of (T : Tx K mg) : Binds K (fdAt K (gA "_law_of" K)) ["_law_bag_here", "_law_some"] [] := FunD.bindsN T.f__law_of fun _ _ _ _ _ _ us hl => match us, hl with | [_, _], _ => rfl
theorem okm__law_of (T : Tx K mg) : FnG P w K mg base CX0 2 (gA "_law_of" K) (fdAt K (gA "_law_of" K)) ["_law_bag_here", "_law_some"] (spM K 2 d__law_of) := by
  refine okM T.f__law_of sm__law_of rfl rfl fun cdv A outer s H hg hr => ?_
  have hu := hr.units
  have hu1 := hu_of hr
  have hu2 := hr.units1
  exact pmss_one (pms_ret (pm_ix (pm_var (pv 1)) (pm_call (okm__law_take T) hg (hr.mono (by decide)) (by rfl) T.g__law_take T.f__law_take.kp (bm__law_take T) (pma_cons (pm_var (pv 0)) (pma_cons (pm_callB call_len p_len (by rfl) T.free_len PySem.boot_len (pma_cons (pm_var (pv 1)) (pma_nil))) (pma_nil))))))
end

def m__law_number_1 : MS :=
    sIf (mTest (mOp eqM (mV 1) (mC (.int 3)))) (sRet (mCall 2 d__law_of (mCons (mV 0) (mCons (mLst (mCons (mC (.int 0)) (mCons (mC (.int 9)) (mCons (mC (.int 10)) (mCons (mC (.int 99)) (mCons (mC (.int 100)) (mCons (mC (.int 999999999)) (mCons (mC (.int 100000000)) (mCons (mC (.int 1000000)) (mNil)))))))))) (mNil))))) (sNil)
def m__law_number_2 : MS :=
    sRet (mCall 2 d__law_take (mCons (mV 0) (mCons (mOp getM (mLst (mCons (mC (.int 8)) (mCons (mC (.int 100)) (mCons (mC (.int 1000000000)) (mNil))))) (mV 1)) (mNil))))
def m__law_number : MS :=
    sSeq (sSet 1 (mCall 2 d__law_take (mCons (mV 0) (mCons (mC (.int 4)) (mNil)))))
    (sSeq (m__law_number_1)
    (m__law_number_2))
def d__law_number : List Val → Mu → R Val := runM 1 2 m__law_number
section
variable {P : Program} {w : World} {K : PySem.W.Frag} {mg : Str → Option Value} {base : Heap}
theorem sm__law_number : FnScope ["_law_bag_here", "_law_way"] ["_law_bag_here"] (defScope s__law_number) := ⟨rfl, rfl, rfl, by decide +kernel, rfl, by decide +kernel, by decide +kernel⟩
theorem bm__law_number (T : Tx K mg) : Binds K (fdAt K (gA "_law_number" K)) ["_law_bag_here"] [] := FunD.bindsN T.f__law_number fun _ _ _ _ _ _ us hl => match us, hl with | [_], _ => rfl
theorem okm__law_number (T : Tx K mg) : FnG P w K mg base CX0 3 (gA "_law_number" K) (fdAt K (gA "_law_number" K)) ["_law_bag_here"] (spM K 1 d__law_number) := by
  refine okM T.f__law_number sm__law_number rfl rfl fun cdv A outer s H hg hr => ?_
  have hu := hr.units
  have hu1 := hu_of hr
  have hu2 := hr.units1
  exact pmss_cons (pms_set (i := 1) sm__law_number.nd rfl (by first | exact Or.inl rfl | exact Or.inr rfl) (pm_call (okm__law_take T) hg (hr.mono (by decide)) (by rfl) T.g__law_take T.f__law_take.kp (bm__law_take T) (pma_cons (pm_var (pv 0)) (pma_cons (pm_int) (pma_nil)))))
      (pmss_cons (pms_if (pmt_cmp (c_eq hu) (pm_var (pv 1)) (pm_int)) (pmss_one (pms_ret (pm_call (okm__law_of T) hg (hr.mono (by decide)) (by rfl) T.g__law_of T.f__law_of.kp (bm__law_of T) (pma_cons (pm_var (pv 0)) (pma_cons (pm_lst (pma_cons (pm_int) (pma_cons (pm_int) (pma_cons (pm_int) (pma_cons (pm_int) (pma_cons (pm_int) (pma_cons (pm_int) (pma_cons (pm_int) (pma_cons (pm_int) (pma_nil)))))))))) (pma_nil)))))) (pmss_nil))
      (pmss_one (pms_ret (pm_call (okm__law_take T) hg (hr.mono (by decide)) (by rfl) T.g__law_take T.f__law_take.kp (bm__law_take T) (pma_cons (pm_var (pv 0)) (pma_cons (pm_ix (pm_lst (pma_cons (pm_int) (pma_cons (pm_int) (pma_cons (pm_int) (pma_nil))))) (pm_var (pv 1))) (pma_nil)))))))
end

def m__law_call_1 : MS :=
    sUnp [1, 2, 3, 4] (mLc (iRng1 (mCons (mC (.int 4)) (mNil))) [5] (tgN 5) (mYes) (mCall 1 d__law_number (mCons (mV 0) (mNil))))
def m__law_call_2 : MS :=
    sPar 6 7 (mCons (mCall 2 d__law_of (mCons (mV 0) (mCons (mLst (mCons (mC (.str "level")) (mCons (mC (.str "edge")) (mCons (mC (.str "once")) (mNil))))) (mNil)))) (mCons (mCall 2 d__law_of (mCons (mV 0) (mCons (mLst (mCons (mC .non) (mCons (mV 3) (mNil)))) (mNil)))) (mNil)))
def m__law_call_3 : MS :=
    sSet 8 (mLst (mCons (mTup (mCons (mC (.str "new_source")) (mCons (mV 1) (mNil)))) (mCons (mTup (mCons (mC (.str "new_set")) (mCons (mV 1) (mNil)))) (mCons (mTup (mCons (mC (.str "fork")) (mCons (mV 1) (mNil)))) (mCons (mTup (mCons (mC (.str "end")) (mCons (mV 1) (mNil)))) (mCons (mTup (mCons (mC (.str "numbers")) (mCons (mV 1) (mNil)))) (mCons (mTup (mCons (mC (.str "close")) (mCons (mV 1) (mCons (mV 2) (mNil))))) (mNil))))))))
def m__law_call_4 : MS :=
    sSet 8 (mOp addM (mV 8) (mLst (mCons (mTup (mCons (mC (.str "finish")) (mCons (mV 1) (mCons (mV 2) (mNil))))) (mCons (mTup (mCons (mC (.str "units")) (mCons (mV 1) (mCons (mV 2) (mNil))))) (mCons (mTup (mCons (mC (.str "copy")) (mCons (mV 1) (mCons (mV 2) (mCons (mV 7) (mNil)))))) (mCons (mTup (mCons (mC (.str "read")) (mCons (mV 1) (mCons (mV 2) (mCons (mV 7) (mNil)))))) (mNil)))))))
def m__law_call_5 : MS :=
    sSet 8 (mOp addM (mV 8) (mLst (mCons (mTup (mCons (mC (.str "arrive")) (mCons (mV 1) (mCons (mV 2) (mCons (mV 3) (mNil)))))) (mCons (mTup (mCons (mC (.str "remove")) (mCons (mV 1) (mCons (mV 2) (mCons (mV 3) (mNil)))))) (mCons (mTup (mCons (mC (.str "wait")) (mCons (mV 1) (mCons (mV 2) (mCons (mV 3) (mNil)))))) (mCons (mTup (mCons (mC (.str "same")) (mCons (mV 1) (mCons (mV 2) (mCons (mV 3) (mCons (mV 4) (mNil))))))) (mNil)))))))
def m__law_call_6 : MS :=
    sSet 8 (mOp addM (mV 8) (mLst (mCons (mTup (mCons (mC (.str "add")) (mCons (mV 1) (mCons (mV 2) (mCons (mV 3) (mCons (mV 4) (mCons (mV 6) (mNil)))))))) (mCons (mTup (mCons (mC (.str "change")) (mCons (mV 1) (mCons (mV 2) (mCons (mV 3) (mCons (mV 6) (mNil))))))) (mNil)))))
def m__law_call_7 : MS :=
    sRet (mOp getM (mV 8) (mCall 2 d__law_take (mCons (mV 0) (mCons (mC (.int 16)) (mNil)))))
def m__law_call : MS :=
    sSeq (m__law_call_1)
    (sSeq (m__law_call_2)
    (sSeq (m__law_call_3)
    (sSeq (m__law_call_4)
    (sSeq (m__law_call_5)
    (sSeq (m__law_call_6)
    (m__law_call_7))))))
def d__law_call : List Val → Mu → R Val := runM 1 9 m__law_call
section
variable {P : Program} {w : World} {K : PySem.W.Frag} {mg : Str → Option Value} {base : Heap}
theorem sm__law_call : FnScope ["_law_bag_here", "_law_p", "_law_n", "_law_m", "_law_q", "_law_k", "_law_word", "_law_maybe", "_law_some"] ["_law_bag_here"] (defScope s__law_call) := ⟨rfl, rfl, rfl, by decide +kernel, rfl, by decide +kernel, by decide +kernel⟩
theorem bm__law_call (T : Tx K mg) : Binds K (fdAt K (gA "_law_call" K)) ["_law_bag_here"] [] := FunD.bindsN T.f__law_call fun _ _ _ _ _ _ us hl => match us, hl with | [_], _ => rfl
theorem okm__law_call (T : Tx K mg) : FnG P w K mg base CX0 4 (gA "_law_call" K) (fdAt K (gA "_law_call" K)) ["_law_bag_here"] (spM K 1 d__law_call) := by
  refine okM T.f__law_call sm__law_call rfl rfl fun cdv A outer s H hg hr => ?_
  have hu := hr.units
  have hu1 := hu_of hr
  have hu2 := hr.units1
  exact pmss_cons (pms_unp rfl (pm_lc (own := [("_law_k", 5)]) rfl sm__law_call.nd (pmi_rng1 (by rfl) T.free_range (pma_cons (pm_int) (pma_nil))) (blkOk_by (N := ["_law_bag_here", "_law_p", "_law_n", "_law_m", "_law_q", "_law_k", "_law_word", "_law_maybe", "_law_some"]) (sc := defScope s__law_call) (by decide +kernel)) (fun _ _ _ _ _ => pmg_name (i := 5) sm__law_call.nd rfl (by first | exact Or.inl rfl | exact Or.inr rfl)) (fun _ _ _ _ _ => pmts_nil) (fun _ _ _ _ _ => pm_call (okm__law_number T) hg (hr.mono (by decide)) (by rfl) T.g__law_number T.f__law_number.kp (bm__law_number T) (pma_cons (pm_var (pv 0)) (pma_nil)))) (pmgs_cons (i := 1) sm__law_call.nd rfl (by first | exact Or.inl rfl | exact Or.inr rfl) (pmgs_cons (i := 2) sm__law_call.nd rfl (by first | exact Or.inl rfl | exact Or.inr rfl) (pmgs_cons (i := 3) sm__law_call.nd rfl (by first | exact Or.inl rfl | exact Or.inr rfl) (pmgs_cons (i := 4) sm__law_call.nd rfl (by first | exact Or.inl rfl | exact Or.inr rfl) (pmgs_nil))))))
      (pmss_cons (pms_par (i := 6) (j := 7) rfl sm__law_call.nd rfl rfl (by decide) rfl rfl (pma_cons (pm_call (okm__law_of T) hg (hr.mono (by decide)) (by rfl) T.g__law_of T.f__law_of.kp (bm__law_of T) (pma_cons (pm_var (pv 0)) (pma_cons (pm_lst (pma_cons (pm_str) (pma_cons (pm_str) (pma_cons (pm_str) (pma_nil))))) (pma_nil)))) (pma_cons (pm_call (okm__law_of T) hg (hr.mono (by decide)) (by rfl) T.g__law_of T.f__law_of.kp (bm__law_of T) (pma_cons (pm_var (pv 0)) (pma_cons (pm_lst (pma_cons (pm_non) (pma_cons (pm_var (pv 3)) (pma_nil)))) (pma_nil)))) (pma_nil))) rfl)
      (pmss_cons (pms_set (i := 8) sm__law_call.nd rfl (by first | exact Or.inl rfl | exact Or.inr rfl) (pm_lst (pma_cons (pm_tup (pma_cons (pm_str) (pma_cons (pm_var (pv 1)) (pma_nil)))) (pma_cons (pm_tup (pma_cons (pm_str) (pma_cons (pm_var (pv 1)) (pma_nil)))) (pma_cons (pm_tup (pma_cons (pm_str) (pma_cons (pm_var (pv 1)) (pma_nil)))) (pma_cons (pm_tup (pma_cons (pm_str) (pma_cons (pm_var (pv 1)) (pma_nil)))) (pma_cons (pm_tup (pma_cons (pm_str) (pma_cons (pm_var (pv 1)) (pma_nil)))) (pma_cons (pm_tup (pma_cons (pm_str) (pma_cons (pm_var (pv 1)) (pma_cons (pm_var (pv 2)) (pma_nil))))) (pma_nil)))))))))
      (pmss_cons (pms_set (i := 8) sm__law_call.nd rfl (by first | exact Or.inl rfl | exact Or.inr rfl) (pm_bin b_add (pm_var (pv 8)) (pm_lst (pma_cons (pm_tup (pma_cons (pm_str) (pma_cons (pm_var (pv 1)) (pma_cons (pm_var (pv 2)) (pma_nil))))) (pma_cons (pm_tup (pma_cons (pm_str) (pma_cons (pm_var (pv 1)) (pma_cons (pm_var (pv 2)) (pma_nil))))) (pma_cons (pm_tup (pma_cons (pm_str) (pma_cons (pm_var (pv 1)) (pma_cons (pm_var (pv 2)) (pma_cons (pm_var (pv 7)) (pma_nil)))))) (pma_cons (pm_tup (pma_cons (pm_str) (pma_cons (pm_var (pv 1)) (pma_cons (pm_var (pv 2)) (pma_cons (pm_var (pv 7)) (pma_nil)))))) (pma_nil))))))))
      (pmss_cons (pms_set (i := 8) sm__law_call.nd rfl (by first | exact Or.inl rfl | exact Or.inr rfl) (pm_bin b_add (pm_var (pv 8)) (pm_lst (pma_cons (pm_tup (pma_cons (pm_str) (pma_cons (pm_var (pv 1)) (pma_cons (pm_var (pv 2)) (pma_cons (pm_var (pv 3)) (pma_nil)))))) (pma_cons (pm_tup (pma_cons (pm_str) (pma_cons (pm_var (pv 1)) (pma_cons (pm_var (pv 2)) (pma_cons (pm_var (pv 3)) (pma_nil)))))) (pma_cons (pm_tup (pma_cons (pm_str) (pma_cons (pm_var (pv 1)) (pma_cons (pm_var (pv 2)) (pma_cons (pm_var (pv 3)) (pma_nil)))))) (pma_cons (pm_tup (pma_cons (pm_str) (pma_cons (pm_var (pv 1)) (pma_cons (pm_var (pv 2)) (pma_cons (pm_var (pv 3)) (pma_cons (pm_var (pv 4)) (pma_nil))))))) (pma_nil))))))))
      (pmss_cons (pms_set (i := 8) sm__law_call.nd rfl (by first | exact Or.inl rfl | exact Or.inr rfl) (pm_bin b_add (pm_var (pv 8)) (pm_lst (pma_cons (pm_tup (pma_cons (pm_str) (pma_cons (pm_var (pv 1)) (pma_cons (pm_var (pv 2)) (pma_cons (pm_var (pv 3)) (pma_cons (pm_var (pv 4)) (pma_cons (pm_var (pv 6)) (pma_nil)))))))) (pma_cons (pm_tup (pma_cons (pm_str) (pma_cons (pm_var (pv 1)) (pma_cons (pm_var (pv 2)) (pma_cons (pm_var (pv 3)) (pma_cons (pm_var (pv 6)) (pma_nil))))))) (pma_nil))))))
      (pmss_one (pms_ret (pm_ix (pm_var (pv 8)) (pm_call (okm__law_take T) hg (hr.mono (by decide)) (by rfl) T.g__law_take T.f__law_take.kp (bm__law_take T) (pma_cons (pm_var (pv 0)) (pma_cons (pm_int) (pma_nil))))))))))))
end

def m__law_text_1 : MS :=
    sSet 1 (mOp addM (mOp addM (mV 1) (mC (.str " "))) (mIf (mTest (mOp isM' (mV 2) (mC .non))) (mC (.str "-")) (mFn strM (mCons (mV 2) (mNil)))))
def m__law_text : MS :=
    sSeq (sSet 1 (mOp getM (mV 0) (mC (.int 0))))
    (sSeq (sFor (iSeq (mSl (mV 0) (mP (mC (.int 1))) (mP0))) (tgN 2) (m__law_text_1))
    (sRet (mV 1)))
def d__law_text : List Val → Mu → R Val := runM 1 3 m__law_text
section
variable {P : Program} {w : World} {K : PySem.W.Frag} {mg : Str → Option Value} {base : Heap}
theorem sm__law_text : FnScope ["_law_deed", "_law_shown", "_law_part"] ["_law_deed"] (defScope s__law_text) := ⟨rfl, rfl, rfl, by decide +kernel, rfl, by decide +kernel, by decide +kernel⟩
theorem bm__law_text (T : Tx K mg) : Binds K (fdAt K (gA "_law_text" K)) ["_law_deed"] [] := FunD.bindsN T.f__law_text fun _ _ _ _ _ _ us hl => match us, hl with | [_], _ => rfl
theorem okm__law_text (T : Tx K mg) : FnG P w K mg base CX0 1 (gA "_law_text" K) (fdAt K (gA "_law_text" K)) ["_law_deed"] (spM K 1 d__law_text) := by
  refine okM T.f__law_text sm__law_text rfl rfl fun cdv A outer s H hg hr => ?_
  have hu := hr.units
  have hu1 := hu_of hr
  have hu2 := hr.units1
  exact pmss_cons (pms_set (i := 1) sm__law_text.nd rfl (by first | exact Or.inl rfl | exact Or.inr rfl) (pm_ix (pm_var (pv 0)) (pm_int)))
      (pmss_cons (pms_for PassesOwn.never rfl (pmi_seq (pm_slice (pm_var (pv 0)) (pmo_some (pm_int)) (pmo_none))) (pmg_name (i := 2) sm__law_text.nd rfl (by first | exact Or.inl rfl | exact Or.inr rfl)) (pmss_one (pms_set (i := 1) sm__law_text.nd rfl (by first | exact Or.inl rfl | exact Or.inr rfl) (pm_bin b_add (pm_bin b_add (pm_var (pv 1)) (pm_str)) (pm_ifExp (pmt_cmp c_is (pm_var (pv 2)) (pm_non)) (pm_str) (pm_callTy call_strIS p_str (by rfl) T.free_str (by decide +kernel) (pma_cons (pm_var (pv 2)) (pma_nil))))))))
      (pmss_one (pms_ret (pm_var (pv 1)))))
end

def m_law_1 : MS :=
    sSet 3 (mLc (iRng1 (mCons (mCall 2 d__law_take (mCons (mV 2) (mCons (mC (.int 31)) (mNil)))) (mNil))) [4] (tgN 4) (mYes) (mCall 1 d__law_call (mCons (mV 2) (mNil))))
def m_law_2 : MS :=
    sSet 5 (mLc (iSeq (mV 3)) [6] (tgN 6) (mYes) (mCall 1 d__law_text (mCons (mV 6) (mNil))))
def m_law_3 : MS :=
    sIf (mOr (mTest (mOp neSM (mCall 1 d_show_call (mCons (mV 6) (mNil))) (mV 7))) (mTest (mOp neSM (mCallK 1 1 [0] d_show_call (mCons (mV 6) (mNil))) (mV 7)))) (sRet (mC (.bl false))) (sNil)
def m_law_4 : MS :=
    sIf (mTest (mOp neM (mLst (mCons (mFn reprM (mCons (mCall 1 d_read_call (mCons (mV 7) (mNil))) (mNil))) (mCons (mFn reprM (mCons (mCallK 1 1 [0] d_read_call (mCons (mV 7) (mNil))) (mNil))) (mNil)))) (mLst (mCons (mFn reprM (mCons (mV 6) (mNil))) (mCons (mFn reprM (mCons (mV 6) (mNil))) (mNil)))))) (sRet (mC (.bl false))) (sNil)
def m_law_5 : MS :=
    sSeq (m_law_3)
    (m_law_4)
def m_law_6 : MS :=
    sIf (mOr (mTest (mOp neSM (mCall 1 d_show_calls (mCons (mV 3) (mNil))) (mV 8))) (mOr (mTest (mOp neSM (mCall 1 d_show_calls (mCons (mFn tupleM (mCons (mV 3) (mNil))) (mNil))) (mV 8))) (mTest (mOp neSM (mFn reprM (mCons (mV 9) (mNil))) (mFn reprM (mCons (mV 3) (mNil))))))) (sRet (mC (.bl false))) (sNil)
def m_law_7 : MS :=
    sIf (mTest (mOp neM (mCallK 1 1 [0] d_read_calls (mCons (mV 8) (mNil))) (mV 3))) (sRet (mC (.bl false))) (sNil)
def m_law_8 : MS :=
    sSeq (sSet 2 (mCall 2 d__law_bag (mCons (mV 0) (mCons (mV 1) (mNil)))))
    (sSeq (m_law_1)
    (sSeq (m_law_2)
    (sSeq (sFor (iZip2 (mCons (mV 3) (mCons (mV 5) (mNil)))) (tgT [6, 7]) (m_law_5))
    (sSeq (sSet 8 (mOp joinR (mC (.str "\n")) (mV 5)))
    (sSeq (sSet 9 (mCall 1 d_read_calls (mCons (mV 8) (mNil))))
    (sSeq (m_law_6)
    (sSeq (sExpr (mBm appM (mV 9) (mCons (mC .non) (mNil))))
    (m_law_7))))))))
def m_law_9 : MS :=
    sFor (iRng1 (mCons (mFn maxM (mCons (mC (.int 1)) (mCons (mFn minM (mCons (mC (.int 4)) (mCons (mFn lenM (mCons (mV 0) (mNil))) (mNil)))) (mNil)))) (mNil))) (tgN 1) (m_law_8)
def m_law_10 : MS :=
    sRet (mAndT (mOp eqM (mCall 1 d_show_calls (mCons (mLst (mNil)) (mNil))) (mC (.str ""))) (mOp eqM (mCall 1 d_read_calls (mCons (mC (.str "")) (mNil))) (mLst (mNil))))
def m_law : MS :=
    sSeq (m_law_9)
    (m_law_10)
def d_law : List Val → Mu → R Val := runM 1 10 m_law
section
variable {P : Program} {w : World} {K : PySem.W.Frag} {mg : Str → Option Value} {base : Heap}
theorem sm_law : FnScope ["_law_script", "_law_at", "_law_bag_here", "_law_calls", "_law_turn", "_law_texts", "_law_deed", "_law_shown", "_law_whole", "_law_found"] ["_law_script"] (defScope s_law) := ⟨rfl, rfl, rfl, by decide +kernel, rfl, by decide +kernel, by decide +kernel⟩
theorem okm_law (T : Tx K mg) (AD : ArgD K w) : FnG P w K mg base CX0 5 (gA "law" K) (fdAt K (gA "law" K)) ["_law_script"] (spM K 1 d_law) := by
  refine okM T.f_law sm_law rfl rfl fun cdv A outer s H hg hr => ?_
  have hu := hr.units
  have hu1 := hu_of hr
  have hu2 := hr.units1
  exact pmss_cons (pms_for PassesOwn.never rfl (pmi_rng1 (by rfl) T.free_range (pma_cons (pm_callB (call_max2 rfl) p_max (by rfl) T.free_max (by decide +kernel) (pma_cons (pm_int) (pma_cons (pm_callB (call_min2 rfl) p_min (by rfl) T.free_min (by decide +kernel) (pma_cons (pm_int) (pma_cons (pm_callB call_len p_len (by rfl) T.free_len PySem.boot_len (pma_cons (pm_var (pv 0)) (pma_nil))) (pma_nil)))) (pma_nil)))) (pma_nil))) (pmg_name (i := 1) sm_law.nd rfl (by first | exact Or.inl rfl | exact Or.inr rfl)) (pmss_cons (pms_set (i := 2) sm_law.nd rfl (by first | exact Or.inl rfl | exact Or.inr rfl) (pm_call (okm__law_bag T) hg (hr.mono (by decide)) (by rfl) T.g__law_bag T.f__law_bag.kp (bm__law_bag T) (pma_cons (pm_var (pv 0)) (pma_cons (pm_var (pv 1)) (pma_nil)))))
      (pmss_cons (pms_setLc (i := 3) (own := [("_law_turn", 4)]) rfl sm_law.nd rfl rfl (sw_true rfl rfl rfl (by decide +kernel)) (pmi_rng1 (by rfl) T.free_range (pma_cons (pm_call (okm__law_take T) hg (hr.mono (by decide)) (by rfl) T.g__law_take T.f__law_take.kp (bm__law_take T) (pma_cons (pm_var (pv 2)) (pma_cons (pm_int) (pma_nil)))) (pma_nil))) (blkOk_by (N := ["_law_script", "_law_at", "_law_bag_here", "_law_calls", "_law_turn", "_law_texts", "_law_deed", "_law_shown", "_law_whole", "_law_found"]) (sc := defScope s_law) (by decide +kernel)) (fun _ _ _ _ _ => pmg_name (i := 4) sm_law.nd rfl (by first | exact Or.inl rfl | exact Or.inr rfl)) (fun _ _ _ _ _ => pmts_nil) (fun _ _ _ _ _ => pm_call (okm__law_call T) hg (hr.mono (by decide)) (by rfl) T.g__law_call T.f__law_call.kp (bm__law_call T) (pma_cons (pm_var (pv 2)) (pma_nil))))
      (pmss_cons (pms_setLc (i := 5) (own := [("_law_deed", 6)]) rfl sm_law.nd rfl rfl (sw_true rfl rfl rfl (by decide +kernel)) (pmi_seq (pm_var (pv 3))) (blkOk_by (N := ["_law_script", "_law_at", "_law_bag_here", "_law_calls", "_law_turn", "_law_texts", "_law_deed", "_law_shown", "_law_whole", "_law_found"]) (sc := defScope s_law) (by decide +kernel)) (fun _ _ _ _ _ => pmg_name (i := 6) sm_law.nd rfl (by first | exact Or.inl rfl | exact Or.inr rfl)) (fun _ _ _ _ _ => pmts_nil) (fun _ _ _ _ _ => pm_call (okm__law_text T) hg (hr.mono (by decide)) (by rfl) T.g__law_text T.f__law_text.kp (bm__law_text T) (pma_cons (pm_var (pv 6)) (pma_nil))))
      (pmss_cons (pms_for PassesOwn.never rfl (pmi_zip2 (by rfl) T.free_zip (pma_cons (pm_var (pv 3)) (pma_cons (pm_var (pv 5)) (pma_nil)))) (pmg_tup rfl (pmgs_cons (i := 6) sm_law.nd rfl (by first | exact Or.inl rfl | exact Or.inr rfl) (pmgs_cons (i := 7) sm_law.nd rfl (by first | exact Or.inl rfl | exact Or.inr rfl) (pmgs_nil)))) (pmss_cons (pms_if (PMW.t (pmw_or (pmt_cmp c_neS (pm_call (okm_show_call T) hg (hr.mono (by decide)) (by rfl) T.g_show_call T.f_show_call.kp (bm_show_call T) (pma_cons (pm_var (pv 6)) (pma_nil))) (pm_var (pv 7))) (pmw_or1 (pmt_cmp c_neS (pm_callK0 (ks := ["call"]) (is := [0]) (okm_show_call T) hg (hr.mono (by decide)) (by rfl) T.g_show_call T.f_show_call.kp (bmK_show_call T rfl) (pmk_cons (pm_var (pv 6)) (pmk_nil))) (pm_var (pv 7)))))) (pmss_one (pms_ret (pm_bl))) (pmss_nil))
      (pmss_one (pms_if (pmt_cmp (c_ne hu) (pm_lst (pma_cons (pm_callB (call_repr hg (hu_repr hr)) p_repr (by rfl) T.free_repr (by decide +kernel) (pma_cons (pm_call (okm_read_call T AD) hg (hr.mono (by decide)) (by rfl) T.g_read_call T.f_read_call.kp (bm_read_call T) (pma_cons (pm_var (pv 7)) (pma_nil))) (pma_nil))) (pma_cons (pm_callB (call_repr hg (hu_repr hr)) p_repr (by rfl) T.free_repr (by decide +kernel) (pma_cons (pm_callK0 (ks := ["text"]) (is := [0]) (okm_read_call T AD) hg (hr.mono (by decide)) (by rfl) T.g_read_call T.f_read_call.kp (bmK_read_call T rfl) (pmk_cons (pm_var (pv 7)) (pmk_nil))) (pma_nil))) (pma_nil)))) (pm_lst (pma_cons (pm_callB (call_repr hg (hu_repr hr)) p_repr (by rfl) T.free_repr (by decide +kernel) (pma_cons (pm_var (pv 6)) (pma_nil))) (pma_cons (pm_callB (call_repr hg (hu_repr hr)) p_repr (by rfl) T.free_repr (by decide +kernel) (pma_cons (pm_var (pv 6)) (pma_nil))) (pma_nil))))) (pmss_one (pms_ret (pm_bl))) (pmss_nil)))))
      (pmss_cons (pms_set (i := 8) sm_law.nd rfl (by first | exact Or.inl rfl | exact Or.inr rfl) (pm_join (pm_str) (pm_var (pv 5))))
      (pmss_cons (pms_set (i := 9) sm_law.nd rfl (by first | exact Or.inl rfl | exact Or.inr rfl) (pm_call (okm_read_calls T AD) hg (hr.mono (by decide)) (by rfl) T.g_read_calls T.f_read_calls.kp (bm_read_calls T) (pma_cons (pm_var (pv 8)) (pma_nil))))
      (pmss_cons (pms_if (PMW.t (pmw_or (pmt_cmp c_neS (pm_call (okm_show_calls T) hg (hr.mono (by decide)) (by rfl) T.g_show_calls T.f_show_calls.kp (bm_show_calls T) (pma_cons (pm_var (pv 3)) (pma_nil))) (pm_var (pv 8))) (pmw_or (pmt_cmp c_neS (pm_call (okm_show_calls T) hg (hr.mono (by decide)) (by rfl) T.g_show_calls T.f_show_calls.kp (bm_show_calls T) (pma_cons (pm_callTy call_tuple_of p_tuple (by rfl) T.free_tuple (by decide +kernel) (pma_cons (pm_var (pv 3)) (pma_nil))) (pma_nil))) (pm_var (pv 8))) (pmw_or1 (pmt_cmp c_neS (pm_callB (call_repr hg (hu_repr hr)) p_repr (by rfl) T.free_repr (by decide +kernel) (pma_cons (pm_var (pv 9)) (pma_nil))) (pm_callB (call_repr hg (hu_repr hr)) p_repr (by rfl) T.free_repr (by decide +kernel) (pma_cons (pm_var (pv 3)) (pma_nil)))))))) (pmss_one (pms_ret (pm_bl))) (pmss_nil))
      (pmss_cons (pms_expr (pm_bmL PySem.F.slot_list_append PySem.F.type_list_append mt_append p_append (pm_var (pv 9)) (pma_cons (pm_non) (pma_nil))))
      (pmss_one (pms_if (pmt_cmp (c_ne hu) (pm_callK0 (ks := ["text"]) (is := [0]) (okm_read_calls T AD) hg (hr.mono (by decide)) (by rfl) T.g_read_calls T.f_read_calls.kp (bmK_read_calls T rfl) (pmk_cons (pm_var (pv 8)) (pmk_nil))) (pm_var (pv 3))) (pmss_one (pms_ret (pm_bl))) (pmss_nil))))))))))))
      (pmss_one (pms_ret (pm_andT (pm_cmp (c_eq hu) (pm_call (okm_show_calls T) hg (hr.mono (by decide)) (by rfl) T.g_show_calls T.f_show_calls.kp (bm_show_calls T) (pma_cons (pm_lst (pma_nil)) (pma_nil))) (pm_str)) (pm_one (pm_cmp (c_eq hu) (pm_call (okm_read_calls T AD) hg (hr.mono (by decide)) (by rfl) T.g_read_calls T.f_read_calls.kp (bm_read_calls T) (pma_cons (pm_str) (pma_nil))) (pm_lst (pma_nil)))))))
end

/-! ### texts taken apart, as plain data do (k25) -/
theorem dr_strs {h : Hd} {X : List Nat} {μ : Mu} : ∀ l : List Str, DRs h X μ (l.map Val.str) (l.map Dt.str)
  | [] => .nil
  | a :: l => .cons (.str a) (dr_strs l)
def splD (b : Str) : Dt → Sg → Option Dt
  | .str a, _ => if a.length ≤ 1000000 ∧ (b.length == 0) = false then some (.lst ((Txt.split a b).map Dt.str)) else none
  | _, _ => none
theorem p_spl (b : Str) : P1 (splM b) (splD b) := by
  intro h X μ σ x dx d S hx e
  unfold splD at e
  split at e
  · split at e
    · rename_i c
      cases e
      rw [hx.str]
      unfold splM
      simp only
      rw [if_pos c]
      exact .new S (.lst (dr_strs _))
    · cases e
  · cases e
def intSD : List Dt → Sg → Option Dt
  | [.str a], _ => match PySem.intText? a with
    | some n => if a.length ≤ 640 then some (.int n) else none
    | none => none
  | _, _ => none
theorem p_intS' : PN intSM intSD := by
  intro h X μ σ xs dxs d S hx e
  unfold intSD at e
  split at e
  · obtain ⟨v, rfl, q⟩ := hx.one
    split at e
    · rename_i n hn
      split at e
      · rename_i c
        cases e
        rw [q.str]
        unfold intSM
        simp only [hn]
        rw [if_pos c]
        exact .id S (.int _)
      · cases e
    · cases e
  · cases e
def ixSD : Dt → Dt → Sg → Option Dt
  | .str z, .int i, _ => match z.cps[i.toNat]? with
    | some c => if 0 ≤ i ∧ i < z.length ∧ z.length ≤ 1000000 then some (.str (sgn c)) else none
    | none => none
  | _, _, _ => none
theorem p_ixS : P2 ixSM ixSD := by
  intro h X μ σ x y dx dy d S hx hy e
  unfold ixSD at e
  split at e
  · split at e
    · rename_i c hc
      split at e
      · rename_i hl
        cases e
        rw [hx.str, hy.int]
        unfold ixSM
        simp only [hc]
        rw [if_pos hl]
        exact .id S (.str _)
      · cases e
    · cases e
  · cases e
def inSgD : Dt → Dt → Sg → Option Dt
  | .str x, .str z, _ => match x.cps.toList with
    | [c] => some (.bl (decide (c ∈ z.cps.toList)))
    | _ => none
  | _, _, _ => none
theorem p_inSg : P2 inSgM inSgD := by
  intro h X μ σ x y dx dy d S hx hy e
  unfold inSgD at e
  split at e
  · split at e
    · rename_i c hc
      cases e
      rw [hx.str, hy.str]
      unfold inSgM
      simp only [hc]
      exact .id S (.bl _)
    · cases e
  · cases e
def pArgs (e f : PlE) : PlE := fun r σ Q => e r σ fun x σ => f r σ fun _ σ => match x with
  | .str z => match kndOf z with
    | some ks => Q (.tup (ks.map Dt.str)) σ
    | none => False
  | _ => False
theorem si_args {mo mi : ME} {o i : PlE} (so : SiE mo o) (si : SiE mi i) : SiE (mArgs mo mi) (pArgs o i) := fun h X O μ σ ρ r Q S E hq => by
  refine OkR.bind (rel' := rlE) (so h X O μ σ ρ r _ S E hq) fun x μ1 h1 dx σ1 e1 S1 q1 hq1 => ?_
  refine OkR.bind (rel' := rlE) (si h1 X O μ1 σ1 ρ r _ S1 (E.ext e1 fun _ => none_in) hq1) fun y μ2 h2 dy σ2 e2 S2 q2 hq2 => ?_
  split at hq2
  · rename_i z
    split at hq2
    · rename_i ks hk
      cases DW.str (.inl q1)
      show OkR rlE h2 (O ++ X) μ2 Q (argsK (.str z) μ2)
      unfold argsK
      simp only [hk]
      exact okR_ret (rel := rlE) S2 (.tup (dr_strs ks)) hq2
    · exact hq2.elim
  · exact hq2.elim

/-! ### zip of two, list(zip), stars, the signs of a text, as plain data do (k25) -/
def zip2D (xs ys : List Dt) : List Dt := (xs.zip ys).map fun p => .tup [p.1, p.2]
theorem drs_zip2 {h : Hd} {X : List Nat} {μ : Mu} : ∀ {vs ws : List Val} {as bs : List Dt}, DRs h X μ vs as → DRs h X μ ws bs → DRs h X μ (zip2M vs ws) (zip2D as bs)
  | _, _, _, _, .nil, _ => .nil
  | _, _, _, _, .cons _ _, .nil => .nil
  | _, _, _, _, .cons a1 a2, .cons b1 b2 => .cons (.tup (.cons a1 (.cons b1 .nil))) (drs_zip2 a2 b2)
def pZip2 (a : PlA) : PlI := fun r σ Q => a r σ fun ds σ => match ds with
  | [.lst xs, .lst ys] => xs.length = ys.length ∧ Q (zip2D xs ys) σ
  | _ => False
def pItS (a : PlE) : PlI := fun r σ Q => a r σ fun d σ => match d with
  | .str x => Q (x.cps.toList.map fun c => .str (sgn c)) σ
  | _ => False
theorem drs_sgns {h : Hd} {X : List Nat} {μ : Mu} : ∀ l : List Nat, DRs h X μ (l.map fun c => Val.str (sgn c)) (l.map fun c => Dt.str (sgn c))
  | [] => .nil
  | c :: l => .cons (.str _) (drs_sgns l)
section
variable {ms : MA} {ps : PlA} {m : ME} {p : PlE}
theorem si_zip2 (s : SiA ms ps) : SiI (iZip2 ms) (pZip2 ps) := fun h X O μ σ ρ r Q S E hq => by
  refine (s h X O μ σ ρ r _ S E hq).bind fun v μ1 h1 d σ1 e1 S1 q1 hq1 => ?_
  split at hq1
  · rename_i xs ys
    have q2 : DRs h1 (O ++ X) μ1 v [.lst xs, .lst ys] := q1
    cases q2 with
    | cons qa q2 =>
    cases q2 with
    | cons qb q2 =>
      cases q2
      cases qa with
      | obj a1 b1 c1 o1 r1 =>
      cases r1 with
      | lst r1 =>
      cases qb with
      | obj a2 b2 c2 o2 r2 =>
      cases r2 with
      | lst r2 =>
        have it : ∀ {μ' : Mu} {n m : Nat} {vs ws : List Val}, μ'.ob n = some (.lst vs) → μ'.ob m = some (.lst ws) → vs.length = ws.length → itm2 n m μ' = some (zip2M vs ws) := fun {μ' n m vs ws} z1 z2 y1 => by
          unfold itm2
          rw [seqOf_l z1, seqOf_l z2]
          simp only
          rw [if_pos y1]
        have y1 := hq1.1
        rw [← r1.len, ← r2.len] at y1
        simp only [it o1 o2 y1]
        exact okR_ret (rel := rlI) S1 (fun h' μ' O' X' e hO hX => ⟨_, it ((e.ob _ c1 a1 fun z => b1 (hO _ z)).trans o1) ((e.ob _ c2 a2 fun z => b2 (hO _ z)).trans o2) y1, drs_zip2 (r1.move e hO hX) (r2.move e hO hX)⟩) hq1.2
  · exact hq1.elim
theorem si_itS (s : SiE m p) : SiI (iStrM m) (pItS p) := fun h X O μ σ ρ r Q S E hq => by
  refine (s h X O μ σ ρ r _ S E hq).bind fun v μ1 h1 d σ1 e1 S1 q1 hq1 => ?_
  split at hq1
  · rename_i x
    cases DW.str (.inl q1)
    exact okR_ret (rel := rlI) S1 (fun h' μ' O' X' e hO hX => ⟨_, rfl, drs_sgns _⟩) hq1
  · exact hq1.elim
end
def lstZipD : List Dt → Sg → Option Dt
  | [.lst xs, .tup ys], _ => if xs.length = ys.length then some (.lst (zip2D xs ys)) else none
  | _, _ => none
theorem p_lstZip : PN lstZipM lstZipD := by
  intro h X μ σ xs dxs d S hx e
  unfold lstZipD at e
  split at e
  · rename_i ds es
    obtain ⟨v, w, rfl, q1, q2⟩ := hx.two
    split at e
    · rename_i c
      cases e
      obtain ⟨n, vs, rfl, _, o, r⟩ := q1.lst S (l := ds) rfl
      obtain ⟨ws, rfl, r2⟩ := q2.tup
      unfold lstZipM
      simp only [o]
      rw [if_pos (by rw [r.len, r2.len]; exact c)]
      exact .new S (.lst (drs_zip2 r r2))
    · cases e
  · cases e
def pStar (a : PlE) (b : PlA) : PlA := fun r σ Q => a r σ fun d σ => match d with
  | .lst l => b r σ fun ds σ => Q (l ++ ds) σ
  | _ => False
theorem si_star {m : ME} {ms : MA} {p : PlE} {ps : PlA} (s : SiE m p) (sr : SiA ms ps) : SiA (mStar m ms) (pStar p ps) := fun h X O μ σ ρ r Q S E hq => by
  refine (s h X O μ σ ρ r _ S E hq).bind fun v μ1 h1 d σ1 e1 S1 q1 hq1 => ?_
  split at hq1
  · rename_i l
    have q1 : DR h1 (O ++ X) μ1 v (.lst l) := q1
    obtain ⟨n, vs, rfl, _, o, r1⟩ := DW.lst S1 (.inl q1) (l := l) rfl
    simp only [seqOf_l o]
    obtain ⟨us, μ2, h2, ds, σ2, e, e2, S2, q2, hq2⟩ := sr h1 X O μ1 σ1 ρ r _ S1 (E.ext e1 fun _ => none_in) hq1
    rw [e]
    exact ⟨_, _, _, _, _, rfl, e2, S2, (r1.ext e2 fun _ => none_in).app q2, hq2⟩
  · exact hq1.elim
/-- word, *parts = p -/
def mSt (m : ME) : MA := fun ρ μ => (m ρ μ).bind fun v μ => match v with
  | .loc n => match μ.ob n with
    | some (.lst (x :: xs)) => if xs.length < 16384 then .ok [x, .loc μ.nx] (μ.new (.lst xs)) else .no
    | _ => .no
  | _ => .no
theorem sStar_eq (i j : Nat) (m : ME) : sStar i j m = sPar i j (mSt m) := by
  funext ρ μ
  unfold sStar sPar mSt
  cases m ρ μ with
  | ok v μ1 =>
    cases v with
    | loc n =>
      simp only [R.bind_ok]
      cases μ1.ob n with
      | none => rfl
      | some o =>
        cases o with
        | lst l =>
          cases l with
          | nil => rfl
          | cons x xs =>
            simp only
            split <;> rfl
        | _ => rfl
    | _ => rfl
  | er _ _ _ => rfl
  | no => rfl
def pSt (p : PlE) : PlA := fun r σ Q => p r σ fun d σ => match d with
  | .lst (x :: xs) => xs.length < 16384 ∧ Q [x, .lst xs] σ
  | _ => False
theorem si_st {m : ME} {p : PlE} (s : SiE m p) : SiA (mSt m) (pSt p) := fun h X O μ σ ρ r Q S E hq => by
  refine (s h X O μ σ ρ r _ S E hq).bind fun v μ1 h1 d σ1 e1 S1 q1 hq1 => ?_
  split at hq1
  · rename_i x xs
    have q1 : DR h1 (O ++ X) μ1 v (.lst (x :: xs)) := q1
    obtain ⟨n, vs, rfl, _, o, r1⟩ := DW.lst S1 (.inl q1) (l := x :: xs) rfl
    cases r1 with
    | cons ra rr =>
      simp only [o]
      rw [if_pos (by rw [rr.len]; exact hq1.1)]
      obtain ⟨_, _, e, e2, S2, q2⟩ := Ok1.new S1 (o := .lst _) (.lst rr)
      cases e
      exact ⟨_, _, _, _, _, rfl, e2, S2, .cons (ra.ext e2 fun _ => none_in) (.cons q2 .nil), hq1.2⟩
  · exact hq1.elim
theorem si_sStar (i j : Nat) {m : ME} {p : PlE} (s : SiE m p) : SiS (sStar i j m) (qPar i j (pSt p)) := by
  rw [sStar_eq]
  exact si_par i j (si_st s)
def qNoS : PlS := fun _ _ _ => False
theorem si_noS : SiS sNo qNoS := fun _ _ _ _ _ _ _ _ _ _ hq => hq.elim

/-! ### a def of the law that gives a fresh list, as plain data do: the list may be changed by who asked -/
def SdF (d : List Val → Mu → R Val) (p : List Dt → Sg → (Dt → Sg → Prop) → Prop) : Prop := ∀ (h : Hd) (X : List Nat) (μ : Mu) (σ : Sg) (vs : List Val) (ds : List Dt) (Q : Dt → Sg → Prop), Sm h X μ σ → DRs h X μ vs ds → p ds σ Q → OkF h X μ Q (d vs μ)
def runF (n N i : Nat) (p : PlS) : List Dt → Sg → (Dt → Sg → Prop) → Prop := fun ds σ Q => ds.length = n ∧ p (startD N ds) σ ⟨fun r σ => match r[i]? with | some (some (.ow d)) => Q d σ | _ => False, fun _ _ => False, fun _ _ => False, fun _ _ => False⟩
theorem sSeq_assoc (a b c : MS) : sSeq (sSeq a b) c = sSeq a (sSeq b c) := by
  funext ρ μ
  unfold sSeq
  cases a ρ μ with
  | ok f μ1 => cases f <;> rfl
  | er _ _ _ => rfl
  | no => rfl
theorem sdF_run {n N i : Nat} {m : MS} {p : PlS} (s : SiS m p) : SdF (runM n N (sSeq m (sRet (mV i)))) (runF n N i p) := fun h X μ σ vs ds Q S q hq => by
  unfold runM
  rw [if_pos (by rw [q.len]; exact hq.1)]
  obtain ⟨f, μ1, h1, O1, σ1, a1, a2, a3, a4, a5⟩ := s h X [] μ σ (startV N vs) (startD N ds) _ S (EnvD.start N q) hq.2
  unfold sSeq
  rw [a1]
  cases f with
  | nx ρ =>
    obtain ⟨r, E, hk⟩ := a5
    have hk : (match r[i]? with | some (some (.ow d)) => Q d σ1 | _ => False) := hk
    split at hk
    · rename_i d e
      obtain ⟨n2, o, a, b, c, f, g, x, y⟩ := E.ow i d e
      have hn : ∀ m ∈ n2 :: X, m ∈ O1 ++ X := fun m z => by
        rcases List.mem_cons.mp z with z | z
        · rw [z]; exact List.mem_append_left _ b
        · exact List.mem_append_right _ z
      have lo : μ.nx ≤ n2 := by
        rcases a3 n2 b with z | z
        · exact nomatch z
        · exact z
      show OkF h X μ Q (match sThen (R.ok (Fl.nx ρ) μ1) (sRet (mV i)) with | .ok (.nx ρ) μ' => .ok .non μ' | .ok (.rt v) μ' => .ok v μ' | .ok a μ => .no | .er c fs μ' => .er c fs μ' | .no => .no)
      have es : sThen (R.ok (Fl.nx ρ) μ1) (sRet (mV i)) = .ok (.rt (.loc n2)) μ1 := by
        show sRet (mV i) ρ μ1 = _
        unfold sRet mV
        rw [a]
        rfl
      rw [es]
      exact ⟨n2, o, μ1, h1, d, σ1, rfl, a2, a4.weak hn, lo, c, f, x, CD.weak' hn y, hk⟩
    · exact hk.elim
  | bk ρ => obtain ⟨r, _, hk⟩ := a5; exact hk.elim
  | ct ρ => obtain ⟨r, _, hk⟩ := a5; exact hk.elim
  | rt v => obtain ⟨d, x, y⟩ := a5; exact y.elim
theorem si_callF {n : Nat} {d : List Val → Mu → R Val} {d' : List Dt → Sg → (Dt → Sg → Prop) → Prop} {as : MA} {as' : PlA} (sd : SdF d d') (sa : SiA as as') : SiF (mCall n d as) (pCall n d' as') := fun h X O μ σ ρ r Q S E hq => by
  obtain ⟨vs, μ1, h1, ds, σ1, e, e1, S1, q1, hq1⟩ := sa h X O μ σ ρ r _ S E hq
  have q1 : DRs h1 (O ++ X) μ1 vs ds := q1
  unfold mCall
  rw [e, R.bind_ok, if_pos (by rw [q1.len]; exact hq1.1)]
  obtain ⟨n2, o, μ2, h2, d2, σ2, e2, x2, S2, lo, a, b, c, f, g⟩ := sd h1 (O ++ X) μ1 σ1 vs ds Q S1 q1 hq1.2
  rw [e2]
  exact ⟨n2, o, μ2, h2, d2, σ2, rfl, e1.trans x2 fun _ => none_in, S2, Nat.le_trans e1.le lo, a, b, c, f, g⟩

/-! ### words that dsimp! [..] and simp_arith! [..] name and that this law has no use for -/
def makM : Nat := 0
def mMakeK : Nat := 0
def pMeth : Nat := 0
def onSy : Nat := 0
def pMake : Nat := 0
def pMakeK : Nat := 0
def pFnS : Nat := 0
def mak_ : Nat := 0
def num_ : Nat := 0
def alv_ : Nat := 0
def lim_ : Nat := 0
def lns_ : Nat := 0

/-! ### draws, plainly -/
theorem take_eq {μ : Mu} {b : Nat} (hb : Bag μ b) {n : Int} (h0 : 0 < n) (h1 : n < 1073741824) : ∃ k μ', d__law_take [.loc b, .int n] μ = .ok (.int k) μ' ∧ 0 ≤ k ∧ k < n ∧ Kee [b] μ μ' ∧ Bag μ' b ∧ μ'.nx = μ.nx := by
  obtain ⟨hlt, c, m, hb⟩ := hb
  have i0 : ∀ {x y : Val}, atI [x, y] 0 = some x := rfl
  have i1 : ∀ {x y : Val}, atI [x, y] 1 = some y := rfl
  have j0 : ixN 2 0 = some 0 := rfl
  have j1 : ixN 2 1 = some 1 := rfl
  unfold d__law_take runM m__law_take
  by_cases c0 : 0 < c
  · dsimp! [hb, i0, j0, decide_eq_true c0, h0, h1]
    exact ⟨_, _, rfl, Int.emod_nonneg _ (by omega), Int.emod_lt_of_pos _ h0, Kee.put (by simp), ⟨hlt, _, _, Mu.put_same ..⟩, rfl⟩
  · dsimp! [hb, i0, i1, j1, decide_eq_false c0, h0, h1]
    refine ⟨_, _, rfl, Int.emod_nonneg _ (by omega), Int.emod_lt_of_pos _ h0, Kee.put (by simp), ⟨hlt, _, _, Mu.put_same ..⟩, rfl⟩
theorem of_eq {μ : Mu} {b l : Nat} (hb : Bag μ b) {xs : List Val} (hl : seqOf μ l = some xs) (hll : l < μ.nx) (ne : l ≠ b) (h0 : 0 < xs.length) (h1 : xs.length < 1073741824) : ∃ x μ', d__law_of [.loc b, .loc l] μ = .ok x μ' ∧ x ∈ xs ∧ Kee [b] μ μ' ∧ Bag μ' b ∧ μ'.nx = μ.nx := by
  obtain ⟨k, μ', e, k0, k1, kp, bg, nx⟩ := take_eq hb (n := (xs.length : Nat)) (by omega) (by omega)
  have hl' : seqOf μ' l = some xs := by
    unfold seqOf at hl ⊢
    rw [kp.ob l hll (by simpa using ne)]
    exact hl
  have hlt : k.toNat < xs.length := by omega
  have ha : atI xs k = some xs[k.toNat] := by
    have z := atI_nat (List.getElem?_eq_getElem hlt)
    rw [show ((k.toNat : Nat) : Int) = k by omega] at z
    exact z
  refine ⟨xs[k.toNat], μ', ?_, List.getElem_mem hlt, kp, bg, nx⟩
  unfold seqOf at hl hl'
  unfold d__law_of runM m__law_of
  dsimp! [hl, e, hl', ha]

theorem cut_ints (ns : List Int) (lo hi : Option Int) : cutG (ns.map Val.int) lo hi = (cutG ns lo hi).map Val.int := by
  unfold cutG
  rw [List.length_map, List.map_take, List.map_drop]
theorem enm_ints_get {l : List Int} {i : Nat} {v : Val} (h : (enmM (l.map Val.int))[i]? = some v) : ∃ y, v = .tup [.int (i : Nat), .int y] := by
  rw [enmM_get, List.getElem?_map] at h
  cases e : l[i]? with
  | none => rw [e] at h; cases h
  | some y => rw [e] at h; cases h; exact ⟨y, rfl⟩
theorem bag_eq {μ : Mu} {s : Nat} {ns : List Int} {i : Int} (hs : seqOf μ s = some (ns.map Val.int)) (hl : s < μ.nx) (hi : 0 ≤ i) : ∃ p μ', d__law_bag [.loc s, .int i] μ = .ok (.loc p) μ' ∧ Kee [] μ μ' ∧ Bag μ' p ∧ μ.nx ≤ p := by
  have hs0 := hs
  unfold seqOf at hs
  suffices h : Gets (d__law_bag [.loc s, .int i] μ) fun v μ' => ∃ p, v = .loc p ∧ Kee [] μ μ' ∧ Bag μ' p ∧ μ.nx ≤ p by
    obtain ⟨v, μ', e, p, rfl, q⟩ := h.ex
    exact ⟨p, μ', e, q⟩
  refine Gets.run rfl ?_
  have rest : ∀ cell blend : Int, Rets (sSeq (sFor (iEnm (mCons (mSl (mV 0) mP0 (mP (mC (.int 40)))) mNil)) (tgT [4, 5]) m__law_bag_1) (sRet (mLst (mCons (mIf (mTest (mOp geM (mFn absM (mCons (mV 2) mNil)) (mOp powM (mC (.int 10)) (mC (.int 18))))) (mFn absM (mCons (mV 2) mNil)) (mC (.int 0))) (mCons (mV 3) mNil)))) [some (.loc s), some (.int i), some (.int cell), some (.int blend), none, none] μ) fun v μ' => ∃ p, v = .loc p ∧ Kee [] μ μ' ∧ Bag μ' p ∧ μ.nx ≤ p := by
    intro cell blend
    unfold sSeq
    refine Rets.then ?_
    refine sFor_goes (k := .enm μ.nx) (μ1 := μ.new (.lst (cutG (ns.map Val.int) none (some 40)))) (vs := enmM ((cutG ns none (some 40)).map Val.int)) ?_ ?_ (fun _ ρ μ' => (∃ b v4 v5, ρ = [some (.loc s), some (.int i), some (.int cell), some (.int b), v4, v5]) ∧ μ' = μ.new (.lst (cutG (ns.map Val.int) none (some 40)))) ⟨⟨_, _, _, rfl⟩, rfl⟩ ?_ ?_ ?_
    · dsimp! [hs]
    · dsimp! [cut_ints]
      rfl
    · rintro j ρ μ' _ ⟨_, rfl⟩
      dsimp! [cut_ints]
      rfl
    · rintro j v ρ μ' hv ⟨⟨b, v4, v5, rfl⟩, rfl⟩
      obtain ⟨y, rfl⟩ := enm_ints_get hv
      refine ⟨_, rfl, ?_⟩
      unfold m__law_bag_1
      dsimp!
      exact ⟨_, _, _, rfl⟩
    · rintro ρ μ' ⟨⟨b, v4, v5, rfl⟩, rfl⟩
      have fin : ∀ z : Int, ∃ p, Val.loc (μ.nx + 1) = .loc p ∧ Kee [] μ ((μ.new (.lst (cutG (ns.map Val.int) none (some 40)))).new (.lst [.int z, .int b])) ∧ Bag ((μ.new (.lst (cutG (ns.map Val.int) none (some 40)))).new (.lst [.int z, .int b])) p ∧ μ.nx ≤ p := fun z =>
        ⟨_, rfl, Kee.new.trans Kee.new, ⟨Nat.lt_succ_self _, _, _, Mu.new_same ..⟩, Nat.le_succ _⟩
      generalize hd : decide ((1000000000000000000 : Int) ≤ if cell < 0 then -cell else cell) = dd
      cases dd with
      | true =>
        dsimp! [hd, show Int.natAbs 10 = 10 from rfl]
        exact fin _
      | false =>
        dsimp! [hd, show Int.natAbs 10 = 10 from rfl]
        exact fin _
  by_cases c : i < (ns.length : Int)
  · have ha : atI (ns.map Val.int) i = some (.int ns[i.toNat]) := by
      have hlt : i.toNat < ns.length := by omega
      have z := atI_nat (xs := ns.map Val.int) (j := i.toNat) (v := .int ns[i.toNat]) (by rw [List.getElem?_map, List.getElem?_eq_getElem hlt]; rfl)
      rw [show ((i.toNat : Nat) : Int) = i by omega] at z
      exact z
    unfold m__law_bag
    dsimp! [hs, List.length_map, decide_eq_true c, ha]
    exact rest _ _
  · unfold m__law_bag
    dsimp! [hs, List.length_map, decide_eq_false c]
    exact rest _ _

/-! ### data, plainly (P43 without the reports) -/
theorem ixN_in {n : Nat} {i : Int} (h0 : 0 ≤ i) (h1 : i < n) : ixN n i = some i.toNat := by
  unfold ixN
  rw [if_pos h0, if_pos h1]
/-! ### draws, as plain data do (as in P300) -/
section
variable {h : Hd} {X : List Nat} {μ μ' : Mu} {σ : Sg} {v : Sv} {Q : Dt → Sg → Prop} {k n : Nat}
theorem DRs.inil {h : Hd} {X : List Nat} {μ : Mu} {xs : List Val} (q : DRs h X μ xs []) : xs = [] := by cases q; rfl
end
def bag_ : List Dt → Sg → (Dt → Sg → Prop) → Prop := fun ds σ Q => match ds with
  | [.ros l, .int i] => (∃ ns : List Int, l = ns.map .int) ∧ 0 ≤ i ∧ Q (.ref σ.length) (σ ++ [.bag])
  | _ => False
def take_ : List Dt → Sg → (Dt → Sg → Prop) → Prop := fun ds σ Q => match ds with
  | [.ref b, .int n] => σ[b]? = some .bag ∧ 0 < n ∧ n < 1073741824 ∧ ∀ k, 0 ≤ k → k < n → Q (.int k) σ
  | _ => False
def of_ : List Dt → Sg → (Dt → Sg → Prop) → Prop := fun ds σ Q => match ds with
  | [.ref b, .lst l] => σ[b]? = some .bag ∧ 0 < l.length ∧ l.length < 1073741824 ∧ ∀ d ∈ l, Q d σ
  | _ => False
section
variable {h : Hd} {X : List Nat} {μ μ' : Mu} {σ : Sg} {Q : Dt → Sg → Prop} {k n b : Nat}
theorem Sm.bag (S : Sm h X μ σ) (hk : h[k]? = some b) (hs : σ[k]? = some .bag) : Bag μ b := ⟨S.lt b (List.mem_of_getElem? hk), S.ob k b _ hk hs⟩
theorem okR_draw (S : Sm h X μ σ) (hk : h[k]? = some b) (hs : σ[k]? = some .bag) {y : Val} {d : Dt} (kp : Kee [b] μ μ') (hb : Bag μ' b) (q : Ext h h [] μ μ' → DR h X μ' y d) (hq : Q d σ) : OkR rlE h X μ Q (.ok y μ') := by
  have hm := List.mem_of_getElem? hk
  have E : Ext h h [] μ μ' := Ext.kee kp fun m z => by cases List.mem_singleton.mp z; exact hm
  have S' := S.put hk E (c := .bag) hb.2 fun m z ne => kp.ob m (S.lt m z) fun y => ne (List.mem_singleton.mp y)
  have e : σ.set k .bag = σ := by
    obtain ⟨l, z⟩ := List.getElem?_eq_some_iff.mp hs
    rw [← z]
    exact List.set_getElem_self l
  rw [e] at S'
  exact ⟨y, μ', h, d, σ, rfl, E, S', q E, hq⟩
theorem ints_un : ∀ {ns : List Int} {vs : List Val}, DRs h X μ vs (ns.map .int) → vs = ns.map .int
  | [], _, q => q.inil
  | i :: ns, v :: vs, .cons a b => by rw [DW.int (.inl a), ints_un b]; rfl
theorem sd_bag : SiD d__law_bag bag_ := fun h X μ σ vs ds Q S q hq => by
  unfold bag_ at hq
  split at hq
  · rename_i l i
    obtain ⟨⟨ns, rfl⟩, hi, hq⟩ := hq
    obtain ⟨x, y, rfl, a, b⟩ := DWs.two (DRs.w q)
    obtain ⟨s, ws, rfl, sl, o, r⟩ := DW.ros a
    rw [b.int]
    rw [ints_un r] at o
    obtain ⟨p, μ', e, kp, bg, pn⟩ := bag_eq o sl hi
    rw [e]
    obtain ⟨S', E⟩ := S.mk_ (Ext.kee (h := h) kp fun _ => none_in) pn bg.1 (fun m z => kp.ob m (S.lt m z) fun y => nomatch y) (c := .bag) bg.2
    refine ⟨_, _, _, _, _, rfl, E, S', .ref ?_, hq⟩
    rw [← S.len, List.getElem?_append_right (Nat.le_refl _), Nat.sub_self]
    rfl
  · exact hq.elim
theorem sd_take : SiD d__law_take take_ := fun h X μ σ vs ds Q S q hq => by
  unfold take_ at hq
  split at hq
  · obtain ⟨hs, h0, h1, hq⟩ := hq
    obtain ⟨x, y, rfl, a, c⟩ := DWs.two (DRs.w q)
    obtain ⟨n, rfl, hk⟩ := a.ref
    rw [c.int]
    obtain ⟨k, μ', e, k0, k1, kp, bg, _⟩ := take_eq (S.bag hk hs) h0 h1
    rw [e]
    exact okR_draw S hk hs kp bg (fun _ => .int _) (hq k k0 k1)
  · exact hq.elim
theorem DRs.mem : ∀ {vs : List Val} {ds : List Dt}, DRs h X μ vs ds → ∀ x ∈ vs, ∃ d ∈ ds, DR h X μ x d
  | _, _, .nil, x, m => nomatch m
  | _, _, .cons a b, x, m => by
    rcases List.mem_cons.mp m with z | z
    · exact ⟨_, List.mem_cons_self, z ▸ a⟩
    · obtain ⟨d, u, w⟩ := DRs.mem b x z
      exact ⟨d, List.mem_cons_of_mem _ u, w⟩
theorem sd_of : SiD d__law_of of_ := fun h X μ σ vs ds Q S q hq => by
  unfold of_ at hq
  split at hq
  · obtain ⟨hs, h0, h1, hq⟩ := hq
    obtain ⟨x, y, rfl, a, c⟩ : ∃ x y, vs = [x, y] ∧ DR h X μ x _ ∧ DR h X μ y _ := by
      match vs, q with
      | [x, y], .cons a (.cons b .nil) => exact ⟨x, y, rfl, a, b⟩
    obtain ⟨n, rfl, hk⟩ := DW.ref (.inl a)
    cases c with
    | @obj m _ _ c1 c2 c3 o c =>
      cases c with
      | lst r =>
        have ne : m ≠ n := fun z => c1 (z ▸ List.mem_of_getElem? hk)
        obtain ⟨x, μ', e, hx, kp, bg, _⟩ := of_eq (S.bag hk hs) (seqOf_l o) c3 ne (by rw [r.len]; exact h0) (by rw [r.len]; exact h1)
        rw [e]
        obtain ⟨d, hd, qd⟩ := r.mem x hx
        exact okR_draw S hk hs kp bg (fun E => qd.ext E fun _ => none_in) (hq d hd)
  · exact hq.elim
end
/-- the law, from its plain form -/
theorem law_plain {d : List Val → Mu → R Val} {p : List Dt → Sg → (Dt → Sg → Prop) → Prop} (s : SiD d p) {μ : Mu} {n : Nat} {ns : List Int} (hs : seqOf μ n = some (ns.map Val.int)) (sl : n < μ.nx) (hq : p [.ros (ns.map .int)] [] fun d _ => d = .bl true) : Gets (d [.loc n] μ) fun v _ => v = .bl true := by
  have S : Sm [] [] μ [] := ⟨rfl, List.nodup_nil, fun _ z => (nomatch z), fun _ z => (nomatch z), fun k n c z => (nomatch z)⟩
  obtain ⟨o, ho, hk⟩ : ∃ o, μ.ob n = some o ∧ (o = .lst (ns.map Val.int) ∨ o = .ro (ns.map Val.int)) := by
    unfold seqOf at hs
    split at hs
    · rename_i e; cases hs; exact ⟨_, e, .inl rfl⟩
    · rename_i e; cases hs; exact ⟨_, e, .inr rfl⟩
    · cases hs
  obtain ⟨v, μ', h', x, σ', e, _, _, q, rfl⟩ := s [] [] μ [] [.loc n] _ _ S (.cons (.obj (fun z => (nomatch z)) (fun z => (nomatch z)) sl ho (.ros hk (DRs.of _ fun x _ => .int x))) .nil) hq
  rw [e]
  exact DW.bl (.inl q)

/-! ### texts, as plain data do -/
def strD : List Dt → Sg → Option Dt
  | [.int i], _ => if i.natAbs ≤ 1000000000000000000000 then some (.str (toString i)) else none
  | [.str a], _ => some (.str a)
  | _, _ => none
theorem p_str' : PN strM strD := by
  intro h X μ σ xs dxs d S hx e
  unfold strD at e
  split at e
  · obtain ⟨v, rfl, q⟩ := hx.one
    split at e
    · rename_i c
      cases e
      rw [q.int]
      unfold strM
      simp only
      rw [if_pos c]
      exact .id S (.str _)
    · cases e
  · obtain ⟨v, rfl, q⟩ := hx.one
    cases e
    rw [q.str]
    exact .id S (.str _)
  · cases e
def strsD : List Dt → Option (List Str)
  | [] => some []
  | .str a :: vs => (strsD vs).map (a :: ·)
  | _ :: _ => none
theorem strsD_map : ∀ {l : List Str}, strsD (l.map Dt.str) = some l
  | [] => rfl
  | a :: l => by show (strsD (l.map Dt.str)).map (a :: ·) = _; rw [strsD_map]; rfl
theorem strsD_rel {h : Hd} {X : List Nat} {μ : Mu} : ∀ {vs : List Val} {ds : List Dt} {ys : List Str}, DRs h X μ vs ds → strsD ds = some ys → jStrV vs = some ys
  | _, _, _, .nil, e => by cases e; rfl
  | _, _, ys, .cons (d := d) r1 r2, e => by
    cases d with
    | str a =>
      obtain ⟨zs, h1, rfl⟩ := Option.map_eq_some_iff.mp e
      cases DW.str (.inl r1)
      show (jStrV _).map (a :: ·) = _
      rw [strsD_rel r2 h1]
      rfl
    | _ => cases e
def joinD (x y : Dt) (σ : Sg) : Option Dt := match x with
  | .str a => ((lstD σ y).bind strsD).bind fun ys => if joinFitM a ys then some (.str (Txt.join a ys)) else none
  | _ => none
theorem p_join : P2 joinR joinD := by
  intro h X μ σ x y dx dy d S hx hy e
  cases dx with
  | str a =>
    obtain ⟨ys, e1, e2⟩ := Option.bind_eq_some_iff.mp (show ((lstD σ dy).bind strsD).bind _ = some d from e)
    obtain ⟨l, e3, e4⟩ := Option.bind_eq_some_iff.mp e1
    rw [hx.str]
    obtain ⟨n, vs, rfl, _, o, r⟩ := hy.lst S e3
    unfold joinR
    have : (jItsV (.loc n) μ).bind jStrV = some ys := by
      show (seqOf μ n).bind jStrV = _
      rw [seqOf_l o]
      exact strsD_rel r e4
    simp only [this]
    split at e2
    · rename_i c
      cases e2
      rw [if_pos c]
      exact .id S (.str _)
    · cases e2
  | _ => cases e
/-! ### a def called by its one argument's name, as plain data do -/
theorem callK1 {d : List Val → Mu → R Val} {as : MA} : mCallK 1 1 [0] d as = mCall 1 d as := by
  funext ρ μ
  unfold mCallK mCall
  congr 1
  funext zs μ1
  match zs with
  | [] => rfl
  | [x] => rfl
  | x :: y :: l => rw [if_neg (fun z => absurd z.1 (by simp)), if_neg (by simp)]
theorem si_callK1 {d : List Val → Mu → R Val} {d' : List Dt → Sg → (Dt → Sg → Prop) → Prop} {as : MA} {as' : PlA} (sd : SiD d d') (sa : SiA as as') : SiE (mCallK 1 1 [0] d as) (pCall 1 d' as') := by
  rw [callK1]
  exact si_call sd sa

/-! ### a word in a tuple of words, as plain data do -/
def inTD : Dt → Dt → Sg → Option Dt
  | .str a, .tup l, _ => (strsD l).map fun ys => .bl (decide (a ∈ ys))
  | _, _, _ => none
theorem strsD_O {h : Hd} {X : List Nat} {μ : Mu} : ∀ {vs : List Val} {ds : List Dt} {ys : List Str}, DRs h X μ vs ds → strsD ds = some ys → strsO vs = some ys
  | _, _, _, .nil, e => by cases e; rfl
  | _, _, ys, .cons (d := d) r1 r2, e => by
    cases d with
    | str a =>
      obtain ⟨zs, h1, rfl⟩ := Option.map_eq_some_iff.mp e
      cases DW.str (.inl r1)
      show (strsO _).map (a :: ·) = _
      rw [strsD_O r2 h1]
      rfl
    | _ => cases e
theorem p_inT : P2 inTM inTD := by
  intro h X μ σ x y dx dy d S hx hy e
  unfold inTD at e
  split at e
  · rename_i a l
    obtain ⟨ys, e1, rfl⟩ := Option.map_eq_some_iff.mp e
    obtain ⟨vs, rfl, r⟩ := hy.tup
    rw [hx.str]
    have t : tupHas (.str a) (.tup vs) = some (decide (a ∈ ys)) := by
      show (strsO vs).map _ = _
      rw [strsD_O r e1]
      rfl
    unfold inTM
    simp only [t]
    exact .id S (.bl _)
  · cases e

/-! ### k25: the defs, as plain data do -/
def p_show_argument : PlS :=
    (qSeq (qIf (pTest (pOp isD (pV 0) (pC .non))) (qRet (pC (.str "-"))) qNil)
    (qRet (pIf (pTest (pUn isiTD (pV 0))) (pV 0) (pFn strD (pCons (pV 0) pNil)))))
theorem ss_show_argument : SiS m_show_argument p_show_argument := by
  unfold m_show_argument p_show_argument
  exact (si_seq (si_ifS (si_test (si_op p_is ((si_var _)).w (si_non).w)) (si_ret (si_str _)) si_sNil) (si_ret (si_if (si_test (si_un p_isiT' ((si_var _)).w)) (si_var _) (si_fn p_str' (si_consW ((si_var _)).w si_nilW)))))
def p_show_argument_ : List Dt → Sg → (Dt → Sg → Prop) → Prop := runD 1 1 p_show_argument
theorem sd_show_argument : SiD d_show_argument p_show_argument_ := si_run ss_show_argument
def p_show_call : PlS :=
    (qRet (pOp joinD (pC (.str " ")) (pLc (pItW (pV 0)) [1] (gN 1) pYes (pCall 1 p_show_argument_ (pCons (pV 1) pNil)))))
theorem ss_show_call : SiS m_show_call p_show_call := by
  unfold m_show_call p_show_call
  exact (si_ret (si_op p_join ((si_str _)).w ((si_lc (si_itW ((si_var _)).w) (si_gN _) si_yes (si_call sd_show_argument (si_cons (si_var _) si_nil)))).w))
def p_show_call_ : List Dt → Sg → (Dt → Sg → Prop) → Prop := runD 1 2 p_show_call
theorem sd_show_call : SiD d_show_call p_show_call_ := si_run ss_show_call
def p_is_number_text_1 : PlS :=
    (qIf (pOr (pNot (pTest (pChain leD leD (pC (.int 1)) (pFn lenD (pCons (pV 0) pNil)) (pC (.int 9))))) (pNot (pTest (pFn allD_ (pCons (pLc (pItS (pV 0)) [1] (gN 1) pYes (pOp inSgD (pV 1) (pC (.str "0123456789")))) pNil))))) (qRet (pC (.bl false))) qNil)
theorem ss_is_number_text_1 : SiS m_is_number_text_1 p_is_number_text_1 := by
  unfold m_is_number_text_1 p_is_number_text_1
  exact (si_ifS (si_or (si_not (si_test (si_chain p_le p_le (si_int _) (si_fn p_len' (si_consW ((si_var _)).w si_nilW)) (si_int _)))) (si_not (si_test (si_fn p_all' (si_consW ((si_lc ((si_itS (si_var _)).w) (si_gN _) si_yes (si_op p_inSg ((si_var _)).w ((si_str _)).w))).w si_nilW))))) (si_ret (si_bl _)) si_sNil)
def p_is_number_text_2 : PlS :=
    (qRet (pOrT (pOp eqD (pV 0) (pC (.str "0"))) (pOp neD (pOp ixSD (pV 0) (pC (.int 0))) (pC (.str "0")))))
theorem ss_is_number_text_2 : SiS m_is_number_text_2 p_is_number_text_2 := by
  unfold m_is_number_text_2 p_is_number_text_2
  exact (si_ret (si_orT (si_op p_eq ((si_var _)).w ((si_str _)).w) (si_op p_ne ((si_op p_ixS ((si_var _)).w ((si_int _)).w)).w ((si_str _)).w)))
def p_is_number_text : PlS :=
    (qSeq p_is_number_text_1
    p_is_number_text_2)
theorem ss_is_number_text : SiS m_is_number_text p_is_number_text := by
  unfold m_is_number_text p_is_number_text
  exact (si_seq ss_is_number_text_1 ss_is_number_text_2)
def p_is_number_text_ : List Dt → Sg → (Dt → Sg → Prop) → Prop := runD 1 2 p_is_number_text
theorem sd_is_number_text : SiD d_is_number_text p_is_number_text_ := si_run ss_is_number_text
def p_is_argument_1 : PlS :=
    (qIf (pTest (pOp eqD (pV 1) (pC (.str "word")))) (qRet (pOp inTD (pV 0) (pTup (pCons (pC (.str "level")) (pCons (pC (.str "edge")) (pCons (pC (.str "once")) pNil)))))) qNil)
theorem ss_is_argument_1 : SiS m_is_argument_1 p_is_argument_1 := by
  unfold m_is_argument_1 p_is_argument_1
  exact (si_ifS (si_test (si_op p_eq ((si_var _)).w ((si_str _)).w)) (si_ret (si_op p_inT ((si_var _)).w ((si_tup (si_cons (si_str _) (si_cons (si_str _) (si_cons (si_str _) si_nil))))).w)) si_sNil)
def p_is_argument_2 : PlS :=
    (qRet (pOrT (pCall 1 p_is_number_text_ (pCons (pV 0) pNil)) (pAndT (pOp eqD (pV 1) (pC (.str "optional"))) (pOp eqD (pV 0) (pC (.str "-"))))))
theorem ss_is_argument_2 : SiS m_is_argument_2 p_is_argument_2 := by
  unfold m_is_argument_2 p_is_argument_2
  exact (si_ret (si_orT (si_call sd_is_number_text (si_cons (si_var _) si_nil)) (si_andT (si_op p_eq ((si_var _)).w ((si_str _)).w) (si_op p_eq ((si_var _)).w ((si_str _)).w))))
def p_is_argument : PlS :=
    (qSeq p_is_argument_1
    p_is_argument_2)
theorem ss_is_argument : SiS m_is_argument p_is_argument := by
  unfold m_is_argument p_is_argument
  exact (si_seq ss_is_argument_1 ss_is_argument_2)
def p_is_argument_ : List Dt → Sg → (Dt → Sg → Prop) → Prop := runD 2 2 p_is_argument
theorem sd_is_argument : SiD d_is_argument p_is_argument_ := si_run ss_is_argument
def p_argument_in_1 : PlS :=
    (qRet (pIf (pTest (pOp eqD (pV 0) (pC (.str "-")))) (pC .non) (pFn intSD (pCons (pV 0) pNil))))
theorem ss_argument_in_1 : SiS m_argument_in_1 p_argument_in_1 := by
  unfold m_argument_in_1 p_argument_in_1
  exact (si_ret (si_if (si_test (si_op p_eq ((si_var _)).w ((si_str _)).w)) si_non (si_fn p_intS' (si_consW ((si_var _)).w si_nilW))))
def p_argument_in : PlS :=
    (qSeq (qIf (pTest (pOp eqD (pV 1) (pC (.str "word")))) (qRet (pV 0)) qNil)
    p_argument_in_1)
theorem ss_argument_in : SiS m_argument_in p_argument_in := by
  unfold m_argument_in p_argument_in
  exact (si_seq (si_ifS (si_test (si_op p_eq ((si_var _)).w ((si_str _)).w)) (si_ret (si_var _)) si_sNil) ss_argument_in_1)
def p_argument_in_ : List Dt → Sg → (Dt → Sg → Prop) → Prop := runD 2 2 p_argument_in
theorem sd_argument_in : SiD d_argument_in p_argument_in_ := si_run ss_argument_in
def p_call_in_1 : PlS :=
    (qIf (pOr (pTest (pOp eqD (pFn lenD (pCons (pV 3) pNil)) (pC (.int 0)))) (pTest (pOp neD (pFn lenD (pCons (pV 2) pNil)) (pFn lenD (pCons (pV 3) pNil))))) (qRet (pC .non)) qNil)
theorem ss_call_in_1 : SiS m_call_in_1 p_call_in_1 := by
  unfold m_call_in_1 p_call_in_1
  exact (si_ifS (si_or (si_test (si_op p_eq ((si_fn p_len' (si_consW ((si_var _)).w si_nilW))).w ((si_int _)).w)) (si_test (si_op p_ne ((si_fn p_len' (si_consW ((si_var _)).w si_nilW))).w ((si_fn p_len' (si_consW ((si_var _)).w si_nilW))).w))) (si_ret si_non) si_sNil)
def p_call_in_2 : PlS :=
    (qIf (pNot (pTest (pFn allD_ (pCons (pLc (pItW (pV 4)) [5, 6] (gT [5, 6]) pYes (pCall 2 p_is_argument_ (pCons (pV 5) (pCons (pV 6) pNil)))) pNil)))) (qRet (pC .non)) qNil)
theorem ss_call_in_2 : SiS m_call_in_2 p_call_in_2 := by
  unfold m_call_in_2 p_call_in_2
  exact (si_ifS (si_not (si_test (si_fn p_all' (si_consW ((si_lc (si_itW ((si_var _)).w) (si_gT _) si_yes (si_call sd_is_argument (si_cons (si_var _) (si_cons (si_var _) si_nil))))).w si_nilW)))) (si_ret si_non) si_sNil)
def p_call_in_3 : PlS :=
    (qRet (pTup (pCons (pV 1) (pStar (pLc (pItW (pV 4)) [5, 6] (gT [5, 6]) pYes (pCall 2 p_argument_in_ (pCons (pV 5) (pCons (pV 6) pNil)))) pNil))))
theorem ss_call_in_3 : SiS m_call_in_3 p_call_in_3 := by
  unfold m_call_in_3 p_call_in_3
  exact (si_ret (si_tup (si_cons (si_var _) (si_star (si_lc (si_itW ((si_var _)).w) (si_gT _) si_yes (si_call sd_argument_in (si_cons (si_var _) (si_cons (si_var _) si_nil)))) si_nil))))
def p_call_in : PlS :=
    (qSeq (qPar 1 2 (pSt (pUn (splD " ") (pV 0))))
    (qSeq (qSet 3 (pArgs (pV 1) (pTup pNil)))
    (qSeq p_call_in_1
    (qSeq (qSet 4 (pFn lstZipD (pCons (pV 2) (pCons (pV 3) pNil))))
    (qSeq p_call_in_2
    p_call_in_3)))))
theorem ss_call_in : SiS m_call_in p_call_in := by
  unfold m_call_in p_call_in
  exact (si_seq (si_sStar _ _ (si_un (p_spl _) ((si_var _)).w)) (si_seq (si_set _ (si_args (si_var _) (si_tup si_nil))) (si_seq ss_call_in_1 (si_seq (si_set _ (si_fn p_lstZip (si_consW ((si_var _)).w (si_consW ((si_var _)).w si_nilW)))) (si_seq ss_call_in_2 ss_call_in_3)))))
def p_call_in_ : List Dt → Sg → (Dt → Sg → Prop) → Prop := runD 1 7 p_call_in
theorem sd_call_in : SiD d_call_in p_call_in_ := si_run ss_call_in
def p_read_call : PlS :=
    (qSeq (qIf (pNot (pTest (pUn isiTD (pV 0)))) qNoS qNil)
    (qSeq (qSet 1 (pCall 1 p_call_in_ (pCons (pV 0) pNil)))
    (qSeq (qIf (pTest (pOp isD (pV 1) (pC .non))) qNoS qNil)
    (qRet (pV 1)))))
theorem ss_read_call : SiS m_read_call p_read_call := by
  unfold m_read_call p_read_call
  exact (si_seq (si_ifS (si_not (si_test (si_un p_isiT' ((si_var _)).w))) si_noS si_sNil) (si_seq (si_set _ (si_call sd_call_in (si_cons (si_var _) si_nil))) (si_seq (si_ifS (si_test (si_op p_is ((si_var _)).w (si_non).w)) si_noS si_sNil) (si_ret (si_var _)))))
def p_read_call_ : List Dt → Sg → (Dt → Sg → Prop) → Prop := runD 1 2 p_read_call
theorem sd_read_call : SiD d_read_call p_read_call_ := si_run ss_read_call
def p_show_calls : PlS :=
    (qRet (pOp joinD (pC (.str "\n")) (pLc (pItW (pV 0)) [1] (gN 1) pYes (pCall 1 p_show_call_ (pCons (pV 1) pNil)))))
theorem ss_show_calls : SiS m_show_calls p_show_calls := by
  unfold m_show_calls p_show_calls
  exact (si_ret (si_op p_join ((si_str _)).w ((si_lc (si_itW ((si_var _)).w) (si_gN _) si_yes (si_call sd_show_call (si_cons (si_var _) si_nil)))).w))
def p_show_calls_ : List Dt → Sg → (Dt → Sg → Prop) → Prop := runD 1 2 p_show_calls
theorem sd_show_calls : SiD d_show_calls p_show_calls_ := si_run ss_show_calls
def p_read_calls_1 : PlS :=
    (qSeq (qSet 4 (pCall 1 p_call_in_ (pCons (pV 3) pNil)))
    (qSeq (qIf (pTest (pOp isD (pV 4) (pC .non))) qNoS qNil)
    (qApp 1 (pV 4))))
theorem ss_read_calls_1 : SiS m_read_calls_1 p_read_calls_1 := by
  unfold m_read_calls_1 p_read_calls_1
  exact (si_seq (si_set _ (si_call sd_call_in (si_cons (si_var _) si_nil))) (si_seq (si_ifS (si_test (si_op p_is ((si_var _)).w (si_non).w)) si_noS si_sNil) (si_app _ (si_var _))))
def p_read_calls_2 : PlS :=
    (qFor (pEnm (pCons (pIf (pTest (pOp neD (pV 0) (pC (.str "")))) (pUn (splD "\n") (pV 0)) (pLst pNil)) pNil)) (gT [2, 3]) p_read_calls_1)
theorem ss_read_calls_2 : SiS m_read_calls_2 p_read_calls_2 := by
  unfold m_read_calls_2 p_read_calls_2
  exact (si_for (si_enm (si_cons (si_if (si_test (si_op p_ne ((si_var _)).w ((si_str _)).w)) (si_un (p_spl _) ((si_var _)).w) (si_lst si_nil)) si_nil)) (si_gT _) ss_read_calls_1)
def p_read_calls : PlS :=
    (qSeq (qIf (pNot (pTest (pUn isiTD (pV 0)))) qNoS qNil)
    (qSeq (qOwn 1 (pLst pNil))
    (qSeq p_read_calls_2
    (qRetO 1))))
theorem ss_read_calls : SiS m_read_calls p_read_calls := by
  unfold m_read_calls p_read_calls
  exact (si_seq (si_ifS (si_not (si_test (si_un p_isiT' ((si_var _)).w))) si_noS si_sNil) (si_seq (si_setO _ (si_lstF si_nil)) (si_seq ss_read_calls_2 (si_retO _))))
def p_read_calls_ : List Dt → Sg → (Dt → Sg → Prop) → Prop := runD 1 5 p_read_calls
theorem sd_read_calls : SiD d_read_calls p_read_calls_ := si_run ss_read_calls
def p_read_callsF_ : List Dt → Sg → (Dt → Sg → Prop) → Prop := runF 1 5 1 (qSeq (qIf (pNot (pTest (pUn isiTD (pV 0)))) qNoS qNil) (qSeq (qOwn 1 (pLst pNil)) p_read_calls_2))
theorem sdF_read_calls : SdF d_read_calls p_read_callsF_ := by
  have e : m_read_calls = sSeq (sSeq (sIf (mNot (mTest (mUn isiT (mV 0)))) sNo sNil) (sSeq (sSet 1 (mLst mNil)) m_read_calls_2)) (sRet (mV 1)) := by unfold m_read_calls; simp only [sSeq_assoc]
  unfold d_read_calls p_read_callsF_
  rw [e]
  exact sdF_run (si_seq (si_ifS (si_not (si_test (si_un p_isiT' ((si_var _)).w))) si_noS si_sNil) (si_seq (si_setO _ (si_lstF si_nil)) ss_read_calls_2))
def p__law_number_1 : PlS :=
    (qIf (pTest (pOp eqD (pV 1) (pC (.int 3)))) (qRet (pCall 2 of_ (pCons (pV 0) (pCons (pLst (pCons (pC (.int 0)) (pCons (pC (.int 9)) (pCons (pC (.int 10)) (pCons (pC (.int 99)) (pCons (pC (.int 100)) (pCons (pC (.int 999999999)) (pCons (pC (.int 100000000)) (pCons (pC (.int 1000000)) pNil))))))))) pNil)))) qNil)
theorem ss__law_number_1 : SiS m__law_number_1 p__law_number_1 := by
  unfold m__law_number_1 p__law_number_1
  exact (si_ifS (si_test (si_op p_eq ((si_var _)).w ((si_int _)).w)) (si_ret (si_call sd_of (si_cons (si_var _) (si_cons (si_lst (si_cons (si_int _) (si_cons (si_int _) (si_cons (si_int _) (si_cons (si_int _) (si_cons (si_int _) (si_cons (si_int _) (si_cons (si_int _) (si_cons (si_int _) si_nil))))))))) si_nil)))) si_sNil)
def p__law_number_2 : PlS :=
    (qRet (pCall 2 take_ (pCons (pV 0) (pCons (pOp getD_ (pLst (pCons (pC (.int 8)) (pCons (pC (.int 100)) (pCons (pC (.int 1000000000)) pNil)))) (pV 1)) pNil))))
theorem ss__law_number_2 : SiS m__law_number_2 p__law_number_2 := by
  unfold m__law_number_2 p__law_number_2
  exact (si_ret (si_call sd_take (si_cons (si_var _) (si_cons (si_op p_get ((si_lst (si_cons (si_int _) (si_cons (si_int _) (si_cons (si_int _) si_nil))))).w ((si_var _)).w) si_nil))))
def p__law_number : PlS :=
    (qSeq (qSet 1 (pCall 2 take_ (pCons (pV 0) (pCons (pC (.int 4)) pNil))))
    (qSeq p__law_number_1
    p__law_number_2))
theorem ss__law_number : SiS m__law_number p__law_number := by
  unfold m__law_number p__law_number
  exact (si_seq (si_set _ (si_call sd_take (si_cons (si_var _) (si_cons (si_int _) si_nil)))) (si_seq ss__law_number_1 ss__law_number_2))
def p__law_number_ : List Dt → Sg → (Dt → Sg → Prop) → Prop := runD 1 2 p__law_number
theorem sd__law_number : SiD d__law_number p__law_number_ := si_run ss__law_number
def p__law_call_1 : PlS :=
    (qUnp [1, 2, 3, 4] (pLc (pRng1 (pCons (pC (.int 4)) pNil)) [5] (gN 5) pYes (pCall 1 p__law_number_ (pCons (pV 0) pNil))))
theorem ss__law_call_1 : SiS m__law_call_1 p__law_call_1 := by
  unfold m__law_call_1 p__law_call_1
  exact (si_unp _ (si_lc ((si_rng1 (si_cons (si_int _) si_nil)).w) (si_gN _) si_yes (si_call sd__law_number (si_cons (si_var _) si_nil))))
def p__law_call_2 : PlS :=
    (qPar 6 7 (pCons (pCall 2 of_ (pCons (pV 0) (pCons (pLst (pCons (pC (.str "level")) (pCons (pC (.str "edge")) (pCons (pC (.str "once")) pNil)))) pNil))) (pCons (pCall 2 of_ (pCons (pV 0) (pCons (pLst (pCons (pC .non) (pCons (pV 3) pNil))) pNil))) pNil)))
theorem ss__law_call_2 : SiS m__law_call_2 p__law_call_2 := by
  unfold m__law_call_2 p__law_call_2
  exact (si_par _ _ (si_cons (si_call sd_of (si_cons (si_var _) (si_cons (si_lst (si_cons (si_str _) (si_cons (si_str _) (si_cons (si_str _) si_nil)))) si_nil))) (si_cons (si_call sd_of (si_cons (si_var _) (si_cons (si_lst (si_cons si_non (si_cons (si_var _) si_nil))) si_nil))) si_nil)))
def p__law_call_3 : PlS :=
    (qSet 8 (pLst (pCons (pTup (pCons (pC (.str "new_source")) (pCons (pV 1) pNil))) (pCons (pTup (pCons (pC (.str "new_set")) (pCons (pV 1) pNil))) (pCons (pTup (pCons (pC (.str "fork")) (pCons (pV 1) pNil))) (pCons (pTup (pCons (pC (.str "end")) (pCons (pV 1) pNil))) (pCons (pTup (pCons (pC (.str "numbers")) (pCons (pV 1) pNil))) (pCons (pTup (pCons (pC (.str "close")) (pCons (pV 1) (pCons (pV 2) pNil)))) pNil))))))))
theorem ss__law_call_3 : SiS m__law_call_3 p__law_call_3 := by
  unfold m__law_call_3 p__law_call_3
  exact (si_set _ (si_lst (si_cons (si_tup (si_cons (si_str _) (si_cons (si_var _) si_nil))) (si_cons (si_tup (si_cons (si_str _) (si_cons (si_var _) si_nil))) (si_cons (si_tup (si_cons (si_str _) (si_cons (si_var _) si_nil))) (si_cons (si_tup (si_cons (si_str _) (si_cons (si_var _) si_nil))) (si_cons (si_tup (si_cons (si_str _) (si_cons (si_var _) si_nil))) (si_cons (si_tup (si_cons (si_str _) (si_cons (si_var _) (si_cons (si_var _) si_nil)))) si_nil))))))))
def p__law_call_4 : PlS :=
    (qSet 8 (pOp addD (pV 8) (pLst (pCons (pTup (pCons (pC (.str "finish")) (pCons (pV 1) (pCons (pV 2) pNil)))) (pCons (pTup (pCons (pC (.str "units")) (pCons (pV 1) (pCons (pV 2) pNil)))) (pCons (pTup (pCons (pC (.str "copy")) (pCons (pV 1) (pCons (pV 2) (pCons (pV 7) pNil))))) (pCons (pTup (pCons (pC (.str "read")) (pCons (pV 1) (pCons (pV 2) (pCons (pV 7) pNil))))) pNil)))))))
theorem ss__law_call_4 : SiS m__law_call_4 p__law_call_4 := by
  unfold m__law_call_4 p__law_call_4
  exact (si_set _ (si_op p_add ((si_var _)).w ((si_lst (si_cons (si_tup (si_cons (si_str _) (si_cons (si_var _) (si_cons (si_var _) si_nil)))) (si_cons (si_tup (si_cons (si_str _) (si_cons (si_var _) (si_cons (si_var _) si_nil)))) (si_cons (si_tup (si_cons (si_str _) (si_cons (si_var _) (si_cons (si_var _) (si_cons (si_var _) si_nil))))) (si_cons (si_tup (si_cons (si_str _) (si_cons (si_var _) (si_cons (si_var _) (si_cons (si_var _) si_nil))))) si_nil)))))).w))
def p__law_call_5 : PlS :=
    (qSet 8 (pOp addD (pV 8) (pLst (pCons (pTup (pCons (pC (.str "arrive")) (pCons (pV 1) (pCons (pV 2) (pCons (pV 3) pNil))))) (pCons (pTup (pCons (pC (.str "remove")) (pCons (pV 1) (pCons (pV 2) (pCons (pV 3) pNil))))) (pCons (pTup (pCons (pC (.str "wait")) (pCons (pV 1) (pCons (pV 2) (pCons (pV 3) pNil))))) (pCons (pTup (pCons (pC (.str "same")) (pCons (pV 1) (pCons (pV 2) (pCons (pV 3) (pCons (pV 4) pNil)))))) pNil)))))))
theorem ss__law_call_5 : SiS m__law_call_5 p__law_call_5 := by
  unfold m__law_call_5 p__law_call_5
  exact (si_set _ (si_op p_add ((si_var _)).w ((si_lst (si_cons (si_tup (si_cons (si_str _) (si_cons (si_var _) (si_cons (si_var _) (si_cons (si_var _) si_nil))))) (si_cons (si_tup (si_cons (si_str _) (si_cons (si_var _) (si_cons (si_var _) (si_cons (si_var _) si_nil))))) (si_cons (si_tup (si_cons (si_str _) (si_cons (si_var _) (si_cons (si_var _) (si_cons (si_var _) si_nil))))) (si_cons (si_tup (si_cons (si_str _) (si_cons (si_var _) (si_cons (si_var _) (si_cons (si_var _) (si_cons (si_var _) si_nil)))))) si_nil)))))).w))
def p__law_call_6 : PlS :=
    (qSet 8 (pOp addD (pV 8) (pLst (pCons (pTup (pCons (pC (.str "add")) (pCons (pV 1) (pCons (pV 2) (pCons (pV 3) (pCons (pV 4) (pCons (pV 6) pNil))))))) (pCons (pTup (pCons (pC (.str "change")) (pCons (pV 1) (pCons (pV 2) (pCons (pV 3) (pCons (pV 6) pNil)))))) pNil)))))
theorem ss__law_call_6 : SiS m__law_call_6 p__law_call_6 := by
  unfold m__law_call_6 p__law_call_6
  exact (si_set _ (si_op p_add ((si_var _)).w ((si_lst (si_cons (si_tup (si_cons (si_str _) (si_cons (si_var _) (si_cons (si_var _) (si_cons (si_var _) (si_cons (si_var _) (si_cons (si_var _) si_nil))))))) (si_cons (si_tup (si_cons (si_str _) (si_cons (si_var _) (si_cons (si_var _) (si_cons (si_var _) (si_cons (si_var _) si_nil)))))) si_nil)))).w))
def p__law_call_7 : PlS :=
    (qRet (pOp getD_ (pV 8) (pCall 2 take_ (pCons (pV 0) (pCons (pC (.int 16)) pNil)))))
theorem ss__law_call_7 : SiS m__law_call_7 p__law_call_7 := by
  unfold m__law_call_7 p__law_call_7
  exact (si_ret (si_op p_get ((si_var _)).w ((si_call sd_take (si_cons (si_var _) (si_cons (si_int _) si_nil)))).w))
def p__law_call : PlS :=
    (qSeq p__law_call_1
    (qSeq p__law_call_2
    (qSeq p__law_call_3
    (qSeq p__law_call_4
    (qSeq p__law_call_5
    (qSeq p__law_call_6
    p__law_call_7))))))
theorem ss__law_call : SiS m__law_call p__law_call := by
  unfold m__law_call p__law_call
  exact (si_seq ss__law_call_1 (si_seq ss__law_call_2 (si_seq ss__law_call_3 (si_seq ss__law_call_4 (si_seq ss__law_call_5 (si_seq ss__law_call_6 ss__law_call_7))))))
def p__law_call_ : List Dt → Sg → (Dt → Sg → Prop) → Prop := runD 1 9 p__law_call
theorem sd__law_call : SiD d__law_call p__law_call_ := si_run ss__law_call
def p__law_text_1 : PlS :=
    (qSet 1 (pOp addD (pOp addD (pV 1) (pC (.str " "))) (pIf (pTest (pOp isD (pV 2) (pC .non))) (pC (.str "-")) (pFn strD (pCons (pV 2) pNil)))))
theorem ss__law_text_1 : SiS m__law_text_1 p__law_text_1 := by
  unfold m__law_text_1 p__law_text_1
  exact (si_set _ (si_op p_add ((si_op p_add ((si_var _)).w ((si_str _)).w)).w ((si_if (si_test (si_op p_is ((si_var _)).w (si_non).w)) (si_str _) (si_fn p_str' (si_consW ((si_var _)).w si_nilW)))).w))
def p__law_text : PlS :=
    (qSeq (qSet 1 (pOp getD_ (pV 0) (pC (.int 0))))
    (qSeq (qFor (pIt (pSl (pV 0) (pP (pC (.int 1))) pP0)) (gN 2) p__law_text_1)
    (qRet (pV 1))))
theorem ss__law_text : SiS m__law_text p__law_text := by
  unfold m__law_text p__law_text
  exact (si_seq (si_set _ (si_op p_get ((si_var _)).w ((si_int _)).w)) (si_seq (si_for (si_it (si_sl ((si_var _)).w (si_p (si_int _)) si_p0)) (si_gN _) ss__law_text_1) (si_ret (si_var _))))
def p__law_text_ : List Dt → Sg → (Dt → Sg → Prop) → Prop := runD 1 3 p__law_text
theorem sd__law_text : SiD d__law_text p__law_text_ := si_run ss__law_text
def p_law_1 : PlS :=
    (qSet 3 (pLc (pRng1 (pCons (pCall 2 take_ (pCons (pV 2) (pCons (pC (.int 31)) pNil))) pNil)) [4] (gN 4) pYes (pCall 1 p__law_call_ (pCons (pV 2) pNil))))
theorem ss_law_1 : SiS m_law_1 p_law_1 := by
  unfold m_law_1 p_law_1
  exact (si_set _ (si_lc ((si_rng1 (si_cons (si_call sd_take (si_cons (si_var _) (si_cons (si_int _) si_nil))) si_nil)).w) (si_gN _) si_yes (si_call sd__law_call (si_cons (si_var _) si_nil))))
def p_law_2 : PlS :=
    (qSet 5 (pLc (pItW (pV 3)) [6] (gN 6) pYes (pCall 1 p__law_text_ (pCons (pV 6) pNil))))
theorem ss_law_2 : SiS m_law_2 p_law_2 := by
  unfold m_law_2 p_law_2
  exact (si_set _ (si_lc (si_itW ((si_var _)).w) (si_gN _) si_yes (si_call sd__law_text (si_cons (si_var _) si_nil))))
def p_law_3 : PlS :=
    (qIf (pOr (pTest (pOp neSD (pCall 1 p_show_call_ (pCons (pV 6) pNil)) (pV 7))) (pTest (pOp neSD (pCall 1 p_show_call_ (pCons (pV 6) pNil)) (pV 7)))) (qRet (pC (.bl false))) qNil)
theorem ss_law_3 : SiS m_law_3 p_law_3 := by
  unfold m_law_3 p_law_3
  exact (si_ifS (si_or (si_test (si_op p_neS ((si_call sd_show_call (si_cons (si_var _) si_nil))).w ((si_var _)).w)) (si_test (si_op p_neS ((si_callK1 sd_show_call (si_cons (si_var _) si_nil))).w ((si_var _)).w))) (si_ret (si_bl _)) si_sNil)
def p_law_4 : PlS :=
    (qIf (pTest (pOp neD (pLst (pCons (pFn reprD (pCons (pCall 1 p_read_call_ (pCons (pV 7) pNil)) pNil)) (pCons (pFn reprD (pCons (pCall 1 p_read_call_ (pCons (pV 7) pNil)) pNil)) pNil))) (pLst (pCons (pFn reprD (pCons (pV 6) pNil)) (pCons (pFn reprD (pCons (pV 6) pNil)) pNil))))) (qRet (pC (.bl false))) qNil)
theorem ss_law_4 : SiS m_law_4 p_law_4 := by
  unfold m_law_4 p_law_4
  exact (si_ifS (si_test (si_op p_ne ((si_lst (si_cons (si_fn p_repr' (si_consW ((si_call sd_read_call (si_cons (si_var _) si_nil))).w si_nilW)) (si_cons (si_fn p_repr' (si_consW ((si_callK1 sd_read_call (si_cons (si_var _) si_nil))).w si_nilW)) si_nil)))).w ((si_lst (si_cons (si_fn p_repr' (si_consW ((si_var _)).w si_nilW)) (si_cons (si_fn p_repr' (si_consW ((si_var _)).w si_nilW)) si_nil)))).w)) (si_ret (si_bl _)) si_sNil)
def p_law_5 : PlS :=
    (qSeq p_law_3
    p_law_4)
theorem ss_law_5 : SiS m_law_5 p_law_5 := by
  unfold m_law_5 p_law_5
  exact (si_seq ss_law_3 ss_law_4)
def p_law_6 : PlS :=
    (qIf (pOr (pTest (pOp neSD (pCall 1 p_show_calls_ (pCons (pV 3) pNil)) (pV 8))) (pOr (pTest (pOp neSD (pCall 1 p_show_calls_ (pCons (pFn tupleD (pCons (pV 3) pNil)) pNil)) (pV 8))) (pTest (pOp neSD (pFn reprD (pCons (pO 9) pNil)) (pFn reprD (pCons (pV 3) pNil)))))) (qRet (pC (.bl false))) qNil)
theorem ss_law_6 : SiS m_law_6 p_law_6 := by
  unfold m_law_6 p_law_6
  exact (si_ifS (si_or (si_test (si_op p_neS ((si_call sd_show_calls (si_cons (si_var _) si_nil))).w ((si_var _)).w)) (si_or (si_test (si_op p_neS ((si_call sd_show_calls (si_cons (si_fn p_tuple' (si_consW ((si_var _)).w si_nilW)) si_nil))).w ((si_var _)).w)) (si_test (si_op p_neS ((si_fn p_repr' (si_consW (si_own _) si_nilW))).w ((si_fn p_repr' (si_consW ((si_var _)).w si_nilW))).w)))) (si_ret (si_bl _)) si_sNil)
def p_law_7 : PlS :=
    (qIf (pTest (pOp neD (pCall 1 p_read_calls_ (pCons (pV 8) pNil)) (pV 3))) (qRet (pC (.bl false))) qNil)
theorem ss_law_7 : SiS m_law_7 p_law_7 := by
  unfold m_law_7 p_law_7
  exact (si_ifS (si_test (si_op p_ne ((si_callK1 sd_read_calls (si_cons (si_var _) si_nil))).w ((si_var _)).w)) (si_ret (si_bl _)) si_sNil)
def p_law_8 : PlS :=
    (qSeq (qSet 2 (pCall 2 bag_ (pCons (pV 0) (pCons (pV 1) pNil))))
    (qSeq p_law_1
    (qSeq p_law_2
    (qSeq (qFor (pZip2 (pCons (pV 3) (pCons (pV 5) pNil))) (gT [6, 7]) p_law_5)
    (qSeq (qSet 8 (pOp joinD (pC (.str "\n")) (pV 5)))
    (qSeq (qOwn 9 (pCall 1 p_read_callsF_ (pCons (pV 8) pNil)))
    (qSeq p_law_6
    (qSeq (qApp 9 (pC .non))
    p_law_7))))))))
theorem ss_law_8 : SiS m_law_8 p_law_8 := by
  unfold m_law_8 p_law_8
  exact (si_seq (si_set _ (si_call sd_bag (si_cons (si_var _) (si_cons (si_var _) si_nil)))) (si_seq ss_law_1 (si_seq ss_law_2 (si_seq (si_for (si_zip2 (si_cons (si_var _) (si_cons (si_var _) si_nil))) (si_gT _) ss_law_5) (si_seq (si_set _ (si_op p_join ((si_str _)).w ((si_var _)).w)) (si_seq (si_setO _ (si_callF sdF_read_calls (si_cons (si_var _) si_nil))) (si_seq ss_law_6 (si_seq (si_app _ si_non) ss_law_7))))))))
def p_law_9 : PlS :=
    (qFor (pRng1 (pCons (pFn maxD (pCons (pC (.int 1)) (pCons (pFn minD (pCons (pC (.int 4)) (pCons (pFn lenD (pCons (pV 0) pNil)) pNil))) pNil))) pNil)) (gN 1) p_law_8)
theorem ss_law_9 : SiS m_law_9 p_law_9 := by
  unfold m_law_9 p_law_9
  exact (si_for (si_rng1 (si_cons (si_fn p_max' (si_consW ((si_int _)).w (si_consW ((si_fn p_min' (si_consW ((si_int _)).w (si_consW ((si_fn p_len' (si_consW ((si_var _)).w si_nilW))).w si_nilW)))).w si_nilW))) si_nil)) (si_gN _) ss_law_8)
def p_law_10 : PlS :=
    (qRet (pAndT (pOp eqD (pCall 1 p_show_calls_ (pCons (pLst pNil) pNil)) (pC (.str ""))) (pOp eqD (pCall 1 p_read_calls_ (pCons (pC (.str "")) pNil)) (pLst pNil))))
theorem ss_law_10 : SiS m_law_10 p_law_10 := by
  unfold m_law_10 p_law_10
  exact (si_ret (si_andT (si_op p_eq ((si_call sd_show_calls (si_cons (si_lst si_nil) si_nil))).w ((si_str _)).w) (si_op p_eq ((si_call sd_read_calls (si_cons (si_str _) si_nil))).w ((si_lst si_nil)).w)))
def p_law : PlS :=
    (qSeq p_law_9
    p_law_10)
theorem ss_law : SiS m_law p_law := by
  unfold m_law p_law
  exact (si_seq ss_law_9 ss_law_10)
def p_law_ : List Dt → Sg → (Dt → Sg → Prop) → Prop := runD 1 10 p_law
theorem sd_law : SiD d_law p_law_ := si_run ss_law

/-! ### the text of a number of one to nine digits (k25) -/
def numTx (n : Nat) : Str := Str.ofString (toString ((n : Nat) : Int))
theorem numTx_l (n : Nat) : (numTx n).cps.toList = TL.numL n := TL.tl_num n
theorem num_head : ∀ n : Nat, 0 < n → ∃ k r, TL.numL n = k :: r ∧ k ≠ 48 := fun n => by
  induction n using Nat.strongRecOn with
  | _ n ih =>
    intro h0
    by_cases h : n < 10
    · exact ⟨_, _, TL.numL_lt h, by omega⟩
    · obtain ⟨k, r, e, q⟩ := ih (n / 10) (by omega) (by omega)
      exact ⟨k, r ++ [48 + n % 10], by rw [TL.numL_step (by omega), e]; rfl, q⟩
theorem numTx_len {n : Nat} (h : n < 10 ^ 9) : (numTx n).length ≤ 9 := by
  have := TL.numL_len (k := 9) (by decide) h
  rw [← numTx_l, Array.length_toList] at this
  exact this
theorem numTx_pos (n : Nat) : 1 ≤ (numTx n).length := by
  have : (numTx n).cps.toList ≠ [] := by rw [numTx_l]; exact TL.numL_ne n
  show 1 ≤ (numTx n).cps.size
  rw [← Array.length_toList]
  exact List.length_pos_iff.mpr this
theorem numTx_dig (n : Nat) : ∀ c ∈ (numTx n).cps.toList, c ∈ (("0123456789" : Str)).cps.toList := by
  rw [numTx_l]
  intro c hc
  have r := TL.numL_digits n c hc
  have e : (("0123456789" : Str)).cps.toList = [48, 49, 50, 51, 52, 53, 54, 55, 56, 57] := by decide +kernel
  rw [e]
  simp only [List.mem_cons, List.not_mem_nil, or_false]
  omega
theorem numTx_int {n : Nat} (h : n < 10 ^ 9) : PySem.intText? (numTx n) = some (n : Int) := TL.int_num (by
  have := TL.numL_len (k := 9) (by decide) h
  omega)
theorem numTx_zero : numTx 0 = "0" := by decide +kernel
theorem numTx_free (n : Nat) {s : Nat} (h : s < 48 ∨ 57 < s) : s ∉ (numTx n).cps.toList := by
  rw [numTx_l]
  exact TL.numL_free h
theorem numTx_dash (n : Nat) : numTx n ≠ "-" := fun e => by
  have h := numTx_free n (s := 45) (.inl (by decide))
  rw [e] at h
  exact h (by decide +kernel)
theorem numTx_first {n : Nat} (h : 0 < n) : ∃ k, (numTx n).cps[0]? = some k ∧ k ≠ 48 := by
  obtain ⟨k, r, e, q⟩ := num_head n h
  refine ⟨k, ?_, q⟩
  rw [← Array.getElem?_toList, numTx_l, e]
  rfl
theorem numTx_ok (n : Nat) : PyData.strOk (numTx n) = true := by
  show (numTx n).cps.all (· < 0x110000) = true
  rw [← Array.all_toList, List.all_eq_true]
  intro c hc
  rw [numTx_l] at hc
  have r := TL.numL_digits n c hc
  exact decide_eq_true (by omega)

/-! ### plain data: what simple parts come to (P302 without systems) -/
section
variable {α : Type} {a b c d e f : α} {l : List α} {σ : Sg}
theorem atI0 : atI (a :: l) 0 = some a := by unfold atI; rw [ixN_in (n := (a :: l).length) (by omega) (by simp)]; rfl
theorem atI1 : atI (a :: b :: l) 1 = some b := by unfold atI; rw [ixN_in (n := (a :: b :: l).length) (by omega) (by simp; omega)]; rfl
theorem atI2 : atI (a :: b :: c :: l) 2 = some c := by unfold atI; rw [ixN_in (n := (a :: b :: c :: l).length) (by omega) (by simp; omega)]; rfl
theorem atI3 : atI (a :: b :: c :: d :: l) 3 = some d := by unfold atI; rw [ixN_in (n := (a :: b :: c :: d :: l).length) (by omega) (by simp; omega)]; rfl
theorem atI4 : atI (a :: b :: c :: d :: e :: l) 4 = some e := by unfold atI; rw [ixN_in (n := (a :: b :: c :: d :: e :: l).length) (by omega) (by simp; omega)]; rfl
theorem atI5 : atI (a :: b :: c :: d :: e :: f :: l) 5 = some f := by unfold atI; rw [ixN_in (n := (a :: b :: c :: d :: e :: f :: l).length) (by omega) (by simp; omega)]; rfl
theorem atI_mem {i : Int} (h0 : 0 ≤ i) (h1 : i < l.length) : ∃ x ∈ l, atI l i = some x := by
  have hlt : i.toNat < l.length := by omega
  refine ⟨l[i.toNat], List.getElem_mem hlt, ?_⟩
  have z := atI_nat (List.getElem?_eq_getElem hlt)
  rw [show ((i.toNat : Nat) : Int) = i by omega] at z
  exact z
theorem eqD_int {i j : Int} : eqD (.int i) (.int j) σ = some (.bl (decide (i = j))) := by
  show some (Dt.bl (i == j)) = _
  rfl
theorem neD_int {i j : Int} : neD (.int i) (.int j) σ = some (.bl (!decide (i = j))) := by
  show some (Dt.bl (!(i == j))) = _
  rfl
theorem datP_str {x : Str} (h : PyData.strOk x = true) : datP σ (.str x) = some (.str x) := by
  show (if PyData.strOk x = true then some (PyData.str x) else none) = _
  rw [if_pos h]
theorem eqD_str {x y : Str} (h : PyData.strOk x = true) (h' : PyData.strOk y = true) : eqD (.str x) (.str y) σ = some (.bl (decide (x = y))) := by
  unfold eqD
  rw [datP_str h, datP_str h']
  rfl
theorem neD_str {x y : Str} (h : PyData.strOk x = true) (h' : PyData.strOk y = true) : neD (.str x) (.str y) σ = some (.bl (!decide (x = y))) := by
  have := eqD_str (σ := σ) h h'
  unfold eqD at this
  unfold neD
  rw [datP_str h, datP_str h'] at this ⊢
  simp only at this ⊢
  have e : PyData.eqv (.str x) (.str y) = decide (x = y) := Dt.bl.inj (Option.some.inj this)
  rw [e]
theorem addD_int {i j : Int} : addD (.int i) (.int j) σ = some (.int (i + j)) := rfl
theorem addD_lst {l m : List Dt} (h : l.length + m.length ≤ 1000000) : addD (.lst l) (.lst m) σ = some (.lst (l ++ m)) := by
  show (if l.length + m.length ≤ 1000000 then some (Dt.lst (l ++ m)) else none) = _
  rw [if_pos h]
theorem mulLD_lst {l : List Dt} {k : Int} (h : 0 ≤ k ∧ k ≤ 1000 ∧ l.length ≤ 1000) : mulLD (.lst l) (.int k) σ = some (.lst (List.replicate k.toNat l).flatten) := by
  show (if 0 ≤ k ∧ k ≤ 1000 ∧ l.length ≤ 1000 then some (Dt.lst (List.replicate k.toNat l).flatten) else none) = _
  rw [if_pos h]
/-! #### data that can be compared -/
end
section
variable {σ : Sg} {b k : Nat} {v : Sv} {Q : Dt → Sg → Prop}
theorem of_lst {l : List Dt} (hb : σ[b]? = some .bag) (h0 : 0 < l.length) (h1 : l.length ≤ 1000000) (hq : ∀ d ∈ l, Q d σ) : of_ [.ref b, .lst l] σ Q := ⟨hb, h0, by omega, hq⟩
theorem take_p {n : Int} (hb : σ[b]? = some .bag) (h0 : 0 < n ∧ n < 1073741824) (hq : ∀ i, 0 ≤ i → i < n → Q (.int i) σ) : take_ [.ref b, .int n] σ Q := ⟨hb, h0.1, h0.2, hq⟩
end
theorem seq_op {a b : PlS} {r : Ev_} {σ : Sg} {k : Kn} (h : ∀ n : Ev_ → Sg → Prop, (∀ r' σ', b r' σ' k → n r' σ') → a r σ ⟨n, k.bk, k.ct, k.rt⟩) : qSeq a b r σ k := h _ fun _ _ z => z
theorem get_mem {l : List Dt} {i : Int} {K : Dt → Prop} (h0 : 0 ≤ i) (h1 : i < (l.length : Nat)) (h : ∀ d ∈ l, K d) : oK (atI l i) K := by
  obtain ⟨x, a, b⟩ := atI_mem h0 h1
  rw [b]
  exact h x a

/-! ### arguments and their texts (k25) -/
/-- the text of an argument -/
def argTx : Dt → Str
  | .int i => Str.ofString (toString i)
  | .str w => w
  | _ => "-"
def wordsA : List Str := [("level" : Str), "edge", "once"]
/-- an argument of a kind -/
def ArgOf (k : Str) (d : Dt) : Prop := (k = "word" ∧ ∃ w ∈ wordsA, d = .str w) ∨ ((k = "integer" ∨ k = "optional") ∧ ∃ n : Nat, n < 10 ^ 9 ∧ d = .int n) ∨ (k = "optional" ∧ d = .non)
section
variable {σ : Sg} {Q : Dt → Sg → Prop}
theorem showarg_p {d : Dt} {k : Str} (h : ArgOf k d) (hQ : Q (.str (argTx d)) σ) : p_show_argument_ [d] σ Q := by
  unfold p_show_argument_
  simp_arith!
  unfold p_show_argument
  rcases h with ⟨rfl, w, hw, rfl⟩ | ⟨_, n, hn, rfl⟩ | ⟨rfl, rfl⟩
  · refine seq_op fun N hN => ?_
    simp_arith!
    refine hN _ _ ?_
    simp_arith! [strD, isiTD]
    exact hQ
  · refine seq_op fun N hN => ?_
    simp_arith!
    refine hN _ _ ?_
    have e : strD [.int (n : Int)] σ = some (.str (Str.ofString (toString (n : Int)))) := by
      show (if (n : Int).natAbs ≤ 1000000000000000000000 then some (Dt.str (toString (n : Int))) else none) = _
      rw [if_pos (by omega)]
    simp_arith! [e, isiTD]
    exact hQ
  · refine seq_op fun N hN => ?_
    simp_arith!
    exact hQ
end

/-! ### is_number_text of a number's text (k25) -/
section
variable {σ : Sg} {Q : Dt → Sg → Prop}
theorem sgnsD_all {n : Nat} : inSgD (.str (sgn n)) (.str "0123456789") σ = some (.bl (decide (n ∈ (("0123456789" : Str)).cps.toList))) := rfl
theorem blsD_true {α : Type} : ∀ l : List α, blsD (l.map fun _ => Dt.bl true) = some (l.map fun _ => true)
  | [] => rfl
  | a :: l => by
    show (match blsD (l.map fun _ => Dt.bl true) with | some bs => some (true :: bs) | none => none) = _
    rw [blsD_true l]
    rfl
theorem allD_true {α : Type} (l : List α) : allD_ [Dt.lst (l.map fun _ => Dt.bl true)] σ = some (.bl true) := by
  show ((some (l.map fun _ => Dt.bl true)).bind blsD).map (fun l => Dt.bl (l.all id)) = _
  rw [Option.bind_some, blsD_true, Option.map_some]
  congr 2
  rw [List.all_map]
  exact List.all_eq_true.mpr fun _ _ => rfl
theorem sgn_ok {k : Nat} (h : k < 0x110000) : PyData.strOk (sgn k) = true := by
  show (#[k] : Array Nat).all (· < 0x110000) = true
  simp [h]
theorem isnum_p {n : Nat} (h : n < 10 ^ 9) (hQ : Q (.bl true) σ) : p_is_number_text_ [.str (numTx n)] σ Q := by
  unfold p_is_number_text_
  simp_arith!
  unfold p_is_number_text
  refine seq_op fun N hN => ?_
  unfold p_is_number_text_1
  simp_arith!
  have l1 := numTx_pos n
  have l9 := numTx_len h
  have e0 : (numTx n).length ≤ 1000000 := by omega
  have e1 : decide ((1 : Int) ≤ ((numTx n).length : Int)) = true := decide_eq_true (by omega)
  have e2 : decide (((numTx n).length : Int) ≤ 9) = true := decide_eq_true (by omega)
  rw [if_pos e0]
  simp_arith! [e1, e2]
  refine lcP_all (h := fun c => Dt.str (sgn c)) (f := fun _ => Dt.bl true) (rv := fun c => [some (.im (.str (numTx n))), some (.im (.str (sgn c)))]) _ (numTx n).cps.toList [] (fun d _ => rfl) (fun d _ Q h => h) (fun c hc Q hQ => ?_) (by show 0 + _ ≤ _; rw [Nat.zero_add, Array.length_toList]; exact e0) ?_
  · simp_arith! [sgnsD_all, decide_eq_true (numTx_dig n c hc)]
    exact hQ
  · simp_arith! [allD_true]
    refine hN _ _ ?_
    unfold p_is_number_text_2
    by_cases hz : n = 0
    · subst hz
      have e : eqD (.str (numTx 0)) (.str "0") σ = some (.bl true) := by
        rw [eqD_str (numTx_ok 0) (by decide +kernel), numTx_zero]
        rfl
      simp_arith! [e]
      exact hQ
    · obtain ⟨k, k1, k2⟩ := numTx_first (n := n) (by omega)
      have hne : numTx n ≠ "0" := fun z => by
        rw [z] at k1
        have : (("0" : Str)).cps[0]? = some 48 := by decide +kernel
        rw [this] at k1
        exact k2 (Option.some.inj k1).symm
      have e : eqD (.str (numTx n)) (.str "0") σ = some (.bl false) := by
        rw [eqD_str (numTx_ok n) (by decide +kernel), decide_eq_false hne]
      have kd : k < 0x110000 := by
        have hm : k ∈ (numTx n).cps.toList := by
          rw [← Array.getElem?_toList] at k1
          exact List.mem_of_getElem? k1
        rw [numTx_l] at hm
        have := TL.numL_digits n k hm
        omega
      have e3 : ixSD (.str (numTx n)) (.int 0) σ = some (.str (sgn k)) := by
        unfold ixSD
        simp only [Int.toNat_zero, k1]
        rw [if_pos ⟨by omega, by omega, e0⟩]
      have hs : sgn k ≠ "0" := fun z => by
        have : (sgn k).cps[0]? = some 48 := by rw [z]; decide +kernel
        exact k2 (Option.some.inj this)
      have e4 : neD (.str (sgn k)) (.str "0") σ = some (.bl true) := by
        rw [neD_str (sgn_ok kd) (by decide +kernel), decide_eq_false hs]
        rfl
      simp_arith! [e, e3, e4]
      exact hQ
end

/-! ### is_argument, argument_in of an argument's text (k25) -/
section
variable {σ : Sg} {Q : Dt → Sg → Prop}
theorem isdash_p (hQ : Q (.bl false) σ) : p_is_number_text_ [.str "-"] σ Q := by
  unfold p_is_number_text_
  simp_arith!
  unfold p_is_number_text
  refine seq_op fun N hN => ?_
  unfold p_is_number_text_1
  simp_arith!
  have e0 : (("-" : Str)).length = 1 := by decide +kernel
  have ec : (("-" : Str)).cps.toList = [45] := by decide +kernel
  rw [e0, if_pos (by decide)]
  simp_arith! [show decide ((1 : Int) ≤ ((1 : Nat) : Int)) = true from rfl, show decide (((1 : Nat) : Int) ≤ 9) = true from rfl]
  have e3 : inSgD (.str (sgn 45)) (.str "0123456789") σ = some (.bl false) := by
    rw [sgnsD_all]
    rw [decide_eq_false (by decide +kernel)]
  simp_arith! [pItS, ec]
  show lcP _ _ _ _ ([45].map fun c => Dt.str (sgn c)) [] σ _
  refine lcP_all (h := fun c => Dt.str (sgn c)) (f := fun _ => Dt.bl false) (rv := fun c => [some (.im (.str "-")), some (.im (.str (sgn c)))]) _ [45] [] (fun d _ => rfl) (fun d _ Q h => h) (fun c hc Q hQ => ?_) (by decide) ?_
  · rw [List.mem_singleton.mp hc]
    simp_arith! [e3]
    exact hQ
  · simp_arith! [show allD_ [Dt.lst [Dt.bl false]] σ = some (.bl false) from rfl]
    exact hQ
theorem isarg_p {d : Dt} {k : Str} (h : ArgOf k d) (hQ : Q (.bl true) σ) : p_is_argument_ [.str (argTx d), .str k] σ Q := by
  unfold p_is_argument_
  simp_arith!
  unfold p_is_argument
  have okw : PyData.strOk ("word" : Str) = true := by decide +kernel
  have oko : PyData.strOk ("optional" : Str) = true := by decide +kernel
  have oki : PyData.strOk ("integer" : Str) = true := by decide +kernel
  have okd : PyData.strOk ("-" : Str) = true := by decide +kernel
  rcases h with ⟨rfl, w, hw, rfl⟩ | ⟨hk, n, hn, rfl⟩ | ⟨rfl, rfl⟩
  · refine seq_op fun N hN => ?_
    unfold p_is_argument_1
    have e : eqD (.str "word") (.str "word") σ = some (.bl true) := by rw [eqD_str okw okw]; rfl
    have e2 : inTD (.str w) (.tup [.str "level", .str "edge", .str "once"]) σ = some (.bl true) := by
      show some (Dt.bl (decide (w ∈ wordsA))) = _
      rw [decide_eq_true hw]
    simp_arith! [e, argTx, e2]
    exact hQ
  · refine seq_op fun N hN => ?_
    unfold p_is_argument_1
    have e : eqD (.str k) (.str "word") σ = some (.bl false) := by
      rcases hk with rfl | rfl
      · rw [eqD_str oki okw]; exact congrArg (fun b => some (Dt.bl b)) (by decide +kernel)
      · rw [eqD_str oko okw]; exact congrArg (fun b => some (Dt.bl b)) (by decide +kernel)
    simp_arith! [e]
    refine hN _ _ ?_
    unfold p_is_argument_2
    simp_arith!
    refine isnum_p hn ?_
    first
      | exact hQ
      | (simp_arith!; exact hQ)
  · refine seq_op fun N hN => ?_
    unfold p_is_argument_1
    have e : eqD (.str "optional") (.str "word") σ = some (.bl false) := by
      rw [eqD_str oko okw]; exact congrArg (fun b => some (Dt.bl b)) (by decide +kernel)
    simp_arith! [e]
    refine hN _ _ ?_
    unfold p_is_argument_2
    simp_arith! [argTx]
    refine isdash_p ?_
    have e1 : eqD (.str "optional") (.str "optional") σ = some (.bl true) := by rw [eqD_str oko oko]; rfl
    have e2 : eqD (.str "-") (.str "-") σ = some (.bl true) := by rw [eqD_str okd okd]; rfl
    simp_arith! [e1, e2]
    exact hQ
end

/-! ### argument_in (k25) -/
section
variable {σ : Sg} {Q : Dt → Sg → Prop}
theorem argin_p {d : Dt} {k : Str} (h : ArgOf k d) (hQ : Q d σ) : p_argument_in_ [.str (argTx d), .str k] σ Q := by
  unfold p_argument_in_
  simp_arith!
  unfold p_argument_in
  have okw : PyData.strOk ("word" : Str) = true := by decide +kernel
  have oko : PyData.strOk ("optional" : Str) = true := by decide +kernel
  have oki : PyData.strOk ("integer" : Str) = true := by decide +kernel
  have okd : PyData.strOk ("-" : Str) = true := by decide +kernel
  rcases h with ⟨rfl, w, hw, rfl⟩ | ⟨hk, n, hn, rfl⟩ | ⟨rfl, rfl⟩
  · refine seq_op fun N hN => ?_
    have e : eqD (.str "word") (.str "word") σ = some (.bl true) := by rw [eqD_str okw okw]; rfl
    simp_arith! [e, argTx]
    exact hQ
  · refine seq_op fun N hN => ?_
    have e : eqD (.str k) (.str "word") σ = some (.bl false) := by
      rcases hk with rfl | rfl
      · rw [eqD_str oki okw]; exact congrArg (fun b => some (Dt.bl b)) (by decide +kernel)
      · rw [eqD_str oko okw]; exact congrArg (fun b => some (Dt.bl b)) (by decide +kernel)
    simp_arith! [e]
    refine hN _ _ ?_
    have e1 : eqD (.str (argTx (.int (n : Int)))) (.str "-") σ = some (.bl false) := by
      show eqD (.str (numTx n)) (.str "-") σ = _
      rw [eqD_str (numTx_ok n) okd, decide_eq_false (numTx_dash n)]
    have e2 : intSD [.str (argTx (.int (n : Int)))] σ = some (.int n) := by
      show intSD [.str (numTx n)] σ = _
      unfold intSD
      simp only [numTx_int hn]
      rw [if_pos (by have := numTx_len hn; omega)]
    unfold p_argument_in_1
    simp_arith! [e1, e2]
    exact hQ
  · refine seq_op fun N hN => ?_
    have e : eqD (.str "optional") (.str "word") σ = some (.bl false) := by
      rw [eqD_str oko okw]; exact congrArg (fun b => some (Dt.bl b)) (by decide +kernel)
    simp_arith! [e]
    refine hN _ _ ?_
    have e2 : eqD (.str "-") (.str "-") σ = some (.bl true) := by rw [eqD_str okd okd]; rfl
    unfold p_argument_in_1
    simp_arith! [argTx, e2]
    exact hQ
end

/-! ### the text of a call, split again (k25) -/
def callTx (z : Str) (as : List Dt) : Str := Txt.join " " (z :: as.map argTx)
def ArgsOf : List Str → List Dt → Prop
  | [], [] => True
  | k :: ks, d :: ds => ArgOf k d ∧ ArgsOf ks ds
  | _, _ => False
def CallOf (z : Str) (as : List Dt) : Prop := ∃ ks, kndOf z = some ks ∧ ArgsOf ks as
theorem argTx_free {k : Str} {d : Dt} (h : ArgOf k d) {s : Nat} (hs : s = 32 ∨ s = 10) : s ∉ (argTx d).cps.toList := by
  rcases h with ⟨rfl, w, hw, rfl⟩ | ⟨_, n, hn, rfl⟩ | ⟨rfl, rfl⟩
  · have hw' : w = "level" ∨ w = "edge" ∨ w = "once" := by
      unfold wordsA at hw
      simpa using hw
    rcases hs with rfl | rfl <;> rcases hw' with rfl | rfl | rfl <;> decide +kernel
  · show s ∉ (numTx n).cps.toList
    exact numTx_free n (by omega)
  · rcases hs with rfl | rfl <;> decide +kernel
theorem knd_free {z : Str} {ks : List Str} (h : kndOf z = some ks) {s : Nat} (hs : s = 32 ∨ s = 10) : s ∉ z.cps.toList := by
  obtain ⟨p, h1, rfl⟩ := Option.map_eq_some_iff.mp h
  have hz : p.1 = z := by simpa using List.find?_some h1
  have hm := List.mem_of_find?_eq_some h1
  subst hz
  have all : ∀ p ∈ KND, 32 ∉ p.1.cps.toList ∧ 10 ∉ p.1.cps.toList := by decide +kernel
  rcases hs with rfl | rfl
  · exact (all p hm).1
  · exact (all p hm).2
theorem args_free : ∀ {ks : List Str} {as : List Dt}, ArgsOf ks as → ∀ {s : Nat}, s = 32 ∨ s = 10 → ∀ p ∈ as.map argTx, s ∉ p.cps.toList
  | [], [], _, _, _, p, hp => nomatch hp
  | [], _ :: _, h, _, _, _, _ => h.elim
  | _ :: _, [], h, _, _, _, _ => h.elim
  | k :: ks, d :: ds, h, s, hs, p, hp => by
    rcases List.mem_cons.mp hp with rfl | hp
    · exact argTx_free h.1 hs
    · exact args_free h.2 hs p hp
theorem call_split {z : Str} {as : List Dt} (h : CallOf z as) : Txt.split (callTx z as) " " = z :: as.map argTx := by
  obtain ⟨ks, hk, ha⟩ := h
  refine TL.split_join (s := 32) (S := []) (by decide +kernel) (by decide +kernel) (by simp) fun p hp => ?_
  rcases List.mem_cons.mp hp with rfl | hp
  · exact knd_free hk (.inl rfl)
  · exact args_free ha (.inl rfl) p hp

/-! ### call_in of a call's text (k25) -/
section
variable {σ : Sg} {Q : Dt → Sg → Prop}
theorem ArgsOf.len : ∀ {ks : List Str} {as : List Dt}, ArgsOf ks as → as.length = ks.length
  | [], [], _ => rfl
  | [], _ :: _, h => h.elim
  | _ :: _, [], h => h.elim
  | _ :: ks, _ :: as, h => by simp [ArgsOf.len (ks := ks) (as := as) h.2]
theorem knd_len {z : Str} {ks : List Str} (h : kndOf z = some ks) : 0 < ks.length ∧ ks.length ≤ 5 := by
  obtain ⟨p, h1, rfl⟩ := Option.map_eq_some_iff.mp h
  have hm := List.mem_of_find?_eq_some h1
  have all : ∀ p ∈ KND, 0 < p.2.length ∧ p.2.length ≤ 5 := by decide +kernel
  exact all p hm
theorem zip2_args : ∀ (as : List Dt) (ks : List Str), zip2D ((as.map argTx).map Dt.str) (ks.map Dt.str) = (as.zip ks).map fun p => Dt.tup [.str (argTx p.1), .str p.2]
  | [], _ => rfl
  | _ :: _, [] => rfl
  | a :: as, k :: ks => by
    show Dt.tup [.str (argTx a), .str k] :: zip2D ((as.map argTx).map Dt.str) (ks.map Dt.str) = _
    rw [zip2_args as ks]
    rfl
theorem zip_args : ∀ {ks : List Str} {as : List Dt}, ArgsOf ks as → ∀ p ∈ as.zip ks, ArgOf p.2 p.1
  | [], [], _, _, hp => nomatch hp
  | [], _ :: _, h, _, _ => h.elim
  | _ :: _, [], h, _, _ => h.elim
  | _ :: ks, _ :: as, h, p, hp => by
    rcases List.mem_cons.mp hp with rfl | hp
    · exact h.1
    · exact zip_args (ks := ks) (as := as) h.2 p hp
theorem callin_p {z : Str} {as : List Dt} (h : CallOf z as) (hl : (callTx z as).length ≤ 1000000) (hQ : Q (.tup (.str z :: as)) σ) : p_call_in_ [.str (callTx z as)] σ Q := by
  have hs := call_split h
  obtain ⟨ks, hk, ha⟩ := h
  have la := ha.len
  obtain ⟨l0, l5⟩ := knd_len hk
  unfold p_call_in_
  simp_arith!
  unfold p_call_in
  refine seq_op fun N hN => ?_
  have e1 : splD " " (.str (callTx z as)) σ = some (.lst (.str z :: (as.map argTx).map Dt.str)) := by
    show (if (callTx z as).length ≤ 1000000 ∧ (((" " : Str)).length == 0) = false then some (Dt.lst ((Txt.split (callTx z as) " ").map Dt.str)) else none) = _
    rw [if_pos ⟨hl, by decide +kernel⟩, hs]
    rfl
  simp_arith! [pSt, e1]
  refine ⟨by simp only [List.length_map]; omega, hN _ _ ?_⟩
  refine seq_op fun N hN => ?_
  simp_arith! [pArgs, hk]
  refine hN _ _ ?_
  refine seq_op fun N hN => ?_
  unfold p_call_in_1
  simp_arith!
  rw [if_neg (by simp only [List.length_map, decide_eq_true_eq]; omega), if_neg (by simp only [List.length_map, la]; simp)]
  refine hN _ _ ?_
  refine seq_op fun N hN => ?_
  have e3 : lstZipD [.lst ((as.map argTx).map Dt.str), .tup (ks.map Dt.str)] σ = some (.lst ((as.zip ks).map fun p => Dt.tup [.str (argTx p.1), .str p.2])) := by
    show (if ((as.map argTx).map Dt.str).length = (ks.map Dt.str).length then some (Dt.lst (zip2D ((as.map argTx).map Dt.str) (ks.map Dt.str))) else none) = _
    rw [if_pos (by simp only [List.length_map, la]), zip2_args]
  simp_arith! [e3]
  refine hN _ _ ?_
  have lz : (as.zip ks).length ≤ 1000 := by rw [List.length_zip]; omega
  refine seq_op fun N hN => ?_
  unfold p_call_in_2
  simp_arith!
  refine lcP_all (h := fun p : Dt × Str => Dt.tup [.str (argTx p.1), .str p.2]) (f := fun _ => Dt.bl true) (rv := fun p => [some (.im (.str (callTx z as))), some (.im (.str z)), some (.im (.lst ((as.map argTx).map Dt.str))), some (.im (.tup (ks.map Dt.str))), some (.im (.lst ((as.zip ks).map fun p => Dt.tup [.str (argTx p.1), .str p.2]))), some (.im (.str (argTx p.1))), some (.im (.str p.2))]) _ (as.zip ks) [] (fun d _ => rfl) (fun d _ Q h => h) (fun p hp Q hQ => ?_) (by show 0 + _ ≤ _; omega) ?_
  · simp_arith!
    exact isarg_p (zip_args ha p hp) hQ
  · simp_arith! [allD_true]
    refine hN _ _ ?_
    unfold p_call_in_3
    simp_arith! [pStar]
    refine lcP_all (h := fun p : Dt × Str => Dt.tup [.str (argTx p.1), .str p.2]) (f := fun p : Dt × Str => p.1) (rv := fun p => [some (.im (.str (callTx z as))), some (.im (.str z)), some (.im (.lst ((as.map argTx).map Dt.str))), some (.im (.tup (ks.map Dt.str))), some (.im (.lst ((as.zip ks).map fun p => Dt.tup [.str (argTx p.1), .str p.2]))), some (.im (.str (argTx p.1))), some (.im (.str p.2))]) _ (as.zip ks) [] (fun d _ => rfl) (fun d _ Q h => h) (fun p hp Q hQ => ?_) (by show 0 + _ ≤ _; omega) ?_
    · simp_arith!
      exact argin_p (zip_args ha p hp) hQ
    · have ez : (as.zip ks).map (fun p : Dt × Str => p.1) = as := by
        rw [show (fun p : Dt × Str => p.1) = Prod.fst from rfl, List.map_fst_zip (by omega)]
      show ([] ++ (as.zip ks).map fun p : Dt × Str => p.1).length ≤ 999 ∧ Q (.tup (.str z :: ([] ++ (as.zip ks).map fun p : Dt × Str => p.1))) σ
      rw [ez, List.nil_append]
      exact ⟨by omega, hQ⟩
end

/-! ### show_call, read_call of a call (k25) -/
section
variable {σ : Sg} {Q : Dt → Sg → Prop}
theorem readcall_p {z : Str} {as : List Dt} (h : CallOf z as) (hl : (callTx z as).length ≤ 1000000) (hQ : Q (.tup (.str z :: as)) σ) : p_read_call_ [.str (callTx z as)] σ Q := by
  unfold p_read_call_
  simp_arith!
  unfold p_read_call
  refine seq_op fun N hN => ?_
  simp_arith! [isiTD]
  refine hN _ _ ?_
  refine seq_op fun N hN => ?_
  simp_arith!
  refine callin_p h hl ?_
  refine hN _ _ ?_
  refine seq_op fun N hN => ?_
  simp_arith!
  refine hN _ _ ?_
  simp_arith!
  exact hQ
end

/-! ### the length of a call's text; show_call (k25) -/
theorem joinL_len (y : List Nat) : ∀ ps : List (List Nat), (TL.joinL y ps).length ≤ (ps.map (·.length)).sum + ps.length * y.length
  | [] => by simp [TL.joinL]
  | [a] => by simp [TL.joinL]
  | a :: b :: r => by
    have ih := joinL_len y (b :: r)
    simp only [TL.joinL, List.length_append, List.map_cons, List.sum_cons, List.length_cons] at ih ⊢
    have e : (r.length + 1 + 1) * y.length = (r.length + 1) * y.length + y.length := Nat.succ_mul _ _
    rw [e]
    omega
theorem join_len (y : Str) (ps : List Str) : (Txt.join y ps).length ≤ (ps.map (·.length)).sum + ps.length * y.length := by
  have h := joinL_len (TL.tl y) (ps.map TL.tl)
  rw [← TL.tl_join, ← TL.join_eq] at h
  have e : ((ps.map TL.tl).map (·.length)).sum = (ps.map (·.length)).sum := by
    rw [List.map_map]
    rfl
  rw [e, List.length_map] at h
  have e2 : (TL.tl (Txt.join y ps)).length = (Txt.join y ps).length := Array.length_toList
  have e3 : (TL.tl y).length = y.length := Array.length_toList
  rw [e2, e3] at h
  exact h
theorem argTx_len {k : Str} {d : Dt} (h : ArgOf k d) : (argTx d).length ≤ 9 := by
  rcases h with ⟨rfl, w, hw, rfl⟩ | ⟨_, n, hn, rfl⟩ | ⟨rfl, rfl⟩
  · have hw' : w = "level" ∨ w = "edge" ∨ w = "once" := by
      unfold wordsA at hw
      simpa using hw
    rcases hw' with rfl | rfl | rfl <;> decide +kernel
  · exact numTx_len hn
  · decide +kernel
theorem args_sum : ∀ {ks : List Str} {as : List Dt}, ArgsOf ks as → ((as.map argTx).map (·.length)).sum ≤ 9 * as.length
  | [], [], _ => by simp
  | [], _ :: _, h => h.elim
  | _ :: _, [], h => h.elim
  | _ :: ks, d :: as, h => by
    have ih := args_sum (ks := ks) (as := as) h.2
    have := argTx_len h.1
    simp only [List.map_cons, List.sum_cons, List.length_cons]
    omega
theorem knd_word_len {z : Str} {ks : List Str} (h : kndOf z = some ks) : z.length ≤ 10 := by
  obtain ⟨p, h1, rfl⟩ := Option.map_eq_some_iff.mp h
  have hz : p.1 = z := by simpa using List.find?_some h1
  have hm := List.mem_of_find?_eq_some h1
  subst hz
  have all : ∀ p ∈ KND, p.1.length ≤ 10 := by decide +kernel
  exact all p hm
theorem call_sum {z : Str} {as : List Dt} (h : CallOf z as) : ((z :: as.map argTx).map (·.length)).sum + (z :: as.map argTx).length * ((" " : Str)).length ≤ 61 := by
  obtain ⟨ks, hk, ha⟩ := h
  have l1 := ha.len
  have l2 := knd_len hk
  have l3 := knd_word_len hk
  have l4 := args_sum ha
  have e : ((" " : Str)).length = 1 := by decide +kernel
  rw [e]
  simp only [List.map_cons, List.sum_cons, List.length_cons, List.length_map]
  omega
theorem callTx_len {z : Str} {as : List Dt} (h : CallOf z as) : (callTx z as).length ≤ 61 := Nat.le_trans (join_len _ _) (call_sum h)

/-! ### show_call (k25) -/
section
variable {σ : Sg} {Q : Dt → Sg → Prop}
theorem joinD_strs {a : Str} {l : List Str} (h : joinFitM a l) : joinD (.str a) (.lst (l.map Dt.str)) σ = some (.str (Txt.join a l)) := by
  show ((some (l.map Dt.str)).bind strsD).bind _ = _
  rw [Option.bind_some, strsD_map]
  show (if joinFitM a l then _ else _) = _
  rw [if_pos h]
theorem args_show : ∀ {ks : List Str} {as : List Dt}, ArgsOf ks as → ∀ d ∈ as, ∃ k, ArgOf k d
  | [], [], _, _, hd => nomatch hd
  | [], _ :: _, h, _, _ => h.elim
  | _ :: _, [], h, _, _ => h.elim
  | k :: ks, _ :: as, h, d, hd => by
    rcases List.mem_cons.mp hd with rfl | hd
    · exact ⟨k, h.1⟩
    · exact args_show (ks := ks) (as := as) h.2 d hd
theorem showword_p {w : Str} (hQ : Q (.str w) σ) : p_show_argument_ [.str w] σ Q := by
  unfold p_show_argument_
  simp_arith!
  unfold p_show_argument
  refine seq_op fun N hN => ?_
  simp_arith!
  refine hN _ _ ?_
  simp_arith! [strD, isiTD]
  exact hQ
theorem showcall_p {z : Str} {as : List Dt} (h : CallOf z as) (hQ : Q (.str (callTx z as)) σ) : p_show_call_ [.tup (.str z :: as)] σ Q := by
  have hs := call_sum h
  obtain ⟨ks, hk, ha⟩ := h
  have la := ha.len
  have l5 := knd_len hk
  unfold p_show_call_
  simp_arith!
  unfold p_show_call
  simp_arith!
  have e : Dt.str z :: as = (Dt.str z :: as).map id := by rw [List.map_id]
  rw [e]
  refine lcP_all (h := id) (f := fun d => Dt.str (argTx d)) (rv := fun d => [some (.im (.tup ((Dt.str z :: as).map id))), some (.im d)]) _ (Dt.str z :: as) [] (fun d _ => rfl) (fun d _ Q h => h) (fun d hd Q hQ => ?_) (by show 0 + (as.length + 1) ≤ _; omega) ?_
  · simp_arith!
    rcases List.mem_cons.mp hd with rfl | hd
    · exact showword_p hQ
    · obtain ⟨k, hk2⟩ := args_show ha d hd
      exact showarg_p hk2 hQ
  · have e2 : [] ++ (Dt.str z :: as).map (fun d => Dt.str (argTx d)) = (z :: as.map argTx).map Dt.str := by
      rw [List.nil_append, List.map_cons, List.map_cons, List.map_map]
      rfl
    rw [e2]
    have ej : joinD (.str " ") (.lst (Dt.str z :: (as.map argTx).map Dt.str)) σ = some (.str (callTx z as)) := joinD_strs (a := " ") (l := z :: as.map argTx) (by unfold joinFitM; omega)
    simp_arith! [ej]
    exact hQ
end

/-! ### rows of calls: show_calls (k25) -/
def cDt (c : Str × List Dt) : Dt := .tup (.str c.1 :: c.2)
def cTx (c : Str × List Dt) : Str := callTx c.1 c.2
def rowTx (cs : List (Str × List Dt)) : Str := Txt.join "\n" (cs.map cTx)
theorem row_sum : ∀ {cs : List (Str × List Dt)}, (∀ c ∈ cs, CallOf c.1 c.2) → ((cs.map cTx).map (·.length)).sum ≤ 61 * cs.length
  | [], _ => by simp
  | c :: cs, h => by
    have ih := row_sum (cs := cs) fun x hx => h x (List.mem_cons_of_mem _ hx)
    have := callTx_len (h c List.mem_cons_self)
    simp only [List.map_cons, List.sum_cons, List.length_cons]
    have e : (cTx c).length = (callTx c.1 c.2).length := rfl
    omega
theorem row_fit {cs : List (Str × List Dt)} (h : ∀ c ∈ cs, CallOf c.1 c.2) (hl : cs.length ≤ 30) : joinFitM "\n" (cs.map cTx) := by
  have := row_sum h
  have e : (("\n" : Str)).length = 1 := by decide +kernel
  unfold joinFitM
  rw [e, List.length_map]
  omega
section
variable {σ : Sg} {Q : Dt → Sg → Prop}
theorem showcalls_p {cs : List (Str × List Dt)} {d : Dt} (hd : d = .lst (cs.map cDt) ∨ d = .tup (cs.map cDt)) (h : ∀ c ∈ cs, CallOf c.1 c.2) (hl : cs.length ≤ 30) (hQ : Q (.str (rowTx cs)) σ) : p_show_calls_ [d] σ Q := by
  unfold p_show_calls_
  simp_arith!
  unfold p_show_calls
  have ej : joinD (.str "\n") (.lst (cs.map fun c => Dt.str (cTx c))) σ = some (.str (rowTx cs)) := by
    have := joinD_strs (σ := σ) (a := "\n") (l := cs.map cTx) (row_fit h hl)
    rw [List.map_map] at this
    exact this
  rcases hd with rfl | rfl
  · simp_arith!
    refine lcP_all (h := cDt) (f := fun c => Dt.str (cTx c)) (rv := fun c => [some (.im (.lst (cs.map cDt))), some (.im (cDt c))]) _ cs [] (fun d _ => rfl) (fun d _ Q h => h) (fun c hc Q hQ => ?_) (by show 0 + cs.length ≤ _; omega) ?_
    · simp_arith!
      exact showcall_p (h c hc) hQ
    · rw [List.nil_append]
      simp_arith! [ej]
      exact hQ
  · simp_arith!
    refine lcP_all (h := cDt) (f := fun c => Dt.str (cTx c)) (rv := fun c => [some (.im (.tup (cs.map cDt))), some (.im (cDt c))]) _ cs [] (fun d _ => rfl) (fun d _ Q h => h) (fun c hc Q hQ => ?_) (by show 0 + cs.length ≤ _; omega) ?_
    · simp_arith!
      exact showcall_p (h c hc) hQ
    · rw [List.nil_append]
      simp_arith! [ej]
      exact hQ
end
theorem row_split {cs : List (Str × List Dt)} (hne : cs ≠ []) (h : ∀ c ∈ cs, CallOf c.1 c.2) : Txt.split (rowTx cs) "\n" = cs.map cTx := by
  refine TL.split_join (s := 10) (S := []) (by decide +kernel) (by decide +kernel) (by simpa using hne) fun p hp => ?_
  obtain ⟨c, hc, rfl⟩ := List.mem_map.mp hp
  obtain ⟨ks, hk, ha⟩ := h c hc
  show 10 ∉ TL.tl (Txt.join " " (c.1 :: c.2.map argTx))
  rw [TL.join_eq, TL.tl_join]
  have fr : ∀ ps : List (List Nat), (∀ p ∈ ps, 10 ∉ p) → 10 ∉ TL.joinL (TL.tl " ") ps := by
    have es : TL.tl (" " : Str) = [32] := by decide +kernel
    rw [es]
    intro ps
    induction ps with
    | nil => intro _; simp [TL.joinL]
    | cons a r ih =>
      intro hq
      cases r with
      | nil => exact hq a List.mem_cons_self
      | cons b r =>
        have := ih fun p hp => hq p (List.mem_cons_of_mem _ hp)
        have ha := hq a List.mem_cons_self
        simp only [TL.joinL, List.mem_append, List.mem_singleton, not_or]
        exact ⟨ha, by decide, this⟩
  refine fr _ fun p hp => ?_
  obtain ⟨q, hq, rfl⟩ := List.mem_map.mp hp
  rcases List.mem_cons.mp hq with rfl | hq
  · exact knd_free hk (.inr rfl)
  · exact args_free ha (.inr rfl) q hq

/-! ### the law's own text of a call is the joined one (k25) -/
theorem str_ext {a b : Str} (h : a.cps.toList = b.cps.toList) : a = b := by
  cases a
  cases b
  congr 1
  exact Array.toList_inj.mp h
theorem str_app (a b : Str) : (a ++ b).cps.toList = a.cps.toList ++ b.cps.toList := by
  show (a.cps ++ b.cps).toList = _
  rw [Array.toList_append]
theorem joinL_flat : ∀ (z : List Nat) (ys : List (List Nat)), TL.joinL [32] (z :: ys) = z ++ ys.flatMap fun y => 32 :: y
  | z, [] => by simp [TL.joinL]
  | z, y :: ys => by
    show z ++ ([32] ++ TL.joinL [32] (y :: ys)) = _
    rw [joinL_flat y ys]
    simp
theorem join_flat (z : Str) (ys : List Str) : (Txt.join " " (z :: ys)).cps.toList = z.cps.toList ++ (ys.map fun y => y.cps.toList).flatMap fun y => 32 :: y := by
  have h := TL.tl_join " " (z :: ys)
  have es : TL.tl (" " : Str) = [32] := by decide +kernel
  rw [es] at h
  rw [TL.join_eq]
  show TL.tl (Str.join " " (z :: ys)) = _
  rw [h, List.map_cons, joinL_flat]
def foldTx (z : Str) (as : List Dt) : Str := as.foldl (fun s d => s ++ " " ++ argTx d) z
theorem fold_flat : ∀ (as : List Dt) (z : Str), (foldTx z as).cps.toList = z.cps.toList ++ ((as.map argTx).map fun y => y.cps.toList).flatMap fun y => 32 :: y
  | [], z => by simp [foldTx]
  | d :: as, z => by
    show (foldTx (z ++ " " ++ argTx d) as).cps.toList = _
    rw [fold_flat as, str_app, str_app]
    have es : (" " : Str).cps.toList = [32] := by decide +kernel
    rw [es]
    simp
theorem foldTx_eq (z : Str) (as : List Dt) : foldTx z as = callTx z as := str_ext (by unfold callTx; rw [fold_flat, join_flat])

/-! ### _law_text (k25) -/
section
variable {σ : Sg} {Q : Dt → Sg → Prop}
theorem sl_tail {x : Dt} {l : List Dt} : slD (.tup (x :: l)) (some 1) none σ = some (.tup l) := by
  have e1 : HT.sIx (x :: l).length 0 (some 1) = 1 := by
    rw [show (1 : Int) = ((1 : Nat) : Int) from rfl, HT.sIx_nat]
    simp
  have e2 : HT.sIx (x :: l).length (x :: l).length none = (x :: l).length := rfl
  show (if HT.sIx (x :: l).length 0 (some 1) = 0 ∧ HT.sIx (x :: l).length (x :: l).length none = (x :: l).length then none else some (Dt.tup (cutG (x :: l) (some 1) none))) = _
  rw [e1, if_neg (by omega)]
  unfold cutG
  rw [e1, e2]
  simp
theorem argstr {k : Str} {d : Dt} (h : ArgOf k d) : (d = .non ∧ argTx d = "-") ∨ (d ≠ .non ∧ strD [d] σ = some (.str (argTx d)) ∧ isD d .non σ = some (.bl false)) := by
  rcases h with ⟨rfl, w, hw, rfl⟩ | ⟨_, n, hn, rfl⟩ | ⟨rfl, rfl⟩
  · exact .inr ⟨by simp, rfl, rfl⟩
  · refine .inr ⟨by simp, ?_, rfl⟩
    show (if (n : Int).natAbs ≤ 1000000000000000000000 then some (Dt.str (toString (n : Int))) else none) = _
    rw [if_pos (by omega)]
    rfl
  · exact .inl ⟨rfl, rfl⟩
theorem fold_step (z : Str) (as : List Dt) (i : Nat) {d : Dt} (h : as[i]? = some d) : foldTx z (as.take (i + 1)) = foldTx z (as.take i) ++ " " ++ argTx d := by
  unfold foldTx
  rw [List.take_add_one, h, List.foldl_append]
  rfl
end

/-! ### _law_text gives a call's text (k25) -/
section
variable {σ : Sg} {Q : Dt → Sg → Prop}
theorem app_len (a b : Str) : (a ++ b).length = a.length + b.length := by
  show (a.cps ++ b.cps).size = _
  rw [Array.size_append]
  rfl
theorem fold_len : ∀ (as : List Dt) (z : Str), (∀ d ∈ as, (argTx d).length ≤ 9) → (foldTx z as).length ≤ z.length + 10 * as.length
  | [], z, _ => by show z.length ≤ _; omega
  | d :: as, z, h => by
    have ih := fold_len as (z ++ " " ++ argTx d) fun x hx => h x (List.mem_cons_of_mem _ hx)
    have := h d List.mem_cons_self
    have es : ((" " : Str)).length = 1 := by decide +kernel
    rw [app_len, app_len, es] at ih
    show (foldTx (z ++ " " ++ argTx d) as).length ≤ _
    rw [List.length_cons]
    omega
theorem lawtext_p {z : Str} {as : List Dt} (h : CallOf z as) (hQ : Q (.str (callTx z as)) σ) : p__law_text_ [.tup (.str z :: as)] σ Q := by
  obtain ⟨ks, hk, ha⟩ := h
  have la := ha.len
  have l5 := knd_len hk
  have lz := knd_word_len hk
  unfold p__law_text_
  simp_arith!
  unfold p__law_text
  refine seq_op fun N hN => ?_
  simp_arith! [atI0]
  refine hN _ _ ?_
  refine seq_op fun N hN => ?_
  simp_arith! [sl_tail]
  have e : as = as.map id := by rw [List.map_id]
  rw [show forP (gN 2) p__law_text_1 { nx := N, bk := fun _ _ => False, ct := fun _ _ => False, rt := Q } as = forP (gN 2) p__law_text_1 { nx := N, bk := fun _ _ => False, ct := fun _ _ => False, rt := Q } (as.map id) by rw [← e]]
  refine forP_list (f := id) (fun i r σ' => σ' = σ ∧ ∃ v2, r = [some (.im (.tup (.str z :: as))), some (.im (.str (foldTx z (as.take i)))), v2]) ⟨rfl, none, rfl⟩ (fun i d r σ' k' hd hi hb hr hn hc => ?_) (fun r σ' hi => ?_)
  · obtain ⟨rfl, v2, rfl⟩ := hi
    refine ⟨_, rfl, ?_⟩
    obtain ⟨k, hkd⟩ := args_show ha d (List.mem_of_getElem? hd)
    have lf : (foldTx z (as.take i)).length ≤ 60 := by
      have := fold_len (as.take i) z fun x hx => by
        obtain ⟨k, hx2⟩ := args_show ha x (List.mem_of_mem_take hx)
        exact argTx_len hx2
      have l2 : (as.take i).length ≤ as.length := by rw [List.length_take]; omega
      omega
    have la9 := argTx_len hkd
    have es : ((" " : Str)).length = 1 := by decide +kernel
    have a1 : addD (.str (foldTx z (as.take i))) (.str " ") σ' = some (.str (foldTx z (as.take i) ++ " ")) := by
      show (if (foldTx z (as.take i)).length + ((" " : Str)).length ≤ 1000000 then some (Dt.str (foldTx z (as.take i) ++ " ")) else none) = _
      rw [if_pos (by omega)]
    have a2 : addD (.str (foldTx z (as.take i) ++ " ")) (.str (argTx d)) σ' = some (.str (foldTx z (as.take (i + 1)))) := by
      show (if (foldTx z (as.take i) ++ " ").length + (argTx d).length ≤ 1000000 then some (Dt.str (foldTx z (as.take i) ++ " " ++ argTx d)) else none) = _
      rw [if_pos (by rw [app_len]; omega), ← fold_step z as i hd]
    unfold p__law_text_1
    rcases argstr (σ := σ') hkd with ⟨rfl, e2⟩ | ⟨hne, e2, e3⟩
    · rw [e2] at a2
      simp_arith! [a1, a2]
      exact hn _ _ ⟨rfl, _, rfl⟩
    · have hk2 := hkd
      rcases hk2 with ⟨rfl, w, hw, rfl⟩ | ⟨_, n, hn', rfl⟩ | ⟨rfl, rfl⟩
      · simp_arith! [id_eq, a1, a2, e2]
        exact hn _ _ ⟨rfl, _, rfl⟩
      · simp_arith! [id_eq, a1, a2, e2]
        exact hn _ _ ⟨rfl, _, rfl⟩
      · exact (hne rfl).elim
  · obtain ⟨rfl, v2, rfl⟩ := hi
    rw [List.take_length, foldTx_eq]
    refine hN _ _ ?_
    simp_arith!
    exact hQ
end

/-! ### the signs of a call's text (k25) -/
theorem ok_all {x : Str} (h : ∀ c ∈ x.cps.toList, c < 0x110000) : PyData.strOk x = true := by
  show x.cps.all (· < 0x110000) = true
  rw [← Array.all_toList, List.all_eq_true]
  exact fun c hc => decide_eq_true (h c hc)
theorem all_ok {x : Str} (h : PyData.strOk x = true) : ∀ c ∈ x.cps.toList, c < 0x110000 := by
  have h : x.cps.all (· < 0x110000) = true := h
  rw [← Array.all_toList, List.all_eq_true] at h
  exact fun c hc => of_decide_eq_true (h c hc)
theorem argTx_ok {k : Str} {d : Dt} (h : ArgOf k d) : PyData.strOk (argTx d) = true := by
  rcases h with ⟨rfl, w, hw, rfl⟩ | ⟨_, n, hn, rfl⟩ | ⟨rfl, rfl⟩
  · have hw' : w = "level" ∨ w = "edge" ∨ w = "once" := by
      unfold wordsA at hw
      simpa using hw
    rcases hw' with rfl | rfl | rfl <;> decide +kernel
  · exact numTx_ok n
  · decide +kernel
theorem knd_ok {z : Str} {ks : List Str} (h : kndOf z = some ks) : PyData.strOk z = true := by
  obtain ⟨p, h1, rfl⟩ := Option.map_eq_some_iff.mp h
  have hz : p.1 = z := by simpa using List.find?_some h1
  have hm := List.mem_of_find?_eq_some h1
  subst hz
  have all : ∀ p ∈ KND, PyData.strOk p.1 = true := by decide +kernel
  exact all p hm
theorem joinL_all {P : Nat → Prop} {y : List Nat} (hy : ∀ c ∈ y, P c) : ∀ ps : List (List Nat), (∀ p ∈ ps, ∀ c ∈ p, P c) → ∀ c ∈ TL.joinL y ps, P c
  | [], _, c, hc => nomatch hc
  | [a], h, c, hc => h a List.mem_cons_self c hc
  | a :: b :: r, h, c, hc => by
    rcases List.mem_append.mp (show c ∈ a ++ (y ++ TL.joinL y (b :: r)) from hc) with hc | hc
    · exact h a List.mem_cons_self c hc
    · rcases List.mem_append.mp hc with hc | hc
      · exact hy c hc
      · exact joinL_all hy (b :: r) (fun p hp => h p (List.mem_cons_of_mem _ hp)) c hc
theorem join_ok {y : Str} {ps : List Str} (hy : PyData.strOk y = true) (h : ∀ p ∈ ps, PyData.strOk p = true) : PyData.strOk (Txt.join y ps) = true := by
  refine ok_all ?_
  have e : (Txt.join y ps).cps.toList = TL.joinL (TL.tl y) (ps.map TL.tl) := by rw [TL.join_eq]; exact TL.tl_join y ps
  rw [e]
  refine joinL_all (all_ok hy) _ fun p hp => ?_
  obtain ⟨q, hq, rfl⟩ := List.mem_map.mp hp
  exact all_ok (h q hq)
theorem callTx_ok {z : Str} {as : List Dt} (h : CallOf z as) : PyData.strOk (callTx z as) = true := by
  obtain ⟨ks, hk, ha⟩ := h
  refine join_ok (by decide +kernel) fun p hp => ?_
  rcases List.mem_cons.mp hp with rfl | hp
  · exact knd_ok hk
  · obtain ⟨d, hd, rfl⟩ := List.mem_map.mp hp
    obtain ⟨k, hk2⟩ := args_show ha d hd
    exact argTx_ok hk2
theorem rowTx_ok {cs : List (Str × List Dt)} (h : ∀ c ∈ cs, CallOf c.1 c.2) : PyData.strOk (rowTx cs) = true := by
  refine join_ok (by decide +kernel) fun p hp => ?_
  obtain ⟨c, hc, rfl⟩ := List.mem_map.mp hp
  exact callTx_ok (h c hc)

/-! ### a row that is not empty has a text that is not empty (k25) -/
theorem joinL_pos {y : List Nat} : ∀ {ps : List (List Nat)}, (∃ a r, ps = a :: r ∧ a ≠ []) → TL.joinL y ps ≠ []
  | _, ⟨a, [], rfl, h⟩ => h
  | _, ⟨a, b :: r, rfl, h⟩ => fun e => h (List.append_eq_nil_iff.mp (show a ++ (y ++ TL.joinL y (b :: r)) = [] from e)).1
theorem knd_pos {z : Str} {ks : List Str} (h : kndOf z = some ks) : z.cps.toList ≠ [] := by
  obtain ⟨p, h1, rfl⟩ := Option.map_eq_some_iff.mp h
  have hz : p.1 = z := by simpa using List.find?_some h1
  have hm := List.mem_of_find?_eq_some h1
  subst hz
  have all : ∀ p ∈ KND, p.1.cps.toList ≠ [] := by decide +kernel
  exact all p hm
theorem callTx_ne {z : Str} {as : List Dt} (h : CallOf z as) : (callTx z as).cps.toList ≠ [] := by
  obtain ⟨ks, hk, ha⟩ := h
  have e : (callTx z as).cps.toList = TL.joinL (TL.tl " ") ((z :: as.map argTx).map TL.tl) := by unfold callTx; rw [TL.join_eq]; exact TL.tl_join " " _
  rw [e]
  exact joinL_pos ⟨_, _, rfl, knd_pos hk⟩
theorem rowTx_ne {cs : List (Str × List Dt)} (hne : cs ≠ []) (h : ∀ c ∈ cs, CallOf c.1 c.2) : rowTx cs ≠ "" := fun z => by
  have e : (rowTx cs).cps.toList = TL.joinL (TL.tl "\n") ((cs.map cTx).map TL.tl) := by unfold rowTx; rw [TL.join_eq]; exact TL.tl_join "\n" _
  rw [z] at e
  cases cs with
  | nil => exact hne rfl
  | cons c cs =>
    exact joinL_pos (y := TL.tl "\n") ⟨_, _, rfl, callTx_ne (h c List.mem_cons_self)⟩ e.symm
theorem rowTx_nil : rowTx [] = "" := by decide +kernel

/-! ### read_calls of a row's text (k25) -/
theorem enmD_get {ds : List Dt} {i : Nat} {d : Dt} (h : (enmD ds)[i]? = some d) : ∃ x, ds[i]? = some x ∧ d = .tup [.int (i : Nat), x] := by
  unfold enmD at h
  rw [List.getElem?_map] at h
  obtain ⟨p, hp, rfl⟩ := Option.map_eq_some_iff.mp h
  rw [List.getElem?_zipIdx] at hp
  obtain ⟨x, hx, rfl⟩ := Option.map_eq_some_iff.mp hp
  exact ⟨x, hx, by simp⟩
section
variable {σ : Sg} {Q : Dt → Sg → Prop}
theorem readcalls_p {cs : List (Str × List Dt)} (h : ∀ c ∈ cs, CallOf c.1 c.2) (hl : cs.length ≤ 30) (hQ : Q (.lst (cs.map cDt)) σ) : p_read_calls_ [.str (rowTx cs)] σ Q := by
  have okr := rowTx_ok h
  unfold p_read_calls_
  simp_arith!
  unfold p_read_calls
  refine seq_op fun N hN => ?_
  simp_arith! [isiTD]
  refine hN _ _ ?_
  refine seq_op fun N hN => ?_
  simp_arith!
  refine hN _ _ ?_
  refine seq_op fun N hN => ?_
  unfold p_read_calls_2
  have oke : PyData.strOk ("" : Str) = true := by decide +kernel
  have key : ∀ l : List Str, l = cs.map cTx → forP (gT [2, 3]) p_read_calls_1 ⟨N, fun _ _ => False, fun _ _ => False, Q⟩ (enmD (l.map Dt.str)) [some (.im (.str (rowTx cs))), some (.ow (.lst [])), none, none, none] σ := by
    intro l hl2
    subst hl2
    have el : (enmD ((cs.map cTx).map Dt.str)).length = cs.length := by simp [enmD]
    refine forP_inv (ds0 := enmD ((cs.map cTx).map Dt.str)) (fun i r σ' => σ' = σ ∧ ∃ v2 v3 v4, r = [some (.im (.str (rowTx cs))), some (.ow (.lst ((cs.take i).map cDt))), v2, v3, v4]) (fun i d r σ' k' hd hi hb hr hn hc => ?_) (fun r σ' hi => ?_) _ 0 _ σ rfl (Nat.zero_le _) ⟨rfl, none, none, none, rfl⟩
    · obtain ⟨rfl, v2, v3, v4, rfl⟩ := hi
      obtain ⟨x, hx, rfl⟩ := enmD_get hd
      rw [List.getElem?_map, List.getElem?_map] at hx
      obtain ⟨y, hy, rfl⟩ := Option.map_eq_some_iff.mp hx
      obtain ⟨c, hc2, rfl⟩ := Option.map_eq_some_iff.mp hy
      have hcm := h c (List.mem_of_getElem? hc2)
      refine ⟨_, rfl, ?_⟩
      unfold p_read_calls_1
      refine seq_op fun N hN => ?_
      simp_arith!
      refine callin_p hcm (Nat.le_trans (callTx_len hcm) (by decide)) ?_
      refine hN _ _ ?_
      refine seq_op fun N hN => ?_
      simp_arith!
      refine hN _ _ ?_
      simp_arith!
      refine ⟨by rw [List.length_map, List.length_take]; omega, hn _ _ ⟨rfl, some (.im (.int (i : Nat))), some (.im (.str (cTx c))), some (.im (.tup (.str c.1 :: c.2))), ?_⟩⟩
      have et : (cs.take i).map cDt ++ [Dt.tup (.str c.1 :: c.2)] = (cs.take (i + 1)).map cDt := by
        rw [List.take_add_one, hc2, List.map_append]
        rfl
      rw [et]
    · obtain ⟨rfl, v2, v3, v4, rfl⟩ := hi
      rw [el, List.take_length]
      refine hN _ _ ?_
      simp_arith!
      exact hQ
  by_cases hz : cs = []
  · subst hz
    have e : neD (.str (rowTx [])) (.str "") σ = some (.bl false) := by
      rw [rowTx_nil, neD_str oke oke]
      rfl
    simp_arith! [e]
    exact key [] rfl
  · have e : neD (.str (rowTx cs)) (.str "") σ = some (.bl true) := by
      rw [neD_str okr oke, decide_eq_false (rowTx_ne hz h)]
      rfl
    have e2 : splD "\n" (.str (rowTx cs)) σ = some (.lst ((cs.map cTx).map Dt.str)) := by
      show (if (rowTx cs).length ≤ 1000000 ∧ ((("\n" : Str)).length == 0) = false then some (Dt.lst ((Txt.split (rowTx cs) "\n").map Dt.str)) else none) = _
      rw [if_pos ⟨Nat.le_trans (join_len _ _) (by have := row_fit h hl; unfold joinFitM at this; have r := row_sum h; have e : (("\n" : Str)).length = 1 := (by decide +kernel); rw [e, List.length_map]; omega), by decide +kernel⟩, row_split hz h]
    simp_arith! [e, e2]
    exact key (cs.map cTx) rfl
end

/-! ### read_calls, its list fresh (k25) -/
section
variable {σ : Sg} {Q : Dt → Sg → Prop}
theorem readcallsF_p {cs : List (Str × List Dt)} (h : ∀ c ∈ cs, CallOf c.1 c.2) (hl : cs.length ≤ 30) (hQ : Q (.lst (cs.map cDt)) σ) : p_read_callsF_ [.str (rowTx cs)] σ Q := by
  have okr := rowTx_ok h
  refine ⟨rfl, ?_⟩
  refine seq_op fun N hN => ?_
  simp_arith! [isiTD]
  refine hN _ _ ?_
  refine seq_op fun N hN => ?_
  simp_arith!
  refine hN _ _ ?_
  unfold p_read_calls_2
  have oke : PyData.strOk ("" : Str) = true := by decide +kernel
  have key : ∀ l : List Str, l = cs.map cTx → forP (gT [2, 3]) p_read_calls_1 ⟨fun (r : Ev_) σ => match r[1]? with | some (some (Lc.ow d)) => Q d σ | _ => False, fun _ _ => False, fun _ _ => False, fun _ _ => False⟩ (enmD (l.map Dt.str)) [some (.im (.str (rowTx cs))), some (.ow (.lst [])), none, none, none] σ := by
    intro l hl2
    subst hl2
    have el : (enmD ((cs.map cTx).map Dt.str)).length = cs.length := by simp [enmD]
    refine forP_inv (ds0 := enmD ((cs.map cTx).map Dt.str)) (fun i r σ' => σ' = σ ∧ ∃ v2 v3 v4, r = [some (.im (.str (rowTx cs))), some (.ow (.lst ((cs.take i).map cDt))), v2, v3, v4]) (fun i d r σ' k' hd hi hb hr hn hc => ?_) (fun r σ' hi => ?_) _ 0 _ σ rfl (Nat.zero_le _) ⟨rfl, none, none, none, rfl⟩
    · obtain ⟨rfl, v2, v3, v4, rfl⟩ := hi
      obtain ⟨x, hx, rfl⟩ := enmD_get hd
      rw [List.getElem?_map, List.getElem?_map] at hx
      obtain ⟨y, hy, rfl⟩ := Option.map_eq_some_iff.mp hx
      obtain ⟨c, hc2, rfl⟩ := Option.map_eq_some_iff.mp hy
      have hcm := h c (List.mem_of_getElem? hc2)
      refine ⟨_, rfl, ?_⟩
      unfold p_read_calls_1
      refine seq_op fun N hN => ?_
      simp_arith!
      refine callin_p hcm (Nat.le_trans (callTx_len hcm) (by decide)) ?_
      refine hN _ _ ?_
      refine seq_op fun N hN => ?_
      simp_arith!
      refine hN _ _ ?_
      simp_arith!
      refine ⟨by rw [List.length_map, List.length_take]; omega, hn _ _ ⟨rfl, some (.im (.int (i : Nat))), some (.im (.str (cTx c))), some (.im (.tup (.str c.1 :: c.2))), ?_⟩⟩
      have et : (cs.take i).map cDt ++ [Dt.tup (.str c.1 :: c.2)] = (cs.take (i + 1)).map cDt := by
        rw [List.take_add_one, hc2, List.map_append]
        rfl
      rw [et]
    · obtain ⟨rfl, v2, v3, v4, rfl⟩ := hi
      rw [el, List.take_length]
      exact hQ
  by_cases hz : cs = []
  · subst hz
    have e : neD (.str (rowTx [])) (.str "") σ = some (.bl false) := by
      rw [rowTx_nil, neD_str oke oke]
      rfl
    simp_arith! [e]
    exact key [] rfl
  · have e : neD (.str (rowTx cs)) (.str "") σ = some (.bl true) := by
      rw [neD_str okr oke, decide_eq_false (rowTx_ne hz h)]
      rfl
    have e2 : splD "\n" (.str (rowTx cs)) σ = some (.lst ((cs.map cTx).map Dt.str)) := by
      show (if (rowTx cs).length ≤ 1000000 ∧ ((("\n" : Str)).length == 0) = false then some (Dt.lst ((Txt.split (rowTx cs) "\n").map Dt.str)) else none) = _
      rw [if_pos ⟨Nat.le_trans (join_len _ _) (by have := row_fit h hl; unfold joinFitM at this; have r := row_sum h; have e : (("\n" : Str)).length = 1 := (by decide +kernel); rw [e, List.length_map]; omega), by decide +kernel⟩, row_split hz h]
    simp_arith! [e, e2]
    exact key (cs.map cTx) rfl
end

/-! ### _law_number draws a number below 10^9 (k25) -/
section
variable {σ : Sg} {Q : Dt → Sg → Prop} {b : Nat}
theorem number_p (hs : σ[b]? = some .bag) (hQ : ∀ n : Nat, n < 10 ^ 9 → Q (.int n) σ) : p__law_number_ [.ref b] σ Q := by
  unfold p__law_number_
  simp_arith!
  unfold p__law_number
  refine seq_op fun N hN => ?_
  simp_arith!
  refine ⟨hs, by omega, by omega, fun k k0 k1 => ?_⟩
  refine hN _ _ ?_
  refine seq_op fun N hN => ?_
  unfold p__law_number_1
  simp_arith! [eqD_int]
  by_cases h3 : k = 3
  · rw [if_pos (decide_eq_true h3)]
    refine ⟨hs, by decide, by decide, fun d hd => ?_⟩
    simp only [List.mem_cons, List.not_mem_nil, or_false] at hd
    rcases hd with rfl | rfl | rfl | rfl | rfl | rfl | rfl | rfl
    · exact hQ 0 (by decide)
    · exact hQ 9 (by decide)
    · exact hQ 10 (by decide)
    · exact hQ 99 (by decide)
    · exact hQ 100 (by decide)
    · exact hQ 999999999 (by decide)
    · exact hQ 100000000 (by decide)
    · exact hQ 1000000 (by decide)
  · rw [if_neg (by simpa using h3)]
    refine hN _ _ ?_
    unfold p__law_number_2
    have fin : ∀ m : Int, 0 < m → m ≤ 1000000000 → take_ [.ref b, .int m] σ Q := fun m m0 m1 => ⟨hs, m0, by omega, fun x x0 x1 => by
      have := hQ x.toNat (by omega)
      rw [show ((x.toNat : Nat) : Int) = x by omega] at this
      exact this⟩
    have hk : k = 0 ∨ k = 1 ∨ k = 2 := by omega
    rcases hk with rfl | rfl | rfl
    · simp_arith! [atI0]
      exact fin 8 (by decide) (by decide)
    · simp_arith! [atI1]
      exact fin 100 (by decide) (by decide)
    · simp_arith! [atI2]
      exact fin 1000000000 (by decide) (by decide)
end

/-! ### _law_call draws a call (k25) -/
theorem lcP_draw {α : Type} {h : α → Dt} {P : α → Prop} {g : Tgd} {c : PlT} {elt : PlE} {r : Ev_} {σ : Sg} {Q : List Dt → Sg → Prop} : ∀ (ds acc : List Dt), (∀ d ∈ ds, ∃ r1, g d r = some r1 ∧ (∀ Q : Bool → Sg → Prop, Q true σ → c r1 σ Q) ∧ ∀ Q : Dt → Sg → Prop, (∀ x, P x → Q (h x) σ) → elt r1 σ Q) → acc.length + ds.length ≤ 1000000 → (∀ l : List α, (∀ x ∈ l, P x) → l.length = ds.length → Q (acc ++ l.map h) σ) → lcP g c elt r ds acc σ Q
  | [], acc, _, _, hq => by
    have := hq [] (fun _ z => nomatch z) rfl
    rw [List.map_nil, List.append_nil] at this
    exact this
  | d :: ds, acc, hs, hl, hq => by
    rw [List.length_cons] at hl
    obtain ⟨r1, a, b, e⟩ := hs d List.mem_cons_self
    unfold lcP
    rw [a]
    refine b _ ?_
    rw [if_pos rfl]
    refine e _ fun x px => ⟨by omega, lcP_draw ds _ (fun y hy => hs y (List.mem_cons_of_mem d hy)) (by rw [List.length_append]; show acc.length + 1 + ds.length ≤ 1000000; omega) fun l hp hn => ?_⟩
    have := hq (x :: l) (fun y hy => (List.mem_cons.mp hy).elim (fun z => z ▸ px) (hp y)) (by rw [List.length_cons, List.length_cons, hn])
    rw [List.map_cons] at this
    rw [List.append_assoc]
    exact this
def callsOf (p n m q w y : Dt) : List (Str × List Dt) := [(("new_source" : Str), [p]), ("new_set", [p]), ("fork", [p]), ("end", [p]), ("numbers", [p]), ("close", [p, n])] ++ [(("finish" : Str), [p, n]), ("units", [p, n]), ("copy", [p, n, y]), ("read", [p, n, y])] ++ [(("arrive" : Str), [p, n, m]), ("remove", [p, n, m]), ("wait", [p, n, m]), ("same", [p, n, m, q])] ++ [(("add" : Str), [p, n, m, q, w]), ("change", [p, n, m, w])]
theorem callsOf_ok {p n m q : Nat} {w : Str} {y : Dt} (hp : p < 10 ^ 9) (hn : n < 10 ^ 9) (hm : m < 10 ^ 9) (hq : q < 10 ^ 9) (hw : w ∈ wordsA) (hy : y = .non ∨ y = .int m) : ∀ c ∈ callsOf (.int p) (.int n) (.int m) (.int q) (.str w) y, CallOf c.1 c.2 := by
  have ip : ArgOf "integer" (.int p) := .inr (.inl ⟨.inl rfl, p, hp, rfl⟩)
  have in_ : ArgOf "integer" (.int n) := .inr (.inl ⟨.inl rfl, n, hn, rfl⟩)
  have im : ArgOf "integer" (.int m) := .inr (.inl ⟨.inl rfl, m, hm, rfl⟩)
  have iq : ArgOf "integer" (.int q) := .inr (.inl ⟨.inl rfl, q, hq, rfl⟩)
  have iw : ArgOf "word" (.str w) := .inl ⟨rfl, w, hw, rfl⟩
  have iy : ArgOf "optional" y := by
    rcases hy with rfl | rfl
    · exact .inr (.inr ⟨rfl, rfl⟩)
    · exact .inr (.inl ⟨.inr rfl, m, hm, rfl⟩)
  intro c hc
  unfold callsOf at hc
  simp only [List.cons_append, List.nil_append, List.mem_cons, List.not_mem_nil, or_false] at hc
  rcases hc with rfl | rfl | rfl | rfl | rfl | rfl | rfl | rfl | rfl | rfl | rfl | rfl | rfl | rfl | rfl | rfl
  · exact ⟨["integer"], by dsimp only; decide +kernel, ip, trivial⟩
  · exact ⟨["integer"], by dsimp only; decide +kernel, ip, trivial⟩
  · exact ⟨["integer"], by dsimp only; decide +kernel, ip, trivial⟩
  · exact ⟨["integer"], by dsimp only; decide +kernel, ip, trivial⟩
  · exact ⟨["integer"], by dsimp only; decide +kernel, ip, trivial⟩
  · exact ⟨["integer", "integer"], by dsimp only; decide +kernel, ip, in_, trivial⟩
  · exact ⟨["integer", "integer"], by dsimp only; decide +kernel, ip, in_, trivial⟩
  · exact ⟨["integer", "integer"], by dsimp only; decide +kernel, ip, in_, trivial⟩
  · exact ⟨["integer", "integer", "optional"], by dsimp only; decide +kernel, ip, in_, iy, trivial⟩
  · exact ⟨["integer", "integer", "optional"], by dsimp only; decide +kernel, ip, in_, iy, trivial⟩
  · exact ⟨["integer", "integer", "integer"], by dsimp only; decide +kernel, ip, in_, im, trivial⟩
  · exact ⟨["integer", "integer", "integer"], by dsimp only; decide +kernel, ip, in_, im, trivial⟩
  · exact ⟨["integer", "integer", "integer"], by dsimp only; decide +kernel, ip, in_, im, trivial⟩
  · exact ⟨["integer", "integer", "integer", "integer"], by dsimp only; decide +kernel, ip, in_, im, iq, trivial⟩
  · exact ⟨["integer", "integer", "integer", "integer", "word"], by dsimp only; decide +kernel, ip, in_, im, iq, iw, trivial⟩
  · exact ⟨["integer", "integer", "integer", "word"], by dsimp only; decide +kernel, ip, in_, im, iw, trivial⟩
theorem len_four {α : Type} {l : List α} (h : l.length = 4) : ∃ a b c d, l = [a, b, c, d] := by
  match l, h with
  | [a, b, c, d], _ => exact ⟨a, b, c, d, rfl⟩
section
variable {σ : Sg} {Q : Dt → Sg → Prop} {b : Nat}
theorem call_p (hs : σ[b]? = some .bag) (hQ : ∀ c : Str × List Dt, CallOf c.1 c.2 → Q (cDt c) σ) : p__law_call_ [.ref b] σ Q := by
  unfold p__law_call_
  simp_arith!
  unfold p__law_call
  refine seq_op fun N hN => ?_
  unfold p__law_call_1
  simp_arith!
  refine lcP_draw (h := fun n : Nat => Dt.int n) (P := fun n => n < 10 ^ 9) _ [] (fun d _ => ⟨_, rfl, fun Q hq => ?_, fun Q hq => ?_⟩) (by decide) fun l hl hn => ?_
  · simp_arith!
    exact hq
  · simp_arith!
    exact number_p hs hq
  obtain ⟨p, n, m, q, rfl⟩ := len_four hn
  have hp := hl p (by simp)
  have hn := hl n (by simp)
  have hm := hl m (by simp)
  have hq := hl q (by simp)
  simp_arith!
  refine hN _ _ ?_
  refine seq_op fun N hN => ?_
  unfold p__law_call_2
  simp_arith!
  refine of_lst hs (by simp) (by simp) fun d hd => ?_
  obtain ⟨w, rfl, hw⟩ : ∃ w, d = .str w ∧ w ∈ wordsA := by
    simp only [List.mem_cons, List.not_mem_nil, or_false] at hd
    rcases hd with rfl | rfl | rfl <;> exact ⟨_, rfl, by decide⟩
  refine of_lst hs (by simp) (by simp) fun y hy => ?_
  have hy : y = .non ∨ y = .int m := by simpa using hy
  refine hN _ _ ?_
  refine seq_op fun N hN => ?_
  unfold p__law_call_3
  simp_arith!
  refine hN _ _ ?_
  refine seq_op fun N hN => ?_
  unfold p__law_call_4
  simp_arith!
  refine hN _ _ ?_
  refine seq_op fun N hN => ?_
  unfold p__law_call_5
  simp_arith!
  refine hN _ _ ?_
  refine seq_op fun N hN => ?_
  unfold p__law_call_6
  simp_arith!
  refine hN _ _ ?_
  unfold p__law_call_7
  simp_arith!
  refine take_p hs (by omega) fun i i0 i1 => ?_
  have e := callsOf_ok hp hn hm hq hw hy
  have hlen : (callsOf (.int p) (.int n) (.int m) (.int q) (.str w) y).length = 16 := rfl
  have key := get_mem (l := (callsOf (.int p) (.int n) (.int m) (.int q) (.str w) y).map cDt) (i := i) (K := fun d => Q d σ) i0 (by rw [List.length_map, hlen]; omega) fun d hd => by
    obtain ⟨c, hc, rfl⟩ := List.mem_map.mp hd
    exact hQ c (e c hc)
  exact key
end

/-! ### a whole number's weight (k25) -/
theorem log_le {n : Nat} (h : n < 10 ^ 12) : n.log2 < 40 := by
  by_cases c : n = 0
  · rw [c]; decide
  · exact (Nat.log2_lt c).mpr (Nat.lt_of_lt_of_le h (by decide))
theorem wt_int {i : Int} (h : i.natAbs < 10 ^ 12) : PyData.weight (.int i) ≤ 41 := by
  have := log_le h
  show (if i == 0 then 0 else i.natAbs.log2 + 1) ≤ 41
  split <;> omega

/-! ### plain data that is small: repr tells it (the head of P521) -/
structure Sd (k D W : Nat) (d : Dt) (e : PyData) : Prop where
  p : ∀ j σ, k ≤ j → toP j σ d = some e
  s : smD e = true
  h : e.depth ≤ D
  w : e.weight ≤ W
theorem Sd.up {k D W k' D' W' : Nat} {d : Dt} {e : PyData} (a : Sd k D W d e) (hk : k ≤ k') (hD : D ≤ D') (hW : W ≤ W') : Sd k' D' W' d e := ⟨fun j σ q => a.p j σ (by omega), a.s, by have := a.h; omega, by have := a.w; omega⟩
theorem sd_non : Sd 0 1 0 .non .none := ⟨fun j σ _ => by cases j <;> rfl, rfl, by simp [PyData.depth], by simp [PyData.weight]⟩
theorem sd_int {i : Int} (h : i.natAbs < 10 ^ 12) : Sd 0 1 41 (.int i) (.int i) := ⟨fun j σ _ => by cases j <;> rfl, decide_eq_true h, by simp [PyData.depth], wt_int h⟩
theorem sd_str {x : Str} (h : PyData.strOk x = true) (hl : x.cps.size ≤ 100) : Sd 0 1 100 (.str x) (.str x) := ⟨fun j σ _ => by
  have : scaP (.str x) = some (.str x) := by
    show (if PyData.strOk x = true then some (PyData.str x) else none) = _
    rw [if_pos h]
  cases j <;> exact this, h, by simp [PyData.depth], hl⟩
theorem sds {k D W : Nat} : ∀ {ds : List Dt}, (∀ d ∈ ds, ∃ e, Sd k D W d e) → ∃ es, (∀ j σ, k ≤ j → allO (ds.map (toP j σ)) = some es) ∧ smDs es = true ∧ PyData.depthAll es ≤ D ∧ PyData.weightAll es ≤ ds.length * (W + 1)
  | [], _ => ⟨[], fun _ _ _ => rfl, rfl, by simp [PyData.depthAll], by simp [PyData.weightAll]⟩
  | d :: ds, h => by
    obtain ⟨e, a⟩ := h d List.mem_cons_self
    obtain ⟨es, b1, b2, b3, b4⟩ := sds fun x hx => h x (List.mem_cons_of_mem d hx)
    refine ⟨e :: es, fun j σ q => ?_, ?_, ?_, ?_⟩
    · rw [List.map_cons, a.p j σ q, allO, b1 j σ q]
    · show (smD e && smDs es) = true
      rw [a.s, b2]; rfl
    · have := a.h
      simp only [PyData.depthAll]
      omega
    · have := a.w
      rw [List.length_cons, Nat.add_mul, Nat.one_mul]
      show e.weight + 1 + PyData.weightAll es ≤ _
      omega
theorem sd_lst {k D W : Nat} {ds : List Dt} (h : ∀ d ∈ ds, ∃ e, Sd k D W d e) : ∃ e, Sd (k + 1) (D + 1) (ds.length * (W + 1)) (.lst ds) e := by
  obtain ⟨es, b1, b2, b3, b4⟩ := sds h
  refine ⟨.list es, fun j σ q => ?_, b2, ?_, b4⟩
  · cases j with
    | zero => omega
    | succ j =>
      show (allO (ds.map (toP j σ))).map PyData.list = _
      rw [b1 j σ (by omega)]
      rfl
  · rw [PyData.depth]
    omega
/-- repr tells a small answer -/
theorem sd_repr {k D W : Nat} {d : Dt} {e : PyData} (a : Sd k D W d e) (hk : k ≤ 8) (hD : D ≤ 100) (hW : W ≤ 1000000) (σ : Sg) : reprD [d] σ = some (.str e.shown) := by
  show (match datP σ d with
    | some d => if repOk d then some (Dt.str d.shown) else none
    | none => none) = _
  rw [show datP σ d = some e from a.p 8 σ hk]
  simp only
  rw [if_pos (rep_small a.s (by have := a.h; omega) (by have := a.w; omega))]

/-! ### plain data: what is the same is equal -/
theorem lay_allP {f : Dt → Option PyData} (h : ∀ v d, f v = some d → d.canLay0 = true) : ∀ {l : List Dt} {ds : List PyData}, allO (l.map f) = some ds → PyData.canLayAll0 ds = true
  | [], ds, e => by cases e; rfl
  | a :: l, ds, e => by
    rw [List.map_cons] at e
    cases ha : f a with
    | none => rw [ha, allO] at e; cases e
    | some d =>
      rw [ha, allO] at e
      split at e
      · cases e
      · rename_i r hr
        cases e
        rw [PyData.canLayAll0, h a d ha, lay_allP h hr]
        rfl
theorem scaP_lay {v : Dt} {d : PyData} (h : scaP v = some d) : d.canLay0 = true := by
  unfold scaP at h
  split at h
  · cases h; rfl
  · cases h; rfl
  · cases h; rfl
  · split at h
    · cases h
      rw [PyData.canLay0]
      assumption
    · cases h
  · cases h
theorem mapP_lay {f : Dt → Option PyData} (h : ∀ v d, f v = some d → d.canLay0 = true) {l : List Dt} {d : PyData} : (∀ e : (allO (l.map f)).map PyData.list = some d, d.canLay0 = true) ∧ (∀ e : (allO (l.map f)).map PyData.tuple = some d, d.canLay0 = true) := by
  constructor <;> intro e
  · obtain ⟨ds, h1, rfl⟩ := Option.map_eq_some_iff.mp e
    rw [PyData.canLay0]
    exact lay_allP h h1
  · obtain ⟨ds, h1, rfl⟩ := Option.map_eq_some_iff.mp e
    rw [PyData.canLay0]
    exact lay_allP h h1
theorem toP_lay {σ : Sg} : ∀ (k : Nat) (v : Dt) (d : PyData), toP k σ v = some d → d.canLay0 = true
  | 0, v, d, e => scaP_lay e
  | k + 1, v, d, e => by
    cases v with
    | tup vs => exact (mapP_lay (fun v d => toP_lay k v d)).2 e
    | lst vs => exact (mapP_lay (fun v d => toP_lay k v d)).1 e
    | ros vs => exact (mapP_lay (fun v d => toP_lay k v d)).1 e
    | ref j =>
      rw [toP] at e
      split at e
      · exact (mapP_lay (fun v d => toP_lay k v d)).1 e
      · cases e
    | non => exact scaP_lay e
    | bl _ => exact scaP_lay e
    | int _ => exact scaP_lay e
    | str _ => exact scaP_lay e
    | _ => unfold toP at e; cases e
theorem neD_self {σ : Sg} {x : Dt} {d : PyData} (h : datP σ x = some d) : neD x x σ = some (.bl false) := by
  unfold neD
  rw [h]
  simp only [SeqAt.eqv_refl _ (toP_lay _ _ _ h)]
  rfl
/-! ### repr of a call (k25) -/
theorem app_ok {a b : Str} (ha : PyData.strOk a = true) (hb : PyData.strOk b = true) : PyData.strOk (a ++ b) = true := by
  refine ok_all fun c hc => ?_
  rw [str_app] at hc
  rcases List.mem_append.mp hc with hc | hc
  · exact all_ok ha c hc
  · exact all_ok hb c hc
theorem shown_map : ∀ es : List PyData, PyData.shownAll es = es.map PyData.shown
  | [] => rfl
  | e :: es => by rw [PyData.shownAll, shown_map es]; rfl
theorem shownT_ok {es : List PyData} (h : ∀ e ∈ es, PyData.strOk e.shown = true) : PyData.strOk (PyData.tuple es).shown = true := by
  rw [PyData.shown, shown_map]
  unfold tupleText
  refine app_ok (app_ok (by decide +kernel) ?_) ?_
  · rw [← TL.join_eq]
    refine join_ok (by decide +kernel) fun p hp => ?_
    obtain ⟨e, he, rfl⟩ := List.mem_map.mp hp
    exact h e he
  · split <;> decide +kernel
/-- a part that is small and whose text is one -/
def PartOk (d : Dt) : Prop := ∃ e, Sd 0 1 100 d e ∧ PyData.strOk e.shown = true
theorem arg_part {k : Str} {d : Dt} (h : ArgOf k d) : PartOk d := by
  rcases h with ⟨rfl, w, hw, rfl⟩ | ⟨_, n, hn, rfl⟩ | ⟨rfl, rfl⟩
  · have hw' : w = "level" ∨ w = "edge" ∨ w = "once" := by
      unfold wordsA at hw
      simpa using hw
    rcases hw' with rfl | rfl | rfl <;> exact ⟨_, sd_str (by decide +kernel) (by decide +kernel), by decide +kernel⟩
  · refine ⟨_, (sd_int (i := (n : Int)) (by omega)).up (Nat.le_refl _) (Nat.le_refl _) (by omega), ?_⟩
    exact numTx_ok n
  · exact ⟨_, sd_non.up (Nat.le_refl _) (Nat.le_refl _) (by omega), by decide +kernel⟩
theorem word_part {z : Str} {ks : List Str} (h : kndOf z = some ks) : PartOk (.str z) := by
  obtain ⟨p, h1, rfl⟩ := Option.map_eq_some_iff.mp h
  have hz : p.1 = z := by simpa using List.find?_some h1
  have hm := List.mem_of_find?_eq_some h1
  subst hz
  have all : ∀ p ∈ KND, p.1.cps.size ≤ 100 ∧ PyData.strOk (PyData.str p.1).shown = true := by decide +kernel
  exact ⟨_, sd_str (knd_ok h) (all p hm).1, (all p hm).2⟩
theorem parts_all : ∀ {ds : List Dt}, (∀ d ∈ ds, PartOk d) → ∃ es, (∀ j σ, allO (ds.map (toP j σ)) = some es) ∧ smDs es = true ∧ PyData.depthAll es ≤ 1 ∧ PyData.weightAll es ≤ ds.length * 101 ∧ ∀ e ∈ es, PyData.strOk e.shown = true
  | [], _ => ⟨[], fun _ _ => rfl, rfl, by simp [PyData.depthAll], by simp [PyData.weightAll], fun _ z => nomatch z⟩
  | d :: ds, h => by
    obtain ⟨e, a, b⟩ := h d List.mem_cons_self
    obtain ⟨es, b1, b2, b3, b4, b5⟩ := parts_all fun x hx => h x (List.mem_cons_of_mem d hx)
    refine ⟨e :: es, fun j σ => ?_, ?_, ?_, ?_, ?_⟩
    · rw [List.map_cons, a.p j σ (Nat.zero_le _), allO, b1 j σ]
    · show (smD e && smDs es) = true
      rw [a.s, b2]; rfl
    · have := a.h
      simp only [PyData.depthAll]
      omega
    · have := a.w
      rw [List.length_cons, Nat.add_mul, Nat.one_mul]
      show e.weight + 1 + PyData.weightAll es ≤ _
      omega
    · intro x hx
      rcases List.mem_cons.mp hx with rfl | hx
      · exact b
      · exact b5 x hx
theorem call_sd {c : Str × List Dt} (h : CallOf c.1 c.2) : ∃ e, Sd 1 2 606 (cDt c) e ∧ PyData.strOk e.shown = true := by
  obtain ⟨ks, hk, ha⟩ := h
  have la := ha.len
  have l5 := knd_len hk
  obtain ⟨es, b1, b2, b3, b4, b5⟩ := parts_all (ds := .str c.1 :: c.2) fun d hd => by
    rcases List.mem_cons.mp hd with rfl | hd
    · exact word_part hk
    · obtain ⟨k, hk2⟩ := args_show ha d hd
      exact arg_part hk2
  refine ⟨.tuple es, ⟨fun j σ q => ?_, b2, ?_, ?_⟩, shownT_ok b5⟩
  · cases j with
    | zero => omega
    | succ j =>
      show (allO ((Dt.str c.1 :: c.2).map (toP j σ))).map PyData.tuple = _
      rw [b1 j σ]
      rfl
  · rw [PyData.depth]
    omega
  · show PyData.weightAll es ≤ 606
    rw [List.length_cons] at b4
    omega
theorem callrepr_p {c : Str × List Dt} (h : CallOf c.1 c.2) : ∃ z : Str, PyData.strOk z = true ∧ ∀ σ, reprD [cDt c] σ = some (.str z) := by
  obtain ⟨e, a, b⟩ := call_sd h
  exact ⟨e.shown, b, fun σ => sd_repr a (by omega) (by omega) (by omega) σ⟩
theorem row_repr {cs : List (Str × List Dt)} (h : ∀ c ∈ cs, CallOf c.1 c.2) (hl : cs.length ≤ 30) : ∃ z : Str, ∀ σ, reprD [.lst (cs.map cDt)] σ = some (.str z) := by
  obtain ⟨e, a⟩ := sd_lst (k := 1) (D := 2) (W := 606) (ds := cs.map cDt) fun d hd => by
    obtain ⟨c, hc, rfl⟩ := List.mem_map.mp hd
    obtain ⟨e, a, _⟩ := call_sd (h c hc)
    exact ⟨e, a⟩
  rw [List.length_map] at a
  exact ⟨e.shown, fun σ => sd_repr a (by omega) (by omega) (by omega) σ⟩
theorem row_dat {cs : List (Str × List Dt)} (h : ∀ c ∈ cs, CallOf c.1 c.2) (hl : cs.length ≤ 30) (σ : Sg) : ∃ e, datP σ (.lst (cs.map cDt)) = some e := by
  obtain ⟨e, a⟩ := sd_lst (k := 1) (D := 2) (W := 606) (ds := cs.map cDt) fun d hd => by
    obtain ⟨c, hc, rfl⟩ := List.mem_map.mp hd
    obtain ⟨e, a, _⟩ := call_sd (h c hc)
    exact ⟨e, a⟩
  exact ⟨e, a.p 8 σ (by omega)⟩

/-! ### k25: one turn (k25) -/
theorem neSD_same {x : Str} {σ : Sg} : neSD (.str x) (.str x) σ = some (.bl false) := by
  show some (Dt.bl (!decide (x = x))) = _
  rw [decide_eq_true rfl]
  rfl
theorem neD_two {x y : Str} (hx : PyData.strOk x = true) (hy : PyData.strOk y = true) (σ : Sg) : neD (.lst [.str x, .str y]) (.lst [.str x, .str y]) σ = some (.bl false) := by
  have e : datP σ (.lst [.str x, .str y]) = some (.list [.str x, .str y]) := by
    have h : ∀ z : Str, PyData.strOk z = true → toP 7 σ (.str z) = some (.str z) := fun z hz => by
      show (if PyData.strOk z = true then some (PyData.str z) else none) = _
      rw [if_pos hz]
    show (allO ([Dt.str x, Dt.str y].map (toP 7 σ))).map PyData.list = _
    rw [List.map_cons, List.map_cons, List.map_nil, h x hx, h y hy]
    rfl
  exact neD_self e
section
variable {σ : Sg} {Q : Dt → Sg → Prop} {b : Nat}
theorem pair25 {c : Str × List Dt} (h : CallOf c.1 c.2) {a0 a1 a2 a3 a4 a5 a8 a9 : Option Lc} {k : Kn} (hn : k.nx [a0, a1, a2, a3, a4, a5, some (.im (cDt c)), some (.im (.str (cTx c))), a8, a9] σ) : p_law_5 [a0, a1, a2, a3, a4, a5, some (.im (cDt c)), some (.im (.str (cTx c))), a8, a9] σ k := by
  obtain ⟨z, hz, er⟩ := callrepr_p h
  have hl : (callTx c.1 c.2).length ≤ 1000000 := Nat.le_trans (callTx_len h) (by decide)
  unfold p_law_5
  refine seq_op fun N hN => ?_
  simp_arith! [p_law_3]
  refine showcall_p h ?_
  simp_arith! [cTx, neSD_same]
  refine showcall_p h ?_
  simp_arith! [neSD_same]
  refine hN _ _ ?_
  simp_arith! [p_law_4]
  refine readcall_p h hl ?_
  have er1 := er σ
  unfold cDt at er1
  simp_arith! [er1]
  refine readcall_p h hl ?_
  simp_arith! [er1, cDt, neD_two hz hz]
  exact hn
theorem one25 {ns : List Int} {j : Nat} {a2 a3 a4 a5 a6 a7 a8 a9 : Option Lc} {k : Kn}
    (hn : ∀ a2 a3 a4 a5 a6 a7 a8 a9 σ, k.nx [some (.im (.ros (ns.map .int))), some (.im (.int (j : Nat))), a2, a3, a4, a5, a6, a7, a8, a9] σ) :
    p_law_8 [some (.im (.ros (ns.map .int))), some (.im (.int (j : Nat))), a2, a3, a4, a5, a6, a7, a8, a9] σ k := by
  unfold p_law_8
  refine seq_op fun N hN => ?_
  simp_arith!
  refine ⟨⟨ns, rfl⟩, by omega, ?_⟩
  refine hN _ _ ?_
  have hb : (σ ++ [Cel.bag])[σ.length]? = some .bag := by simp
  generalize σ ++ [Cel.bag] = σ2 at hb ⊢
  generalize σ.length = b at hb ⊢
  refine seq_op fun N hN => ?_
  simp_arith! [p_law_1]
  refine take_p hb (by omega) fun m m0 m1 => ?_
  simp_arith!
  have hlen : (rngD 0 m.toNat).length = m.toNat := by unfold rngD; rw [List.length_map, List.length_range]
  refine ⟨by omega, ?_⟩
  refine lcP_draw (h := cDt) (P := fun c => CallOf c.1 c.2) _ [] (fun d _ => ⟨_, rfl, fun Q hq => ?_, fun Q hq => ?_⟩) (by rw [hlen]; simp only [List.length_nil]; omega) fun l hl hn2 => ?_
  · simp_arith!
    exact hq
  · simp_arith!
    exact call_p hb hq
  rw [List.nil_append]
  have l30 : l.length ≤ 30 := by omega
  refine hN _ _ ?_
  refine seq_op fun N hN => ?_
  simp_arith! [p_law_2]
  refine lcP_all (h := cDt) (f := fun c => Dt.str (cTx c)) (rv := fun c => [some (.im (.ros (ns.map .int))), some (.im (.int (j : Nat))), some (.im (.ref b)), some (.im (.lst (l.map cDt))), a4, a5, some (.im (cDt c)), a7, a8, a9]) _ l [] (fun d _ => rfl) (fun d _ Q h => by simp_arith!; exact h) (fun c hc Q hQ => ?_) (by show 0 + l.length ≤ _; omega) ?_
  · simp_arith!
    exact lawtext_p (hl c hc) hQ
  rw [List.nil_append]
  refine hN _ _ ?_
  refine seq_op fun N hN => ?_
  simp_arith!
  refine ⟨by simp, ?_⟩
  have ez : zip2D (l.map cDt) (l.map fun c => Dt.str (cTx c)) = l.map fun c => Dt.tup [cDt c, .str (cTx c)] := by
    unfold zip2D
    clear hn2 l30
    induction l with
    | nil => rfl
    | cons c l ih =>
      simp only [List.map_cons, List.zip_cons_cons]
      rw [ih fun x hx => hl x (List.mem_cons_of_mem _ hx)]
  rw [ez]
  refine forP_list (f := fun c => Dt.tup [cDt c, .str (cTx c)]) (fun i r σ' => σ' = σ2 ∧ ∃ b6 b7, r = [some (.im (.ros (ns.map .int))), some (.im (.int (j : Nat))), some (.im (.ref b)), some (.im (.lst (l.map cDt))), a4, some (.im (.lst (l.map fun c => Dt.str (cTx c)))), b6, b7, a8, a9]) ⟨rfl, _, _, rfl⟩ (fun i c r σ' k' hc hi hb' hr hn' hc' => ?_) (fun r σ' hi => ?_)
  · obtain ⟨rfl, b6, b7, rfl⟩ := hi
    refine ⟨_, rfl, ?_⟩
    exact pair25 (hl c (List.mem_of_getElem? hc)) (hn' _ _ ⟨rfl, _, _, rfl⟩)
  obtain ⟨rfl, b6, b7, rfl⟩ := hi
  refine hN _ _ ?_
  refine seq_op fun N hN => ?_
  have ej : joinD (.str "\n") (.lst (l.map fun c => Dt.str (cTx c))) σ' = some (.str (rowTx l)) := by
    have := joinD_strs (σ := σ') (a := "\n") (l := l.map cTx) (row_fit hl l30)
    rw [List.map_map] at this
    exact this
  simp_arith! [ej]
  refine hN _ _ ?_
  refine seq_op fun N hN => ?_
  simp_arith!
  refine readcallsF_p hl l30 ?_
  refine hN _ _ ?_
  obtain ⟨z, er⟩ := row_repr hl l30
  refine seq_op fun N hN => ?_
  simp_arith! [p_law_6]
  refine showcalls_p (.inl rfl) hl l30 ?_
  simp_arith! [neSD_same]
  refine showcalls_p (.inr rfl) hl l30 ?_
  simp_arith! [neSD_same, er σ']
  refine hN _ _ ?_
  refine seq_op fun N hN => ?_
  simp_arith!
  refine ⟨by rw [List.length_map]; omega, hN _ _ ?_⟩
  obtain ⟨e, ed⟩ := row_dat hl l30 σ'
  simp_arith! [p_law_7]
  refine readcalls_p hl l30 ?_
  simp_arith! [neD_self ed]
  exact hn _ _ _ _ _ _ _ _ _
theorem law_p {ns : List Int} (hl : ns.length ≤ 63) : p_law_ [.ros (ns.map .int)] [] fun d _ => d = .bl true := by
  unfold p_law_
  try simp_arith!
  unfold p_law
  refine seq_op fun N hN1 => ?_
  simp_arith! [p_law_9, List.length_map]
  refine ⟨by split <;> split <;> omega, ?_⟩
  refine forP_rng (fun j r σ' => ∃ a1 a2 a3 a4 a5 a6 a7 a8 a9, r = [some (.im (.ros (ns.map .int))), a1, a2, a3, a4, a5, a6, a7, a8, a9]) ⟨_, _, _, _, _, _, _, _, _, rfl⟩ ?_ ?_
  · rintro j r σ' k' hj ⟨a1, a2, a3, a4, a5, a6, a7, a8, a9, rfl⟩ _ _ hn _
    refine ⟨_, rfl, ?_⟩
    rw [show (0 : Int) + ((j : Nat) : Int) = ((j : Nat) : Int) by omega]
    exact one25 fun a2 a3 a4 a5 a6 a7 a8 a9 σ' => hn _ _ ⟨_, _, _, _, _, _, _, _, _, rfl⟩
  rintro r σ' ⟨a1, a2, a3, a4, a5, a6, a7, a8, a9, rfl⟩
  refine hN1 _ _ ?_
  have oke : PyData.strOk ("" : Str) = true := by decide +kernel
  have e1 : eqD (.str (rowTx [])) (.str "") σ' = some (.bl true) := by
    rw [rowTx_nil, eqD_str oke oke]
    rfl
  have e2 : eqD (.lst []) (.lst []) σ' = some (.bl true) := rfl
  unfold p_law_10
  simp_arith!
  refine showcalls_p (cs := []) (.inl rfl) (fun _ z => nomatch z) (by simp) ?_
  simp_arith! [e1]
  rw [← rowTx_nil]
  refine readcalls_p (cs := []) (fun _ z => nomatch z) (by simp) ?_
  simp_arith! [e2]
end
theorem law_eq (μ : Mu) (s : Nat) (ns : List Int) (hl : ns.length ≤ 63) (hs : seqOf μ s = some (ns.map Val.int)) (sl : s < μ.nx) : Gets (d_law [.loc s] μ) fun v _ => v = .bl true := law_plain sd_law hs sl (law_p hl)

/-! ### the end -/
theorem facts {w : World} {K : PySem.W.Frag} {mg : Str → Option Value} {fa : Addr} {h : Heap} (X : K.In h) (G : h.Ns mainGlobals mg) (hf : mg ("law" : Str) = some (.ref fa)) (c : SaysW fcL fwL tsL tfL w h K) : LawG PySem.Challenge.rw_waitnumbers_k25_texts_of_calls w K CX0 5 63 "_law_script" mg fa h := by
  have T := tx_of X G c
  have e : fa = gA "law" K := by
    have z := hf.symm.trans T.g_law
    cases z
    rfl
  subst e
  have b := FunD.bindsA (ps := ["_law_script"]) T.f_law fun _ _ _ _ _ _ us hl => match us, hl with | [_], _ => rfl
  have tl : ∀ x ∈ lamL, ((x, none) : Defn) ∈ tfL := by decide
  have cm : ∀ p ∈ lamL.map (fun x => cT K (x, none)), ∃ q ∈ tfL, p = cT K q := fun p hp => by
    obtain ⟨x, hx, rfl⟩ := List.mem_map.mp hp
    exact ⟨_, tl x hx, rfl⟩
  refine ⟨_, lamL.map (fun x => cT K (x, none)), spM K 1 d_law, fun p hp => ?_, fun p hp => ?_, fun p hp => ?_, fun s u => b s [u] rfl, fun H a ns hl hH hS => law_sp law_eq H a ns hl (fun p hp => ?_) hS, fun base _ _ TB => okm_law T (c.x.t.tab 0 rfl) ⟩
  · obtain ⟨q, hq, rfl⟩ := cm p hp
    exact c.x.empty q hq
  · obtain ⟨q, hq, rfl⟩ := cm p hp
    exact c.x.out q hq
  · obtain ⟨q, hq, rfl⟩ := cm p hp
    exact PySem.W.codeHd_of_K X (c.x.hd q hq)
  · obtain ⟨x, hx, rfl⟩ := List.mem_map.mp hp
    exact ⟨#[], hH _ (List.mem_map.mpr ⟨x, hx, rfl⟩), True.intro, fun pos cv h => nomatch h⟩

end Wn

open PySem PySem.W PySem.Calls PyProof.Rows
theorem PySem.Challenge.cw_waitnumbers_k25_texts_of_calls_holds : PySem.Challenge.rw_waitnumbers_k25_texts_of_calls.Holds := by
  w_on; o_law
  refine HandSHeadRun.head_any (r := OpenLaw.row PySem.Challenge.rw_waitnumbers_k25_texts_of_calls) (q := view (OpenLaw.row PySem.Challenge.rw_waitnumbers_k25_texts_of_calls).prog [26]) (H := Wn.hk) (ob := Wn.obs) (M := 60000) (loose := Wn.loose) (d := HandSHeadRun.topDef (OpenLaw.row PySem.Challenge.rw_waitnumbers_k25_texts_of_calls).prog 26) (kwd := []) Wn.obs_eq
    (by kernel_rfl) (fun s => by kernel_rfl) Wn.run (by kernel_rfl) (by kernel_rfl) (by kernel_rfl) (by rfl) (by first | assumption | decide +kernel) (by decide +kernel) ⟨rfl, rfl, rfl, rfl, rfl, by decide +kernel⟩ ?hw ?hc
  case hw => w_witness2
  case hc =>
    refine Wn.walk_g (l := PySem.Challenge.rw_waitnumbers_k25_texts_of_calls) (n := 63) (k := 5) (x := "_law_script") (CX := fun _ => L2.CX0) rfl (by decide) (by kernel_rfl) ⟨rfl, by decide, by decide⟩ ?F (fun _ _ _ _ _ z => z)
    intro w mg fa h ⟨K, KX, c⟩ G hm
    have e : (HandSHeadRun.topDef (OpenLaw.row PySem.Challenge.rw_waitnumbers_k25_texts_of_calls).prog 26).name = ("law" : PySem.Str) := by kernel_rfl
    exact ⟨K, KX, Wn.facts KX G (by rw [← e]; exact hm) c⟩
